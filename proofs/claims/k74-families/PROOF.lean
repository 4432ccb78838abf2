import PyProof.Rows.All
import Wide.All
import OpenK.AllK
import Wide.FinOn
import HandS.ForMost
import HandS.Exc
import HandS.TryMany
import HandS.ExcInit
import HandS.ExcField
import HandS.ExcIs
import HandS.IsInst
import HandS.Gcd
import HandS.TupAny
import HandS.Wide
import HandS.WordsExc
import HandS.SortRule
import HandS.SortInts
import HandS.TupSets
import PyProof.ReprBulk
import PyProof.ReprRoads
import PyProof.Rows.NestShow
import HandS.EndBits
import PySem.Challenge.RW_asinrealtime_k74_families_counted
set_option Elab.async false
set_option linter.all false
set_option maxRecDepth 100000
set_option maxHeartbeats 4000000
/-! The by-value mirror: domain, relation, readings. -/
namespace Mn
open PySem PySem.Spec PyProof.Rows L2

abbrev Fg := PySem.W.Frag
abbrev Sg := L2.St

/-- a value by value; `obj n`: the n-th object of the small heap -/
inductive D where
  | non | bl (b : Bool) | int (i : Int) | str (x : Str) | tup (l : List D) | fl (l : List D) | fz (l : List D) | obj (n : Nat)

inductive O where
  | lst (l : List D) | dct (l : List (Key × D))

abbrev G := List O
abbrev Rho := List (Option D)

inductive Res (α : Type) where
  | ok (a : α) (g : G) | exc (c : Str) (fs : List (Str × D)) (r : Rho) (g : G) | no

def Res.bind {α γ : Type} (r : Res α) (f : α → G → Res γ) : Res γ :=
  match r with
  | .ok a g => f a g
  | .exc c fs ρ g => .exc c fs ρ g
  | .no => .no

/-! ### the relation -/
def hp0 : Hp := fun _ => none
def TupAt (K : Fg) (H : Hp) (a : Addr) (vs : List V) : Prop := H a = some (.tup vs) ∨ SqT K hp0 a vs
/-- a list that nobody writes any more -/
def FlAt (β ι : List Addr) (H : Hp) (a : Addr) (vs : List V) : Prop := a ∉ ι ∧ a ∉ β ∧ H a = some (.lst vs)
/-- the script; a list of the text's top -/
def FzAt (K : Fg) (ι : List Addr) (H : Hp) (a : Addr) (vs : List V) : Prop := (a ∉ ι ∧ ∃ o, H a = some (.frz o (.lst vs))) ∨ SqL K hp0 a vs

mutual
def DR (K : Fg) (β ι : List Addr) (H : Hp) : D → V → Prop
  | .non, v => v = .non
  | .bl b, v => v = .bl b
  | .int i, v => v = .int i
  | .str x, v => v = .str x
  | .tup l, v => ∃ a vs, v = .ref a ∧ TupAt K H a vs ∧ DRs K β ι H l vs
  | .fl l, v => ∃ a vs, v = .ref a ∧ FlAt β ι H a vs ∧ DRs K β ι H l vs
  | .fz l, v => ∃ a vs, v = .ref a ∧ FzAt K ι H a vs ∧ DRs K β ι H l vs
  | .obj n, v => ∃ a, v = .ref a ∧ ι[n]? = some a
def DRs (K : Fg) (β ι : List Addr) (H : Hp) : List D → List V → Prop
  | [], vs => vs = []
  | d :: ds, vs => ∃ v ws, vs = v :: ws ∧ DR K β ι H d v ∧ DRs K β ι H ds ws
end
def KR (K : Fg) (β ι : List Addr) (H : Hp) : List (Key × D) → List (Key × V) → Prop
  | [], ws => ws = []
  | p :: r, ws => ∃ v us, ws = (p.1, v) :: us ∧ DR K β ι H p.2 v ∧ KR K β ι H r us
def FR (K : Fg) (β ι : List Addr) (H : Hp) : List (Str × D) → List (Str × V) → Prop
  | [], ws => ws = []
  | p :: r, ws => ∃ v us, ws = (p.1, v) :: us ∧ DR K β ι H p.2 v ∧ FR K β ι H r us
def OR (K : Fg) (β ι : List Addr) (H : Hp) : O → HO → Prop
  | .lst l, ho => ∃ vs, ho = .lst vs ∧ DRs K β ι H l vs
  | .dct l, ho => ∃ ws, ho = .dK ws ∧ KR K β ι H l ws

structure Rl (K : Fg) (β ι : List Addr) (g : G) (H : Hp) : Prop where
  len : ι.length = g.length
  nd : ι.Nodup
  at_ : ∀ (n : Nat) (a : Addr) (o : O), ι[n]? = some a → g[n]? = some o → ∃ ho, H a = some ho ∧ OR K β ι H o ho
  bt : ∀ b ∈ β, b ∉ ι ∧ H b ≠ none

/-- what may have changed: the small heap's objects alone; what is new was not tracked -/
structure Ex (ι : List Addr) (H : Hp) (ι' : List Addr) (H' : Hp) : Prop where
  pre : ∃ new, ι' = ι ++ new ∧ ∀ a ∈ new, H a = none
  fr : ∀ a o, H a = some o → a ∉ ι → H' a = some o
  dom : ∀ a, H a ≠ none → H' a ≠ none

theorem Ex.refl (ι : List Addr) (H : Hp) : Ex ι H ι H := ⟨⟨[], by simp, by simp⟩, fun _ _ h _ => h, fun _ h => h⟩
theorem Ex.trans {ι ι1 ι2 : List Addr} {H H1 H2 : Hp} (e : Ex ι H ι1 H1) (f : Ex ι1 H1 ι2 H2) : Ex ι H ι2 H2 := by
  obtain ⟨n1, r1, p1⟩ := e.pre
  obtain ⟨n2, r2, p2⟩ := f.pre
  refine ⟨⟨n1 ++ n2, by rw [r2, r1, List.append_assoc], fun a ha => ?_⟩, fun a o h hn => ?_, fun a h => f.dom a (e.dom a h)⟩
  · rcases List.mem_append.mp ha with h | h
    · exact p1 a h
    · cases q : H a with
      | none => rfl
      | some o => exact absurd (p2 a h) (e.dom a (by rw [q]; simp))
  · refine f.fr a o (e.fr a o h hn) ?_
    rw [r1]
    intro hm
    rcases List.mem_append.mp hm with z | z
    · exact hn z
    · rw [p1 a z] at h; cases h

section
variable {K : Fg} {β ι ι' : List Addr} {g g' : G} {H H' : Hp}
theorem Rl.mem (r : Rl K β ι g H) {a : Addr} (h : a ∈ ι) : ∃ (n : Nat) (o : O) (ho : HO), ι[n]? = some a ∧ g[n]? = some o ∧ H a = some ho ∧ OR K β ι H o ho := by
  obtain ⟨n, hn⟩ := List.getElem?_of_mem h
  have hl : n < g.length := by
    have := (List.getElem?_eq_some_iff.mp hn).1
    rw [r.len] at this; exact this
  obtain ⟨ho, e, q⟩ := r.at_ n a g[n] hn (List.getElem?_eq_getElem hl)
  exact ⟨n, _, ho, hn, List.getElem?_eq_getElem hl, e, q⟩
theorem Rl.free (r : Rl K β ι g H) {p : Addr} (h : H p = none) : p ∉ ι ∧ p ∉ β := by
  refine ⟨fun z => ?_, fun z => (r.bt p z).2 h⟩
  obtain ⟨_, _, _, _, _, e, _⟩ := r.mem z
  rw [h] at e; cases e
theorem Rl.notTup (r : Rl K β ι g H) {a : Addr} {vs : List V} (e : H a = some (.tup vs)) : a ∉ ι := fun h => by
  obtain ⟨n, o, ho, _, _, e', q⟩ := r.mem h
  rw [e] at e'; cases e'
  cases o with
  | lst l => obtain ⟨_, z, _⟩ := q; cases z
  | dct l => obtain ⟨_, z, _⟩ := q; cases z
theorem TupAt.keep (r : Rl K β ι g H) (x : Ex ι H ι' H') {a : Addr} {vs : List V} (h : TupAt K H a vs) : TupAt K H' a vs := by
  rcases h with h | h
  · exact .inl (x.fr a _ h (r.notTup h))
  · exact .inr h
theorem Ex.out (x : Ex ι H ι' H') {a : Addr} {o : HO} (h : H a = some o) (hn : a ∉ ι) : a ∉ ι' := by
  obtain ⟨nw, e, p⟩ := x.pre
  rw [e]
  intro hm
  rcases List.mem_append.mp hm with z | z
  · exact hn z
  · rw [p a z] at h; cases h
theorem FlAt.keep (x : Ex ι H ι' H') {a : Addr} {vs : List V} (h : FlAt β ι H a vs) : FlAt β ι' H' a vs := ⟨x.out h.2.2 h.1, h.2.1, x.fr a _ h.2.2 h.1⟩
theorem FzAt.keep (x : Ex ι H ι' H') {a : Addr} {vs : List V} (h : FzAt K ι H a vs) : FzAt K ι' H' a vs := by
  rcases h with ⟨hn, o, h⟩ | h
  · exact .inl ⟨x.out h hn, o, x.fr a _ h hn⟩
  · exact .inr h
theorem Ex.ix (x : Ex ι H ι' H') {n : Nat} {a : Addr} (h : ι[n]? = some a) : ι'[n]? = some a := by
  obtain ⟨nw, e, p⟩ := x.pre
  rw [e, List.getElem?_append_left (List.getElem?_eq_some_iff.mp h).1]
  exact h
mutual
theorem DR.keep (r : Rl K β ι g H) (x : Ex ι H ι' H') : ∀ (d : D) (v : V), DR K β ι H d v → DR K β ι' H' d v
  | .non, _, h => by unfold DR at *; exact h
  | .bl _, _, h => by unfold DR at *; exact h
  | .int _, _, h => by unfold DR at *; exact h
  | .str _, _, h => by unfold DR at *; exact h
  | .tup l, v, h => by
    unfold DR at *
    obtain ⟨a, vs, e, t, q⟩ := h
    exact ⟨a, vs, e, t.keep r x, DRs.keep r x l vs q⟩
  | .fl l, v, h => by
    unfold DR at *
    obtain ⟨a, vs, e, t, q⟩ := h
    exact ⟨a, vs, e, t.keep x, DRs.keep r x l vs q⟩
  | .fz l, v, h => by
    unfold DR at *
    obtain ⟨a, vs, e, t, q⟩ := h
    exact ⟨a, vs, e, t.keep x, DRs.keep r x l vs q⟩
  | .obj n, v, h => by
    unfold DR at *
    obtain ⟨a, e, q⟩ := h
    exact ⟨a, e, x.ix q⟩
theorem DRs.keep (r : Rl K β ι g H) (x : Ex ι H ι' H') : ∀ (ds : List D) (vs : List V), DRs K β ι H ds vs → DRs K β ι' H' ds vs
  | [], _, h => by unfold DRs at *; exact h
  | d :: ds, vs, h => by
    unfold DRs at *
    obtain ⟨v, ws, e, q1, q2⟩ := h
    exact ⟨v, ws, e, DR.keep r x d v q1, DRs.keep r x ds ws q2⟩
end
theorem KR.keep (r : Rl K β ι g H) (x : Ex ι H ι' H') : ∀ (l : List (Key × D)) (ws : List (Key × V)), KR K β ι H l ws → KR K β ι' H' l ws
  | [], _, h => by unfold KR at *; exact h
  | p :: l, ws, h => by
    unfold KR at *
    obtain ⟨v, us, e, q1, q2⟩ := h
    exact ⟨v, us, e, DR.keep r x _ v q1, KR.keep r x l us q2⟩
theorem FR.keep (r : Rl K β ι g H) (x : Ex ι H ι' H') : ∀ (l : List (Str × D)) (ws : List (Str × V)), FR K β ι H l ws → FR K β ι' H' l ws
  | [], _, h => by unfold FR at *; exact h
  | p :: l, ws, h => by
    unfold FR at *
    obtain ⟨v, us, e, q1, q2⟩ := h
    exact ⟨v, us, e, DR.keep r x _ v q1, FR.keep r x l us q2⟩
theorem OR.keep (r : Rl K β ι g H) (x : Ex ι H ι' H') {o : O} {ho : HO} (h : OR K β ι H o ho) : OR K β ι' H' o ho := by
  cases o with
  | lst l => obtain ⟨vs, e, q⟩ := h; exact ⟨vs, e, DRs.keep r x l vs q⟩
  | dct l => obtain ⟨ws, e, q⟩ := h; exact ⟨ws, e, KR.keep r x l ws q⟩

/-! ### a new object, a written one -/
theorem Ex.laid {p : Addr} {o : HO} (hp : H p = none) : Ex ι H ι (upd H p o) :=
  ⟨⟨[], by simp, by simp⟩, fun a u h _ => by rw [upd_ne (ne_of_none h hp)]; exact h, fun a h => by
    by_cases e : a = p
    · subst e; rw [upd_same]; simp
    · rw [upd_ne e]; exact h⟩
theorem Ex.own {p : Addr} {o : HO} (hp : H p = none) : Ex ι H (ι ++ [p]) (upd H p o) :=
  ⟨⟨[p], rfl, by simpa using hp⟩, fun a u h _ => by rw [upd_ne (ne_of_none h hp)]; exact h, fun a h => by
    by_cases e : a = p
    · subst e; rw [upd_same]; simp
    · rw [upd_ne e]; exact h⟩
theorem Ex.wrote {p : Addr} {o : HO} (hp : p ∈ ι) : Ex ι H ι (upd H p o) :=
  ⟨⟨[], by simp, by simp⟩, fun a u h hn => by rw [upd_ne (by rintro rfl; exact hn hp)]; exact h, fun a h => by
    by_cases e : a = p
    · subst e; rw [upd_same]; simp
    · rw [upd_ne e]; exact h⟩
/-- the object is not the small heap's -/
theorem Rl.laid (r : Rl K β ι g H) {p : Addr} {o : HO} (hp : H p = none) : Rl K β ι g (upd H p o) := by
  refine ⟨r.len, r.nd, fun n a ob h1 h2 => ?_, fun b hb => ⟨(r.bt b hb).1, (Ex.laid (ι := ι) hp).dom b (r.bt b hb).2⟩⟩
  obtain ⟨ho, e, q⟩ := r.at_ n a ob h1 h2
  exact ⟨ho, by rw [upd_ne (ne_of_none e hp)]; exact e, q.keep r (Ex.laid hp)⟩
theorem Rl.own (r : Rl K β ι g H) {p : Addr} {ho : HO} {ob : O} (hp : H p = none) (q : OR K β (ι ++ [p]) (upd H p ho) ob ho) : Rl K β (ι ++ [p]) (g ++ [ob]) (upd H p ho) := by
  have hpi : p ∉ ι := fun h => by
    obtain ⟨_, _, _, _, _, e, _⟩ := r.mem h
    rw [hp] at e; cases e
  refine ⟨by simp [r.len], ?_, fun n a o h1 h2 => ?_, fun b hb => ⟨fun hm => ?_, (Ex.own (ι := ι) hp).dom b (r.bt b hb).2⟩⟩
  · rw [List.nodup_append]
    refine ⟨r.nd, by simp, fun a ha b hb => ?_⟩
    have : b = p := by simpa using hb
    subst this
    intro e; subst e; exact hpi ha
  · by_cases hn : n < ι.length
    · rw [List.getElem?_append_left hn] at h1
      rw [List.getElem?_append_left (by rw [← r.len]; exact hn)] at h2
      obtain ⟨ho', e, q'⟩ := r.at_ n a o h1 h2
      exact ⟨ho', by rw [upd_ne (ne_of_none e hp)]; exact e, q'.keep r (Ex.own hp)⟩
    · rw [List.getElem?_append_right (by omega)] at h1
      rw [List.getElem?_append_right (by rw [← r.len]; omega)] at h2
      have e0 : n - ι.length = 0 := by
        have h3 := (List.getElem?_eq_some_iff.mp h1).1
        simp only [List.length_cons, List.length_nil] at h3
        omega
      rw [e0] at h1
      rw [← r.len, e0] at h2
      simp at h1 h2
      subst h1; subst h2
      exact ⟨ho, upd_same, q⟩
  · rcases List.mem_append.mp hm with z | z
    · exact (r.bt b hb).1 z
    · have e : b = p := by simpa using z
      subst e
      exact (r.bt b hb).2 hp
theorem Rl.wrote (r : Rl K β ι g H) {n : Nat} {p : Addr} {ho : HO} {ob : O} (hp : ι[n]? = some p) (q : OR K β ι (upd H p ho) ob ho) : Rl K β ι (g.set n ob) (upd H p ho) := by
  have hm : p ∈ ι := List.mem_of_getElem? hp
  refine ⟨by rw [List.length_set]; exact r.len, r.nd, fun m a o h1 h2 => ?_, fun b hb => ⟨(r.bt b hb).1, (Ex.wrote hm).dom b (r.bt b hb).2⟩⟩
  by_cases e : m = n
  · subst e
    rw [h1] at hp; cases hp
    have hl : m < g.length := by
      have := (List.getElem?_eq_some_iff.mp h1).1
      rw [r.len] at this; exact this
    rw [List.getElem?_set_self hl] at h2
    cases h2
    exact ⟨ho, upd_same, q⟩
  · rw [List.getElem?_set_ne (Ne.symm e)] at h2
    obtain ⟨ho', e', q'⟩ := r.at_ m a o h1 h2
    have ne : a ≠ p := fun z => by
      subst z
      obtain ⟨i1, j1⟩ := List.getElem?_eq_some_iff.mp h1
      obtain ⟨i2, j2⟩ := List.getElem?_eq_some_iff.mp hp
      exact e ((List.getElem_inj r.nd).mp (j1.trans j2.symm))
    exact ⟨ho', by rw [upd_ne ne]; exact e', q'.keep r (Ex.wrote hm)⟩
end

/-! ### slots -/
def SR (K : Fg) (β ι : List Addr) (H : Hp) (ρ : Rho) (σ : Sg) : Prop :=
  ρ.length = σ.length ∧ ∀ (i : Nat) (d : D), ρ[i]? = some (some d) → ∃ v, σ[i]? = some (some v) ∧ DR K β ι H d v
section
variable {K : Fg} {β ι ι' : List Addr} {g g' : G} {H H' : Hp} {ρ : Rho} {σ : Sg}
theorem SR.keep (r : Rl K β ι g H) (x : Ex ι H ι' H') (h : SR K β ι H ρ σ) : SR K β ι' H' ρ σ :=
  ⟨h.1, fun i d e => by
    obtain ⟨v, e', q⟩ := h.2 i d e
    exact ⟨v, e', DR.keep r x d v q⟩⟩
theorem SR.set (h : SR K β ι H ρ σ) {d : D} {v : V} (q : DR K β ι H d v) (i : Nat) : SR K β ι H (ρ.set i (some d)) (σ.set i (some v)) := by
  refine ⟨by simp [h.1], fun j e hj => ?_⟩
  by_cases hij : i = j
  · subst hij
    by_cases hl : i < ρ.length
    · rw [List.getElem?_set_self hl] at hj
      cases hj
      exact ⟨v, by rw [List.getElem?_set_self (by rw [← h.1]; exact hl)], q⟩
    · rw [List.getElem?_eq_none (by simpa using hl)] at hj; cases hj
  · rw [List.getElem?_set_ne hij] at hj ⊢
    exact h.2 j e hj
end

/-! ### readings -/
abbrev EM := Rho → G → Res D
abbrev TM := Rho → G → Res Bool
abbrev AM := Rho → G → Res (List D)
/-- what flows out of a statement -/
inductive Fl where
  | nx (r : Rho) | rt (d : D) | bk (r : Rho) | ct (r : Rho)
abbrev SM := Rho → G → Res Fl

def bindE {α : Type} (m : EM) (f : D → Rho → G → Res α) : Rho → G → Res α := fun ρ g => (m ρ g).bind fun d g1 => f d ρ g1
def bindA {α : Type} (m : AM) (f : List D → Rho → G → Res α) : Rho → G → Res α := fun ρ g => (m ρ g).bind fun d g1 => f d ρ g1
def bindT {α : Type} (m : TM) (f : Bool → Rho → G → Res α) : Rho → G → Res α := fun ρ g => (m ρ g).bind fun d g1 => f d ρ g1

/-- the exception's own dict at x -/
def XAt (K : Fg) (β ι : List Addr) (H : Hp) (x : Addr) (fs : List (Str × D)) : Prop := ∃ ws, H x = some (.xd ws) ∧ FR K β ι H fs ws

section
variable (K : Fg) (β : List Addr) (ca : Str → Addr) (W : WX)
/-- after some steps from (ι, H): the result's meaning -/
def Post {α γ : Type} (R : List Addr → Hp → α → γ → Prop) (ι : List Addr) (H : Hp) (r : Res α) (Q : γ → Hp → Prop) : Prop :=
  match r with
  | .ok a g' => ∀ ι' v H', Ex ι H ι' H' → Rl K β ι' g' H' → R ι' H' a v → Q v H'
  | .exc c fs ρ' g' => ∀ ι' σ' H' x, Ex ι H ι' H' → Rl K β ι' g' H' → SR K β ι' H' ρ' σ' → XAt K β ι' H' x fs → W (.ref (ca c)) (some x) σ' H'
  | .no => False
def tE (K : Fg) (ca : Str → Addr) (W : WX) (m : EM) : TE := fun σ H Q => ∃ β ι ρ g, Rl K β ι g H ∧ SR K β ι H ρ σ ∧ Post K β ca W (fun ι' H' d v => DR K β ι' H' d v) ι H (m ρ g) Q
def tA (K : Fg) (ca : Str → Addr) (W : WX) (m : AM) : TA := fun σ H Q => ∃ β ι ρ g, Rl K β ι g H ∧ SR K β ι H ρ σ ∧ Post K β ca W (fun ι' H' ds vs => DRs K β ι' H' ds vs) ι H (m ρ g) Q
def tT (K : Fg) (ca : Str → Addr) (W : WX) (m : TM) : TT := fun σ H Q => ∃ β ι ρ g, Rl K β ι g H ∧ SR K β ι H ρ σ ∧ Post K β ca W (fun _ _ (b c : Bool) => b = c) ι H (m ρ g) Q
def PostS (ι : List Addr) (H : Hp) (r : Res Fl) (E : Ends) : Prop :=
  match r with
  | .ok (.nx ρ') g' => ∀ ι' σ' H', Ex ι H ι' H' → Rl K β ι' g' H' → SR K β ι' H' ρ' σ' → E.nx σ' H'
  | .ok (.rt d) g' => ∀ ι' v H', Ex ι H ι' H' → Rl K β ι' g' H' → DR K β ι' H' d v → E.rt v H'
  | .ok (.bk ρ') g' => ∀ ι' σ' H', Ex ι H ι' H' → Rl K β ι' g' H' → SR K β ι' H' ρ' σ' → E.bk σ' H'
  | .ok (.ct ρ') g' => ∀ ι' σ' H', Ex ι H ι' H' → Rl K β ι' g' H' → SR K β ι' H' ρ' σ' → E.ct σ' H'
  | .exc c fs ρ' g' => ∀ ι' σ' H' x, Ex ι H ι' H' → Rl K β ι' g' H' → SR K β ι' H' ρ' σ' → XAt K β ι' H' x fs → W (.ref (ca c)) (some x) σ' H'
  | .no => False
def tS (K : Fg) (ca : Str → Addr) (W : WX) (m : SM) : TS := fun E σ H => ∃ β ι ρ g, Rl K β ι g H ∧ SR K β ι H ρ σ ∧ PostS K β ca W ι H (m ρ g) E
end

section
variable {K : Fg} {ca : Str → Addr} {W : WX} {α γ : Type} {R : List Addr → Hp → α → γ → Prop} {β ι ι1 : List Addr} {H H1 : Hp} {Q Q' : γ → Hp → Prop}
theorem Post.from (x : Ex ι H ι1 H1) {r : Res α} (h : Post K β ca W R ι H r Q) : Post K β ca W R ι1 H1 r Q := by
  cases r with
  | ok a g => exact fun ι' v H' x' => h ι' v H' (x.trans x')
  | exc c fs ρ g => exact fun ι' σ' H' p x' => h ι' σ' H' p (x.trans x')
  | no => exact h
theorem PostS.from (x : Ex ι H ι1 H1) {r : Res Fl} {E : Ends} (h : PostS K β ca W ι H r E) : PostS K β ca W ι1 H1 r E := by
  cases r with
  | ok a g => cases a <;> exact fun ι' v H' x' => h ι' v H' (x.trans x')
  | exc c fs ρ g => exact fun ι' σ' H' p x' => h ι' σ' H' p (x.trans x')
  | no => exact h
end

theorem peOf {X : Cx} {e : Expr} {t t' : TE} (p : PE X e t) (h : ∀ σ H Q, t' σ H Q → t σ H Q) : PE X e t' := ⟨fun pins s σ H Q I q => p.run pins s σ H Q I (h σ H Q q)⟩
theorem ptOf {X : Cx} {e : Expr} {t t' : TT} (p : PT X e t) (h : ∀ σ H Q, t' σ H Q → t σ H Q) : PT X e t' := ⟨fun pins s σ H Q I q => p.run pins s σ H Q I (h σ H Q q)⟩
theorem pwOf {X : Cx} {e : Expr} {t t' : TT} (p : PW X e t) (h : ∀ σ H Q, t' σ H Q → t σ H Q) : PW X e t' := ⟨fun wh pins s σ H Q I q => p.run wh pins s σ H Q I (h σ H Q q)⟩
theorem paOf {X : Cx} {e : List Expr} {t t' : TA} (p : PA X e t) (h : ∀ σ H Q, t' σ H Q → t σ H Q) : PA X e t' := ⟨fun po pins s σ H Q I q => p.run po pins s σ H Q I (h σ H Q q)⟩
theorem psOf {X : Cx} {e : Stmt} {t t' : TS} (p : PS X e t) (h : ∀ E σ H, t' E σ H → t E σ H) : PS X e t' := ⟨fun pins s σ H E I q => p.run pins s σ H E I (h E σ H q)⟩
theorem pssOf {X : Cx} {e : List Stmt} {t t' : TS} (p : PSs X e t) (h : ∀ E σ H, t' E σ H → t E σ H) : PSs X e t' := ⟨fun pins s σ H E I q => p.run pins s σ H E I (h E σ H q)⟩

section
variable {K : Fg} {ca : Str → Addr} {W : WX}
/-- one part, then the rest -/
theorem tE_bind {α γ : Type} {R : List Addr → Hp → α → γ → Prop} {m : EM} {f : D → Rho → G → Res α} {σ : Sg} {β ι : List Addr} {ρ : Rho} {g : G} {H : Hp} {Q : γ → Hp → Prop} (r : Rl K β ι g H) (s : SR K β ι H ρ σ)
    (h : Post K β ca W R ι H (bindE m f ρ g) Q) :
    tE K ca W m σ H fun v H1 => ∃ ι1 d g1, Ex ι H ι1 H1 ∧ Rl K β ι1 g1 H1 ∧ SR K β ι1 H1 ρ σ ∧ DR K β ι1 H1 d v ∧ Post K β ca W R ι1 H1 (f d ρ g1) Q := by
  refine ⟨β, ι, ρ, g, r, s, ?_⟩
  unfold bindE at h
  cases q : m ρ g with
  | ok d g1 =>
    rw [q] at h
    exact fun ι1 v H1 x r1 dv => ⟨ι1, d, g1, x, r1, s.keep r x, dv, Post.from x h⟩
  | exc c fs ρ' g1 =>
    rw [q] at h
    exact h
  | no => rw [q] at h; exact h
theorem tA_bind {α γ : Type} {R : List Addr → Hp → α → γ → Prop} {m : AM} {f : List D → Rho → G → Res α} {σ : Sg} {β ι : List Addr} {ρ : Rho} {g : G} {H : Hp} {Q : γ → Hp → Prop} (r : Rl K β ι g H) (s : SR K β ι H ρ σ)
    (h : Post K β ca W R ι H (bindA m f ρ g) Q) :
    tA K ca W m σ H fun v H1 => ∃ ι1 d g1, Ex ι H ι1 H1 ∧ Rl K β ι1 g1 H1 ∧ SR K β ι1 H1 ρ σ ∧ DRs K β ι1 H1 d v ∧ Post K β ca W R ι1 H1 (f d ρ g1) Q := by
  refine ⟨β, ι, ρ, g, r, s, ?_⟩
  unfold bindA at h
  cases q : m ρ g with
  | ok d g1 =>
    rw [q] at h
    exact fun ι1 v H1 x r1 dv => ⟨ι1, d, g1, x, r1, s.keep r x, dv, Post.from x h⟩
  | exc c fs ρ' g1 =>
    rw [q] at h
    exact h
  | no => rw [q] at h; exact h
theorem tT_bind {α γ : Type} {R : List Addr → Hp → α → γ → Prop} {m : TM} {f : Bool → Rho → G → Res α} {σ : Sg} {β ι : List Addr} {ρ : Rho} {g : G} {H : Hp} {Q : γ → Hp → Prop} (r : Rl K β ι g H) (s : SR K β ι H ρ σ)
    (h : Post K β ca W R ι H (bindT m f ρ g) Q) :
    tT K ca W m σ H fun b H1 => ∃ ι1 g1, Ex ι H ι1 H1 ∧ Rl K β ι1 g1 H1 ∧ SR K β ι1 H1 ρ σ ∧ Post K β ca W R ι1 H1 (f b ρ g1) Q := by
  refine ⟨β, ι, ρ, g, r, s, ?_⟩
  unfold bindT at h
  cases q : m ρ g with
  | ok d g1 =>
    rw [q] at h
    intro ι1 v H1 x r1 dv
    cases (show d = v from dv)
    exact ⟨ι1, g1, x, r1, s.keep r x, Post.from x h⟩
  | exc c fs ρ' g1 =>
    rw [q] at h
    exact h
  | no => rw [q] at h; exact h
theorem tE_bindS {m : EM} {f : D → SM} {σ : Sg} {β ι : List Addr} {ρ : Rho} {g : G} {H : Hp} {E : Ends} (r : Rl K β ι g H) (s : SR K β ι H ρ σ)
    (h : PostS K β ca W ι H (bindE m f ρ g) E) :
    tE K ca W m σ H fun v H1 => ∃ ι1 d g1, Ex ι H ι1 H1 ∧ Rl K β ι1 g1 H1 ∧ SR K β ι1 H1 ρ σ ∧ DR K β ι1 H1 d v ∧ PostS K β ca W ι1 H1 (f d ρ g1) E := by
  refine ⟨β, ι, ρ, g, r, s, ?_⟩
  unfold bindE at h
  cases q : m ρ g with
  | ok d g1 =>
    rw [q] at h
    exact fun ι1 v H1 x r1 dv => ⟨ι1, d, g1, x, r1, s.keep r x, dv, PostS.from x h⟩
  | exc c fs ρ' g1 =>
    rw [q] at h
    exact h
  | no => rw [q] at h; exact h
theorem tT_bindS {m : TM} {f : Bool → SM} {σ : Sg} {β ι : List Addr} {ρ : Rho} {g : G} {H : Hp} {E : Ends} (r : Rl K β ι g H) (s : SR K β ι H ρ σ)
    (h : PostS K β ca W ι H (bindT m f ρ g) E) :
    tT K ca W m σ H fun b H1 => ∃ ι1 g1, Ex ι H ι1 H1 ∧ Rl K β ι1 g1 H1 ∧ SR K β ι1 H1 ρ σ ∧ PostS K β ca W ι1 H1 (f b ρ g1) E := by
  refine ⟨β, ι, ρ, g, r, s, ?_⟩
  unfold bindT at h
  cases q : m ρ g with
  | ok d g1 =>
    rw [q] at h
    intro ι1 v H1 x r1 dv
    cases (show d = v from dv)
    exact ⟨ι1, g1, x, r1, s.keep r x, PostS.from x h⟩
  | exc c fs ρ' g1 =>
    rw [q] at h
    exact h
  | no => rw [q] at h; exact h
end
end Mn

set_option Elab.async false
set_option linter.all false
set_option maxRecDepth 100000
set_option maxHeartbeats 4000000
/-! Expressions. -/
namespace Mn
open PySem PySem.Spec PyProof.Rows L2

def LIM : Nat := 1000000
theorem lim_line : LIM ≤ sizeLine := by decide +kernel
theorem lim_lt {n : Nat} (h : n ≤ LIM) : n < sizeLine := Nat.lt_of_le_of_lt h (by decide +kernel)

section
variable {K : Fg} {ca : Str → Addr} {W : WX} {β ι ι' : List Addr} {g : G} {H H' : Hp}
theorem Post.mono {α γ : Type} {R : List Addr → Hp → α → γ → Prop} {r : Res α} {Q Q' : γ → Hp → Prop} (h : Post K β ca W R ι H r Q) (q : ∀ v H', Q v H' → Q' v H') : Post K β ca W R ι H r Q' := by
  cases r with
  | ok a g => exact fun ι' v H' x y z => q _ _ (h ι' v H' x y z)
  | exc c fs ρ g => exact h
  | no => exact h
theorem tE.mono {m : EM} {σ : Sg} {Q Q' : VK} (h : tE K ca W m σ H Q) (q : ∀ v H', Q v H' → Q' v H') : tE K ca W m σ H Q' := by
  obtain ⟨β, ι, ρ, g, r, s, p⟩ := h
  exact ⟨β, ι, ρ, g, r, s, p.mono q⟩
theorem tA.mono {m : AM} {σ : Sg} {Q Q' : List V → Hp → Prop} (h : tA K ca W m σ H Q) (q : ∀ v H', Q v H' → Q' v H') : tA K ca W m σ H Q' := by
  obtain ⟨β, ι, ρ, g, r, s, p⟩ := h
  exact ⟨β, ι, ρ, g, r, s, p.mono q⟩
theorem tT.mono {m : TM} {σ : Sg} {Q Q' : Bool → Hp → Prop} (h : tT K ca W m σ H Q) (q : ∀ v H', Q v H' → Q' v H') : tT K ca W m σ H Q' := by
  obtain ⟨β, ι, ρ, g, r, s, p⟩ := h
  exact ⟨β, ι, ρ, g, r, s, p.mono q⟩
abbrev PostD (K : Fg) (β : List Addr) (ca : Str → Addr) (W : WX) (ι : List Addr) (H : Hp) (r : Res D) (Q : VK) : Prop := Post K β ca W (fun ι' H' d v => DR K β ι' H' d v) ι H r Q
theorem Post.here {d : D} {v : V} {Q : VK} (r : Rl K β ι g H) (dv : DR K β ι H d v) (h : PostD K β ca W ι H (.ok d g) Q) : Q v H := h ι v H (Ex.refl ι H) r dv
end

/-! ### what an operation makes: a value, or a new list -/
inductive Nv where
  | v (d : D) | n (l : List D)
def fin (own : Bool) : Option Nv → G → Res D
  | some (.v d), g => .ok d g
  | some (.n l), g => match own with
    | true => .ok (.obj g.length) (g ++ [.lst l])
    | false => .ok (.fl l) g
  | none, _ => .no
section
variable {K : Fg} {ca : Str → Addr} {W : WX} {β ι : List Addr} {g : G} {H : Hp} {Q : VK}
theorem fin_v {own : Bool} {d : D} {v : V} (r : Rl K β ι g H) (dv : DR K β ι H d v) (h : PostD K β ca W ι H (fin own (some (.v d)) g) Q) : Q v H := h.here r dv
theorem DRs.own (r : Rl K β ι g H) {l : List D} {vs : List V} (h : DRs K β ι H l vs) {p : Addr} {o : HO} (hp : H p = none) : DRs K β (ι ++ [p]) (upd H p o) l vs := h.keep r (Ex.own hp)
theorem fin_n {own : Bool} {l : List D} {vs : List V} (r : Rl K β ι g H) (dv : DRs K β ι H l vs) (h : PostD K β ca W ι H (fin own (some (.n l)) g) Q) : ∀ p, H p = none → Q (.ref p) (upd H p (.lst vs)) := by
  intro p hp
  cases own with
  | true =>
    refine h (ι ++ [p]) _ _ (Ex.own hp) (r.own hp ⟨vs, rfl, DRs.keep r (Ex.own hp) l vs dv⟩) ?_
    show DR K β (ι ++ [p]) _ (.obj g.length) _
    unfold DR
    exact ⟨p, rfl, by rw [← r.len]; simp⟩
  | false =>
    refine h ι _ _ (Ex.laid hp) (r.laid hp) ?_
    show DR K β ι _ (.fl l) _
    unfold DR
    exact ⟨p, vs, rfl, ⟨(r.free hp).1, (r.free hp).2, upd_same⟩, DRs.keep r (Ex.laid hp) l vs dv⟩
theorem fin_t {own : Bool} {l : List D} {vs : List V} (r : Rl K β ι g H) (dv : DRs K β ι H l vs) (h : PostD K β ca W ι H (fin own (some (.v (.tup l))) g) Q) : ∀ p, H p = none → Q (.ref p) (upd H p (.tup vs)) := by
  intro p hp
  refine h ι _ _ (Ex.laid hp) (r.laid hp) ?_
  show DR K β ι _ (.tup l) _
  unfold DR
  exact ⟨p, vs, rfl, .inl upd_same, DRs.keep r (Ex.laid hp) l vs dv⟩
end

/-! ### names, constants -/
def varM (i : Nat) : EM := fun ρ g => match ρ[i]? with
  | some (some d) => .ok d g
  | _ => .no
def cM (d : D) : EM := fun _ g => .ok d g
section
variable {X : Cx} {ca : Str → Addr} {W : WX} {a b : Expr} {es : List Expr} {pos : Pos} {ma mb : EM}
theorem me_v {e : Expr} {i : Nat} (h : PE X e (tVar i)) : PE X e (tE X.K ca W (varM i)) := peOf h fun σ H Q ⟨β, ι, ρ, g, r, s, h⟩ => by
  unfold varM at h
  cases q : ρ[i]? with
  | none => rw [q] at h; exact h.elim
  | some o =>
    cases o with
    | none => rw [q] at h; exact h.elim
    | some d =>
      rw [q] at h
      obtain ⟨v, e, dv⟩ := s.2 i d q
      exact ⟨v, e, h.here r dv⟩
theorem me_c {e : Expr} {d : D} {v : V} (h : PE X e (tC v)) (dv : ∀ β ι H, DR X.K β ι H d v) : PE X e (tE X.K ca W (cM d)) := peOf h fun σ H Q ⟨β, ι, ρ, g, r, s, h⟩ => by
  exact Post.here (g := g) r (dv β ι H) h
theorem me_int {i j} : PE X (.Constant (.int i) j pos) (tE X.K ca W (cM (.int i))) := me_c pe_int fun _ _ _ => by unfold DR; rfl
theorem me_bl {b j} : PE X (.Constant (.bool b) j pos) (tE X.K ca W (cM (.bl b))) := me_c pe_bl fun _ _ _ => by unfold DR; rfl
theorem me_non {j} : PE X (.Constant .none j pos) (tE X.K ca W (cM .non)) := me_c pe_non fun _ _ _ => by unfold DR; rfl
theorem me_str {x j} : PE X (.Constant (.str x) j pos) (tE X.K ca W (cM (.str x))) := me_c pe_str fun _ _ _ => by unfold DR; rfl

/-! ### two-place operations -/
def rD (K : Fg) (ca : Str → Addr) (W : WX) (own : Bool) (fd : G → D → D → Option Nv) : R2 := fun x y H Q =>
  ∃ β ι g d1 d2, Rl K β ι g H ∧ DR K β ι H d1 x ∧ DR K β ι H d2 y ∧ PostD K β ca W ι H (fin own (fd g d1 d2) g) Q
def binM (own : Bool) (fd : G → D → D → Option Nv) (ma mb : EM) : EM := bindE ma fun d1 => bindE mb fun d2 => fun _ g => fin own (fd g d1 d2) g
theorem tOp_of {own : Bool} {fd : G → D → D → Option Nv} {σ : Sg} {H : Hp} {Q : VK} (h : tE X.K ca W (binM own fd ma mb) σ H Q) : tOp (rD X.K ca W own fd) (tE X.K ca W ma) (tE X.K ca W mb) σ H Q := by
  obtain ⟨β, ι, ρ, g, r, s, h⟩ := h
  refine (tE_bind r s h).mono fun v H1 ⟨ι1, d1, g1, x1, r1, s1, dv1, h1⟩ => ?_
  refine (tE_bind r1 s1 h1).mono fun v2 H2 ⟨ι2, d2, g2, x2, r2, s2, dv2, h2⟩ => ?_
  exact ⟨_, ι2, g2, d1, d2, r2, dv1.keep r1 x2 _ _, dv2, h2⟩
theorem me_bin {op : Operator} {own : Bool} {fd : G → D → D → Option Nv} (ho : OpR X (binaryOp op) (rD X.K ca W own fd)) (ha : PE X a (tE X.K ca W ma)) (hb : PE X b (tE X.K ca W mb)) : PE X (.BinOp a op b pos) (tE X.K ca W (binM own fd ma mb)) :=
  peOf (pe_op ho ha hb) fun _ _ _ h => tOp_of h
theorem me_cmp {op : CmpOp} {fd : G → D → D → Option Nv} (ho : OpR X (compareOp op) (rD X.K ca W false fd)) (ha : PE X a (tE X.K ca W ma)) (hb : PE X b (tE X.K ca W mb)) (hm : behindInMarks op b = false := by rfl) : PE X (.Compare a [op] [b] pos) (tE X.K ca W (binM false fd ma mb)) :=
  peOf (pe_cmpR ho ha hb hm) fun _ _ _ h => tOp_of h
/-- a bool's value as a test -/
def tst (m : EM) : TM := bindE m fun d => fun _ g => match d with
  | .bl b => .ok b g
  | _ => .no
theorem tst_of {m : EM} {σ : Sg} {H : Hp} {Q : Bool → Hp → Prop} {t : TE} (ht : ∀ σ H Q, tE X.K ca W m σ H Q → t σ H Q) (h : tT X.K ca W (tst m) σ H Q) : tTest t σ H Q := by
  obtain ⟨β, ι, ρ, g, r, s, h⟩ := h
  refine ht _ _ _ ((tE_bind r s h).mono fun v H1 ⟨ι1, d1, g1, x1, r1, s1, dv1, h1⟩ => ?_)
  cases d1 with
  | bl b =>
    unfold DR at dv1
    exact ⟨b, dv1, h1 ι1 b H1 (Ex.refl _ _) r1 rfl⟩
  | _ => exact h1.elim
theorem mt_cmp {op : CmpOp} {fd : G → D → D → Option Nv} (ho : OpR X (compareOp op) (rD X.K ca W false fd)) (ha : PE X a (tE X.K ca W ma)) (hb : PE X b (tE X.K ca W mb)) (hm : behindInMarks op b = false := by rfl) : PT X (.Compare a [op] [b] pos) (tT X.K ca W (tst (binM false fd ma mb))) :=
  ptOf (pt_cmpR ho ha hb hm) fun _ _ _ h => tst_of (fun _ _ _ z => tOp_of z) h
/-- an expression that is a bool -/
theorem mt_val {e : Expr} {m : EM} (he : PE X e (tE X.K ca W m)) (h : ∀ whole, isTrue e X.env whole = (do let v ← whole; standAt e.pos; holding [v] (truthy v)) := by intro _; rfl) : PT X e (tT X.K ca W (tst m)) :=
  ptOf (pt_val he h) fun _ _ _ h => tst_of (fun _ _ _ z => z) h

/-! ### and, or, not -/
def notM (m : TM) : TM := bindT m fun b => fun _ g => .ok (!b) g
def andM (m n : TM) : TM := bindT m fun b => match b with
  | true => n
  | false => fun _ g => .ok false g
def orM (m n : TM) : TM := bindT m fun b => match b with
  | true => fun _ g => .ok true g
  | false => n
variable {m n : TM} {rest : List Expr}
theorem mt_not (h : PT X a (tT X.K ca W m)) : PT X (.UnaryOp .Not a pos) (tT X.K ca W (notM m)) := ptOf (pt_not h) fun σ H Q ⟨β, ι, ρ, g, r, s, h⟩ =>
  (tT_bind r s h).mono fun b H1 ⟨ι1, g1, x1, r1, s1, h1⟩ => h1 ι1 _ H1 (Ex.refl _ _) r1 rfl
theorem mw_and1 (ha : PT X a (tT X.K ca W m)) : PW X (.BoolOp .And [a] pos) (tT X.K ca W m) := pw_and1 ha
theorem mw_or1 (ha : PT X a (tT X.K ca W m)) : PW X (.BoolOp .Or [a] pos) (tT X.K ca W m) := pw_or1 ha
theorem mw_and (ha : PT X a (tT X.K ca W m)) (hb : PW X (.BoolOp .And (b :: rest) pos) (tT X.K ca W n)) : PW X (.BoolOp .And (a :: b :: rest) pos) (tT X.K ca W (andM m n)) := pwOf (pw_and ha hb) fun σ H Q ⟨β, ι, ρ, g, r, s, h⟩ =>
  (tT_bind r s h).mono fun b H1 ⟨ι1, g1, x1, r1, s1, h1⟩ => by
    cases b with
    | true => exact iteT ⟨_, ι1, ρ, g1, r1, s1, h1⟩
    | false => exact iteF (h1 ι1 _ H1 (Ex.refl _ _) r1 rfl)
theorem mw_or (ha : PT X a (tT X.K ca W m)) (hb : PW X (.BoolOp .Or (b :: rest) pos) (tT X.K ca W n)) : PW X (.BoolOp .Or (a :: b :: rest) pos) (tT X.K ca W (orM m n)) := pwOf (pw_or ha hb) fun σ H Q ⟨β, ι, ρ, g, r, s, h⟩ =>
  (tT_bind r s h).mono fun b H1 ⟨ι1, g1, x1, r1, s1, h1⟩ => by
    cases b with
    | true => exact iteT (h1 ι1 _ H1 (Ex.refl _ _) r1 rfl)
    | false => exact iteF ⟨_, ι1, ρ, g1, r1, s1, h1⟩
/-- .. as values (bools) -/
def andV (ma mb : EM) : EM := bindE ma fun d => match d with
  | .bl true => mb
  | .bl false => fun _ g => .ok (.bl false) g
  | _ => fun _ _ => .no
def orV (ma mb : EM) : EM := bindE ma fun d => match d with
  | .bl false => mb
  | .bl true => fun _ g => .ok (.bl true) g
  | _ => fun _ _ => .no
def notV (ma : EM) : EM := bindE ma fun d => match d with
  | .bl b => fun _ g => .ok (.bl (!b)) g
  | _ => fun _ _ => .no
theorem me_one {op} (h : PE X a (tE X.K ca W ma)) : PE X (.BoolOp op [a] pos) (tE X.K ca W ma) := pe_one h
theorem me_and (ha : PE X a (tE X.K ca W ma)) (hb : PE X (.BoolOp .And (b :: rest) pos) (tE X.K ca W mb)) : PE X (.BoolOp .And (a :: b :: rest) pos) (tE X.K ca W (andV ma mb)) := peOf (pe_and ha hb) fun σ H Q ⟨β, ι, ρ, g, r, s, h⟩ =>
  (tE_bind r s h).mono fun v H1 ⟨ι1, d, g1, x1, r1, s1, dv, h1⟩ => by
    cases d with
    | bl k =>
      unfold DR at dv
      cases k with
      | true => exact ⟨_, dv, iteT ⟨_, ι1, ρ, g1, r1, s1, h1⟩⟩
      | false => exact ⟨_, dv, iteF (h1.here r1 (by unfold DR; rfl))⟩
    | _ => exact h1.elim
theorem me_or (ha : PE X a (tE X.K ca W ma)) (hb : PE X (.BoolOp .Or (b :: rest) pos) (tE X.K ca W mb)) : PE X (.BoolOp .Or (a :: b :: rest) pos) (tE X.K ca W (orV ma mb)) := peOf (pe_or ha hb) fun σ H Q ⟨β, ι, ρ, g, r, s, h⟩ =>
  (tE_bind r s h).mono fun v H1 ⟨ι1, d, g1, x1, r1, s1, dv, h1⟩ => by
    cases d with
    | bl k =>
      unfold DR at dv
      cases k with
      | true => exact ⟨_, dv, iteT (h1.here r1 (by unfold DR; rfl))⟩
      | false => exact ⟨_, dv, iteF ⟨_, ι1, ρ, g1, r1, s1, h1⟩⟩
    | _ => exact h1.elim
theorem me_not (ha : PE X a (tE X.K ca W ma)) : PE X (.UnaryOp .Not a pos) (tE X.K ca W (notV ma)) := peOf (pe_not ha) fun σ H Q ⟨β, ι, ρ, g, r, s, h⟩ =>
  (tE_bind r s h).mono fun v H1 ⟨ι1, d, g1, x1, r1, s1, dv, h1⟩ => by
    cases d with
    | bl k =>
      unfold DR at dv
      exact ⟨_, dv, h1.here r1 (by unfold DR; rfl)⟩
    | _ => exact h1.elim
def iteM (c : TM) (ma mb : EM) : EM := bindT c fun b => match b with
  | true => ma
  | false => mb
theorem me_ite {c : Expr} (hc : PT X c (tT X.K ca W m)) (ha : PE X a (tE X.K ca W ma)) (hb : PE X b (tE X.K ca W mb)) : PE X (.IfExp c a b pos) (tE X.K ca W (iteM m ma mb)) := peOf (pe_ifExp hc ha hb) fun σ H Q ⟨β, ι, ρ, g, r, s, h⟩ =>
  (tT_bind r s h).mono fun b H1 ⟨ι1, g1, x1, r1, s1, h1⟩ => by
    cases b with
    | true => exact iteT ⟨_, ι1, ρ, g1, r1, s1, h1⟩
    | false => exact iteF ⟨_, ι1, ρ, g1, r1, s1, h1⟩

/-! ### one-place operations, argument lists, displays -/
def unM (fd : D → Option D) (ma : EM) : EM := bindE ma fun d => fun _ g => match fd d with
  | some e => .ok e g
  | none => .no
def negD : D → Option D
  | .int i => some (.int (-i))
  | _ => none
theorem me_neg (ha : PE X a (tE X.K ca W ma)) : PE X (.UnaryOp .USub a pos) (tE X.K ca W (unM negD ma)) := peOf (pe_un un_neg ha) fun σ H Q ⟨β, ι, ρ, g, r, s, h⟩ =>
  (tE_bind r s h).mono fun v H1 ⟨ι1, d, g1, x1, r1, s1, dv, h1⟩ => by
    cases d with
    | int i =>
      unfold DR at dv
      exact ⟨i, dv, h1.here r1 (by unfold DR; rfl)⟩
    | _ => exact h1.elim
def nilA : AM := fun _ g => .ok [] g
def consA (m : EM) (n : AM) : AM := bindE m fun d => bindA n fun ds => fun _ g => .ok (d :: ds) g
variable {na : AM} {e : Expr}
theorem ma_nil : PA X [] (tA X.K ca W nilA) := paOf pa_nil fun σ H Q ⟨β, ι, ρ, g, r, s, h⟩ => h ι [] H (Ex.refl _ _) r (by unfold DRs; rfl)
theorem ma_cons (ha : PE X e (tE X.K ca W ma)) (hr : PA X es (tA X.K ca W na)) (hs : starEach (e :: es) X.env = (false, eval e X.env) :: starEach es X.env := by rfl) : PA X (e :: es) (tA X.K ca W (consA ma na)) := paOf (pa_cons ha hr hs) fun σ H Q ⟨β, ι, ρ, g, r, s, h⟩ =>
  (tE_bind r s h).mono fun v H1 ⟨ι1, d, g1, x1, r1, s1, dv, h1⟩ => (tA_bind r1 s1 h1).mono fun vs H2 ⟨ι2, ds, g2, x2, r2, s2, dvs, h2⟩ =>
    h2 ι2 _ H2 (Ex.refl _ _) r2 (by unfold DRs; exact ⟨v, vs, rfl, dv.keep r1 x2 _ _, dvs⟩)
theorem DRs.length {K : Fg} {β ι : List Addr} {H : Hp} : ∀ {l : List D} {vs : List V}, DRs K β ι H l vs → vs.length = l.length
  | [], vs, h => by unfold DRs at h; subst h; rfl
  | d :: ds, vs, h => by
    unfold DRs at h
    obtain ⟨v, ws, e, _, q⟩ := h
    subst e
    simp [q.length]
def tupM (n : AM) : EM := bindA n fun ds => fun _ g => if ds.length ≤ LIM then .ok (.tup ds) g else .no
def lstM (own : Bool) (n : AM) : EM := bindA n fun ds => fun _ g => if ds.length ≤ LIM then fin own (some (.n ds)) g else .no
theorem me_tup {k} (h : PA X es (tA X.K ca W na)) : PE X (.Tuple es k pos) (tE X.K ca W (tupM na)) := peOf (pe_tup h) fun σ H Q ⟨β, ι, ρ, g, r, s, h⟩ =>
  (tA_bind r s h).mono fun vs H1 ⟨ι1, ds, g1, x1, r1, s1, dvs, h1⟩ => by
    by_cases c : ds.length ≤ LIM
    · rw [if_pos c] at h1
      exact ⟨by rw [dvs.length]; exact Nat.le_trans c lim_line, fin_t (own := false) r1 dvs h1⟩
    · rw [if_neg c] at h1
      exact h1.elim
theorem me_lst {own : Bool} (h : PA X es (tA X.K ca W na)) : PE X (.List es pos) (tE X.K ca W (lstM own na)) := peOf (pe_lst h) fun σ H Q ⟨β, ι, ρ, g, r, s, h⟩ =>
  (tA_bind r s h).mono fun vs H1 ⟨ι1, ds, g1, x1, r1, s1, dvs, h1⟩ => by
    by_cases c : ds.length ≤ LIM
    · rw [if_pos c] at h1
      exact ⟨by rw [dvs.length]; exact Nat.le_trans c lim_line, fin_n r1 dvs h1⟩
    · rw [if_neg c] at h1
      exact h1.elim
/-! ### a call of a built-in -/
def rC (K : Fg) (ca : Str → Addr) (W : WX) (own : Bool) (fd : G → List D → Option Nv) : List V → Hp → VK → Prop := fun xs H Q =>
  ∃ β ι g ds, Rl K β ι g H ∧ DRs K β ι H ds xs ∧ PostD K β ca W ι H (fin own (fd g ds) g) Q
def calM (own : Bool) (fd : G → List D → Option Nv) (n : AM) : EM := bindA n fun ds => fun _ g => fin own (fd g ds) g
theorem tCB_of {own : Bool} {fd : G → List D → Option Nv} {σ : Sg} {H : Hp} {Q : VK} (h : tE X.K ca W (calM own fd na) σ H Q) : tCB (rC X.K ca W own fd) (tA X.K ca W na) σ H Q := by
  obtain ⟨β, ι, ρ, g, r, s, h⟩ := h
  refine (tA_bind r s h).mono fun vs H1 ⟨ι1, ds, g1, x1, r1, s1, dvs, h1⟩ => ?_
  exact ⟨_, ι1, g1, ds, r1, dvs, h1⟩
end
end Mn

set_option Elab.async false
set_option linter.all false
set_option maxRecDepth 100000
set_option maxHeartbeats 4000000
/-! Operators. -/
namespace Mn
open PySem PySem.Spec PyProof.Rows L2

/-! ### what is a sequence -/
def lstAt (g : G) (n : Nat) : Option (List D) := match g[n]? with
  | some (.lst l) => some l
  | _ => none
def dctAt (g : G) (n : Nat) : Option (List (Key × D)) := match g[n]? with
  | some (.dct l) => some l
  | _ => none
/-- a list that stands in the heap as a list -/
def catOf (g : G) : D → Option (List D)
  | .fl l => some l
  | .obj n => lstAt g n
  | _ => none
/-- any list -/
def lisOf (g : G) : D → Option (List D)
  | .fl l => some l
  | .fz l => some l
  | .obj n => lstAt g n
  | _ => none
section
variable {K : Fg} {ca : Str → Addr} {W : WX} {β ι : List Addr} {g : G} {H : Hp} {Q : VK}
theorem lstAt_r (r : Rl K β ι g H) {n : Nat} {l : List D} (e : lstAt g n = some l) {a : Addr} (ha : ι[n]? = some a) : ∃ vs, H a = some (.lst vs) ∧ DRs K β ι H l vs := by
  unfold lstAt at e
  cases q : g[n]? with
  | none => rw [q] at e; cases e
  | some o =>
    rw [q] at e
    cases o with
    | lst l' =>
      cases e
      obtain ⟨ho, h1, vs, h2, h3⟩ := r.at_ n a _ ha q
      subst h2
      exact ⟨vs, h1, h3⟩
    | dct l' => cases e
theorem dctAt_r (r : Rl K β ι g H) {n : Nat} {l : List (Key × D)} (e : dctAt g n = some l) {a : Addr} (ha : ι[n]? = some a) : ∃ ws, H a = some (.dK ws) ∧ KR K β ι H l ws := by
  unfold dctAt at e
  cases q : g[n]? with
  | none => rw [q] at e; cases e
  | some o =>
    rw [q] at e
    cases o with
    | dct l' =>
      cases e
      obtain ⟨ho, h1, vs, h2, h3⟩ := r.at_ n a _ ha q
      subst h2
      exact ⟨vs, h1, h3⟩
    | lst l' => cases e
theorem catOf_r (r : Rl K β ι g H) : ∀ {d : D} {l : List D} {v : V}, catOf g d = some l → DR K β ι H d v → ∃ a vs, v = .ref a ∧ H a = some (.lst vs) ∧ DRs K β ι H l vs := by
  intro d l v e h
  cases d with
  | fl l' =>
    cases e
    unfold DR at h
    obtain ⟨a, vs, e, t, q⟩ := h
    exact ⟨a, vs, e, t.2.2, q⟩
  | obj n =>
    unfold DR at h
    obtain ⟨a, e', q⟩ := h
    obtain ⟨vs, h1, h2⟩ := lstAt_r r e q
    exact ⟨a, vs, e', h1, h2⟩
  | _ => cases e
theorem sqL_hp0 {K : Fg} {H : Hp} {a : Addr} {vs : List V} (h : SqL K hp0 a vs) : SqL K H a vs := by
  rcases h with (h | ⟨o, h⟩) | h
  · cases h
  · cases h
  · exact .inr h
theorem sqT_hp0 {K : Fg} {H : Hp} {a : Addr} {vs : List V} (h : SqT K hp0 a vs) : SqT K H a vs := by
  rcases h with (h | ⟨o, h⟩) | h
  · cases h
  · cases h
  · exact .inr h
theorem TupAt.sq {a : Addr} {vs : List V} (h : TupAt K H a vs) : SqT K H a vs := by
  rcases h with h | h
  · exact .of h
  · exact sqT_hp0 h
theorem FzAt.sq {a : Addr} {vs : List V} (h : FzAt K ι H a vs) : SqL K H a vs := by
  rcases h with ⟨_, o, h⟩ | h
  · exact .inl (.inr ⟨o, h⟩)
  · exact sqL_hp0 h
theorem lisOf_r (r : Rl K β ι g H) : ∀ {d : D} {l : List D} {v : V}, lisOf g d = some l → DR K β ι H d v → ∃ a vs, v = .ref a ∧ SqL K H a vs ∧ DRs K β ι H l vs := by
  intro d l v e h
  cases d with
  | fz l' =>
    cases e
    unfold DR at h
    obtain ⟨a, vs, e, t, q⟩ := h
    exact ⟨a, vs, e, t.sq, q⟩
  | fl l' =>
    obtain ⟨a, vs, h1, h2, h3⟩ := catOf_r (d := .fl l') r e h
    exact ⟨a, vs, h1, .of h2, h3⟩
  | obj n =>
    obtain ⟨a, vs, h1, h2, h3⟩ := catOf_r (d := .obj n) r e h
    exact ⟨a, vs, h1, .of h2, h3⟩
  | _ => cases e
theorem DRs.append : ∀ {l m : List D} {vs us : List V}, DRs K β ι H l vs → DRs K β ι H m us → DRs K β ι H (l ++ m) (vs ++ us)
  | [], m, vs, us, h, k => by unfold DRs at h; subst h; exact k
  | d :: l, m, vs, us, h, k => by
    unfold DRs at h
    obtain ⟨v, ws, e, q1, q2⟩ := h
    subst e
    show DRs K β ι H (d :: (l ++ m)) (v :: (ws ++ us))
    unfold DRs
    exact ⟨v, _, rfl, q1, DRs.append q2 k⟩
theorem DRs.get : ∀ {l : List D} {vs : List V} {i : Nat} {d : D}, DRs K β ι H l vs → l[i]? = some d → ∃ v, vs[i]? = some v ∧ DR K β ι H d v
  | [], vs, i, d, h, e => by simp at e
  | x :: l, vs, 0, d, h, e => by
    unfold DRs at h
    obtain ⟨v, ws, e', q1, q2⟩ := h
    subst e'
    simp at e
    subst e
    exact ⟨v, rfl, q1⟩
  | x :: l, vs, i + 1, d, h, e => by
    unfold DRs at h
    obtain ⟨v, ws, e', q1, q2⟩ := h
    subst e'
    obtain ⟨u, h1, h2⟩ := DRs.get (i := i) q2 (by simpa using e)
    exact ⟨u, by simpa using h1, h2⟩
theorem DRs.drop : ∀ {l : List D} {vs : List V} (n : Nat), DRs K β ι H l vs → DRs K β ι H (l.drop n) (vs.drop n)
  | l, vs, 0, h => h
  | [], vs, n + 1, h => by unfold DRs at h; subst h; unfold DRs; rfl
  | x :: l, vs, n + 1, h => by
    unfold DRs at h
    obtain ⟨v, ws, e', q1, q2⟩ := h
    subst e'
    exact DRs.drop n q2
theorem DRs.take : ∀ {l : List D} {vs : List V} (n : Nat), DRs K β ι H l vs → DRs K β ι H (l.take n) (vs.take n)
  | l, vs, 0, h => by simp; unfold DRs; rfl
  | [], vs, n + 1, h => by unfold DRs at h; subst h; simp; unfold DRs; rfl
  | x :: l, vs, n + 1, h => by
    unfold DRs at h
    obtain ⟨v, ws, e', q1, q2⟩ := h
    subst e'
    show DRs K β ι H (x :: l.take n) (v :: ws.take n)
    unfold DRs
    exact ⟨v, _, rfl, q1, DRs.take n q2⟩
theorem DRs.nil_iff {l : List D} {vs : List V} (h : DRs K β ι H l vs) : vs = [] ↔ l = [] := by
  have e := h.length
  constructor
  · intro z; subst z; exact List.length_eq_zero_iff.mp e.symm
  · intro z; subst z; exact List.length_eq_zero_iff.mp e
theorem DRs.cons' {d : D} {l : List D} {v : V} {vs : List V} (h : DR K β ι H d v) (k : DRs K β ι H l vs) : DRs K β ι H (d :: l) (v :: vs) := by
  unfold DRs
  exact ⟨v, vs, rfl, h, k⟩
theorem DRs.nil' : DRs K β ι H [] [] := by unfold DRs; rfl
theorem DRs.set : ∀ {l : List D} {vs : List V} {d : D} {v : V} (i : Nat), DRs K β ι H l vs → DR K β ι H d v → DRs K β ι H (l.set i d) (vs.set i v)
  | [], vs, d, v, i, h, k => by unfold DRs at h; subst h; simp; exact DRs.nil'
  | x :: l, vs, d, v, 0, h, k => by
    unfold DRs at h
    obtain ⟨u, ws, e, q1, q2⟩ := h
    subst e
    exact DRs.cons' k q2
  | x :: l, vs, d, v, i + 1, h, k => by
    unfold DRs at h
    obtain ⟨u, ws, e, q1, q2⟩ := h
    subst e
    exact DRs.cons' q1 (DRs.set i q2 k)
/-! lists of one kind -/
theorem DRs.ints : ∀ {ns : List Int} {vs : List V}, DRs K β ι H (ns.map D.int) vs → vs = ns.map V.int
  | [], vs, h => by unfold DRs at h; exact h
  | n :: ns, vs, h => by
    rw [List.map_cons] at h
    unfold DRs at h
    obtain ⟨v, ws, e, q1, q2⟩ := h
    unfold DR at q1
    rw [e, q1, DRs.ints q2]
    rfl
theorem DRs.ofInts : ∀ (ns : List Int), DRs K β ι H (ns.map D.int) (ns.map V.int)
  | [] => DRs.nil'
  | n :: ns => DRs.cons' (by unfold DR; rfl) (DRs.ofInts ns)
theorem DRs.bls : ∀ {ns : List Bool} {vs : List V}, DRs K β ι H (ns.map D.bl) vs → vs = ns.map V.bl
  | [], vs, h => by unfold DRs at h; exact h
  | n :: ns, vs, h => by
    rw [List.map_cons] at h
    unfold DRs at h
    obtain ⟨v, ws, e, q1, q2⟩ := h
    unfold DR at q1
    rw [e, q1, DRs.bls q2]
    rfl
end
def intsOf : List D → Option (List Int)
  | [] => some []
  | .int i :: r => (intsOf r).map (i :: ·)
  | _ => none
theorem intsOf_eq : ∀ {l : List D} {ns : List Int}, intsOf l = some ns → l = ns.map D.int
  | [], ns, h => by cases h; rfl
  | d :: r, ns, h => by
    cases d with
    | int i =>
      unfold intsOf at h
      cases q : intsOf r with
      | none => rw [q] at h; cases h
      | some ms =>
        rw [q] at h
        cases h
        rw [intsOf_eq q]
        rfl
    | _ => cases h
theorem intsOf_map (ns : List Int) : intsOf (ns.map D.int) = some ns := by
  induction ns with
  | nil => rfl
  | cons n ns ih => rw [List.map_cons]; unfold intsOf; rw [ih]; rfl
def blsOf : List D → Option (List Bool)
  | [] => some []
  | .bl i :: r => (blsOf r).map (i :: ·)
  | _ => none
theorem blsOf_eq : ∀ {l : List D} {ns : List Bool}, blsOf l = some ns → l = ns.map D.bl
  | [], ns, h => by cases h; rfl
  | d :: r, ns, h => by
    cases d with
    | bl i =>
      unfold blsOf at h
      cases q : blsOf r with
      | none => rw [q] at h; cases h
      | some ms =>
        rw [q] at h
        cases h
        rw [blsOf_eq q]
        rfl
    | _ => cases h

section
variable {X : Cx} {ca : Str → Addr} {W : WX}
theorem opOr {f : Value → Value → Sem Value} {r r1 r2 : R2} (h1 : OpR X f r1) (h2 : OpR X f r2) (h : ∀ x y H Q, r x y H Q → r1 x y H Q ∨ r2 x y H Q) : OpR X f r := by
  intro pins s σ H x y v u Q I rx ry q
  rcases h x y H Q q with q | q
  · exact h1 pins s σ H x y v u Q I rx ry q
  · exact h2 pins s σ H x y v u Q I rx ry q
theorem opOf {f : Value → Value → Sem Value} {r r1 : R2} (h1 : OpR X f r1) (h : ∀ x y H Q, r x y H Q → r1 x y H Q) : OpR X f r := by
  intro pins s σ H x y v u Q I rx ry q
  exact h1 pins s σ H x y v u Q I rx ry (h x y H Q q)

/-! ### + - * // % -/
def addD (g : G) : D → D → Option Nv
  | .int i, .int j => some (.v (.int (i + j)))
  | .str x, .str y => if x.length + y.length ≤ LIM then some (.v (.str (x ++ y))) else none
  | .tup l, .tup m => if l.length + m.length ≤ LIM then some (.v (.tup (l ++ m))) else none
  | a, b => match catOf g a, catOf g b with
    | some l, some m => if l.length + m.length ≤ LIM then some (.n (l ++ m)) else none
    | _, _ => none
theorem addD_lis {g : G} {a b : D} {r : Nv} (h : addD g a b = some r) : (∃ i j, a = .int i ∧ b = .int j ∧ r = .v (.int (i + j))) ∨ (∃ x y, a = .str x ∧ b = .str y ∧ x.length + y.length ≤ LIM ∧ r = .v (.str (x ++ y))) ∨
    (∃ l m, a = .tup l ∧ b = .tup m ∧ l.length + m.length ≤ LIM ∧ r = .v (.tup (l ++ m))) ∨ (∃ l m, catOf g a = some l ∧ catOf g b = some m ∧ l.length + m.length ≤ LIM ∧ r = .n (l ++ m)) := by
  unfold addD at h
  split at h
  · cases h; exact .inl ⟨_, _, rfl, rfl, rfl⟩
  · split at h
    · rename_i c
      cases h; exact .inr (.inl ⟨_, _, rfl, rfl, c, rfl⟩)
    · cases h
  · split at h
    · rename_i c
      cases h; exact .inr (.inr (.inl ⟨_, _, rfl, rfl, c, rfl⟩))
    · cases h
  · split at h
    · split at h
      · rename_i l m e1 e2 c
        cases h; exact .inr (.inr (.inr ⟨_, _, e1, e2, c, rfl⟩))
      · cases h
    · cases h
theorem od_add {own : Bool} : OpR X (binaryOp .Add) (rD X.K ca W own addD) := by
  refine opOr op_add (opOr op_add_str (opOr op_catA op_cat (r := fun x y H Q => rCatA X.K x y H Q ∨ rCat x y H Q) fun _ _ _ _ h => h)
    (r := fun x y H Q => (∃ i j, x = .str i ∧ y = .str j ∧ i.length + j.length ≤ sizeLine ∧ Q (.str (i ++ j)) H) ∨ rCatA X.K x y H Q ∨ rCat x y H Q) fun _ _ _ _ h => h) ?_
  rintro x y H Q ⟨β, ι, g, d1, d2, r, h1, h2, p⟩
  cases e : addD g d1 d2 with
  | none => rw [e] at p; exact p.elim
  | some nv =>
    rw [e] at p
    rcases addD_lis e with ⟨i, j, rfl, rfl, rfl⟩ | ⟨i, j, rfl, rfl, c, rfl⟩ | ⟨l, m, rfl, rfl, c, rfl⟩ | ⟨l, m, e1, e2, c, rfl⟩
    · unfold DR at h1 h2
      exact .inl ⟨i, j, h1, h2, fin_v r (by unfold DR; rfl) p⟩
    · unfold DR at h1 h2
      exact .inr (.inl ⟨i, j, h1, h2, Nat.le_trans c lim_line, fin_v r (by unfold DR; rfl) p⟩)
    · have h1' := h1
      have h2' := h2
      unfold DR at h1 h2
      obtain ⟨a, vs, ea, ta, qa⟩ := h1
      obtain ⟨b, us, eb, tb, qb⟩ := h2
      subst ea eb
      refine .inr (.inr (.inl ⟨a, b, vs, us, rfl, rfl, ta.sq, tb.sq, by rw [qa.length, qb.length]; exact Nat.le_trans c lim_line, fun z => ?_, fun _ z => ?_, fun _ _ => fin_t r (qa.append qb) p⟩))
      · have e0 := qa.nil_iff.mp z
        subst e0
        exact fin_v r h2' p
      · have e0 := qb.nil_iff.mp z
        subst e0
        rw [List.append_nil] at p
        exact fin_v r h1' p
    · obtain ⟨a, vs, ea, ta, qa⟩ := catOf_r r e1 h1
      obtain ⟨b, us, eb, tb, qb⟩ := catOf_r r e2 h2
      subst ea eb
      exact .inr (.inr (.inr ⟨a, b, vs, us, rfl, rfl, ta, tb, by rw [qa.length, qb.length]; exact Nat.le_trans c lim_line, fin_n r (qa.append qb) p⟩))
/-- of two ints, under a test -/
def intD (c : Int → Int → Bool) (f : Int → Int → D) (_ : G) : D → D → Option Nv
  | .int i, .int j => if c i j = true then some (.v (f i j)) else none
  | _, _ => none
theorem od_int {own : Bool} {h : Value → Value → Sem Value} {C : Int → Int → Prop} {c : Int → Int → Bool} {f : Int → Int → D} {fv : Int → Int → V} (ho : OpR X h (rI C fv)) (hC : ∀ i j, c i j = true → C i j) (hf : ∀ β ι H i j, DR X.K β ι H (f i j) (fv i j)) :
    OpR X h (rD X.K ca W own (intD c f)) := by
  refine opOf ho ?_
  rintro x y H Q ⟨β, ι, g, d1, d2, r, h1, h2, p⟩
  cases d1 with
  | int i =>
    cases d2 with
    | int j =>
      unfold DR at h1 h2
      by_cases z : c i j = true
      · have e : intD c f g (.int i) (.int j) = some (.v (f i j)) := by show (if c i j = true then some (Nv.v (f i j)) else none) = _; rw [if_pos z]
        rw [e] at p
        exact ⟨i, j, h1, h2, hC _ _ z, fin_v r (hf β ι H i j) p⟩
      · have e : intD c f g (.int i) (.int j) = none := by show (if c i j = true then some (Nv.v (f i j)) else none) = _; rw [if_neg z]
        rw [e] at p
        exact p.elim
    | _ => exact p.elim
  | _ => exact p.elim
theorem rI_of {f : Value → Value → Sem Value} {fv : Int → Int → V} (h : OpR X f (rI0 fv)) : OpR X f (rI (fun _ _ => True) fv) := opOf h fun x y H Q ⟨i, j, a, b, _, q⟩ => ⟨i, j, a, b, q⟩
abbrev yes2 : Int → Int → Bool := fun _ _ => true
def cMul (i j : Int) : Bool := decide (i.natAbs < 2 ^ 64) || (decide (j.natAbs < 2 ^ 64) || decide (i.natAbs.log2 + j.natAbs.log2 < 1000000))
def cDiv (_ j : Int) : Bool := decide (0 < j) && (decide (j < 1073741824) || decide (j.natAbs.log2 < 9000))
def cMod (_ j : Int) : Bool := decide (0 < j)
def cPow (i j : Int) : Bool := decide (0 ≤ j) && (decide (j ≤ 1000000) && decide (i.natAbs < 2 ^ 64))
abbrev subD := intD yes2 fun i j => .int (i - j)
abbrev mulD := intD cMul fun i j => .int (i * j)
abbrev divD := intD cDiv fun i j => .int (i / j)
abbrev modD := intD cMod fun i j => .int (i % j)
abbrev powD := intD cPow fun i j => .int (i ^ j.toNat)
theorem od_sub {own : Bool} : OpR X (binaryOp .Sub) (rD X.K ca W own subD) := od_int (rI_of op_sub) (fun _ _ _ => trivial) fun _ _ _ _ _ => by unfold DR; rfl
theorem op_mulA : OpR X (binaryOp .Mult) (rI (fun i j => CMul i j ∨ CMulW i j) fun i j => .int (i * j)) :=
  opOr op_mul op_mulW fun _ _ _ _ ⟨i, j, a, b, c, q⟩ => c.elim (fun c => .inl ⟨i, j, a, b, c, q⟩) fun c => .inr ⟨i, j, a, b, c, q⟩
theorem op_fdivA : OpR X (binaryOp .FloorDiv) (rI (fun i j => CDiv i j ∨ CDivW i j) fun i j => .int (i / j)) :=
  opOr op_fdiv op_fdivW fun _ _ _ _ ⟨i, j, a, b, c, q⟩ => c.elim (fun c => .inl ⟨i, j, a, b, c, q⟩) fun c => .inr ⟨i, j, a, b, c, q⟩
theorem od_mul {own : Bool} : OpR X (binaryOp .Mult) (rD X.K ca W own mulD) := od_int op_mulA (fun i j h => by
  unfold cMul at h
  rw [Bool.or_eq_true, Bool.or_eq_true] at h
  rcases h with h | h | h
  · have := of_decide_eq_true h; exact .inl (.inl (by omega))
  · have := of_decide_eq_true h; exact .inl (.inr (by omega))
  · exact .inr (show CMulW i j by unfold CMulW; exact of_decide_eq_true h)) fun _ _ _ _ _ => by unfold DR; rfl
theorem od_div {own : Bool} : OpR X (binaryOp .FloorDiv) (rD X.K ca W own divD) := od_int op_fdivA (fun _ _ h => by
  unfold cDiv at h
  rw [Bool.and_eq_true, Bool.or_eq_true] at h
  rcases h with ⟨h1, h | h⟩
  · exact .inl ⟨of_decide_eq_true h1, of_decide_eq_true h⟩
  · exact .inr ⟨of_decide_eq_true h1, of_decide_eq_true h⟩) fun _ _ _ _ _ => by unfold DR; rfl
theorem od_mod {own : Bool} : OpR X (binaryOp .Mod) (rD X.K ca W own modD) := od_int op_mod (fun _ _ h => of_decide_eq_true h) fun _ _ _ _ _ => by unfold DR; rfl
theorem od_pow {own : Bool} : OpR X (binaryOp .Pow) (rD X.K ca W own powD) := od_int op_pow (fun _ _ h => by
  unfold cPow at h
  rw [Bool.and_eq_true, Bool.and_eq_true] at h
  exact ⟨of_decide_eq_true h.1, of_decide_eq_true h.2.1, of_decide_eq_true h.2.2⟩) fun _ _ _ _ _ => by unfold DR; rfl
abbrev ltD := intD yes2 fun i j => .bl (decide (i < j))
abbrev leD := intD yes2 fun i j => .bl (decide (i ≤ j))
abbrev gtD := intD yes2 fun i j => .bl (decide (j < i))
abbrev geD := intD yes2 fun i j => .bl (decide (j ≤ i))
theorem od_lt : OpR X (compareOp .Lt) (rD X.K ca W false ltD) := od_int (rI_of op_lt) (fun _ _ _ => trivial) fun _ _ _ _ _ => by unfold DR; rfl
theorem od_le : OpR X (compareOp .LtE) (rD X.K ca W false leD) := od_int (rI_of op_le) (fun _ _ _ => trivial) fun _ _ _ _ _ => by unfold DR; rfl
theorem od_gt : OpR X (compareOp .Gt) (rD X.K ca W false gtD) := od_int (rI_of op_gt) (fun _ _ _ => trivial) fun _ _ _ _ _ => by unfold DR; rfl
theorem od_ge : OpR X (compareOp .GtE) (rD X.K ca W false geD) := od_int (rI_of op_ge) (fun _ _ _ => trivial) fun _ _ _ _ _ => by unfold DR; rfl

/-! ### == and != -/
mutual
def pyD : D → Option PyData
  | .non => some .none
  | .bl b => some (.bool b)
  | .int i => some (.int i)
  | .str x => some (.str x)
  | .tup l => (pyDs l).map .tuple
  | .fl l => (pyDs l).map .list
  | .fz l => (pyDs l).map .list
  | .obj _ => none
def pyDs : List D → Option (List PyData)
  | [] => some []
  | d :: r => match pyD d, pyDs r with
    | some x, some xs => some (x :: xs)
    | _, _ => none
end
/-- .. where it may be one of the heap's lists -/
def pyG (g : G) : D → Option PyData
  | .obj n => match lstAt g n with
    | some l => (pyDs l).map .list
    | none => none
  | d => pyD d
mutual
theorem pyD_r {K : Fg} {β ι : List Addr} {g : G} {H : Hp} (r : Rl K β ι g H) : ∀ (d : D) (p : PyData) (v : V), pyD d = some p → DR K β ι H d v → Dp K H v p
  | .non, p, v, e, h => by unfold pyD at e; unfold DR at h; cases e; subst h; exact .non
  | .bl b, p, v, e, h => by unfold pyD at e; unfold DR at h; cases e; subst h; exact .bl b
  | .int i, p, v, e, h => by unfold pyD at e; unfold DR at h; cases e; subst h; exact .int i
  | .str i, p, v, e, h => by unfold pyD at e; unfold DR at h; cases e; subst h; exact .str i
  | .tup l, p, v, e, h => by
    unfold pyD at e
    unfold DR at h
    cases q : pyDs l with
    | none => rw [q] at e; cases e
    | some xs =>
      rw [q] at e
      cases e
      obtain ⟨a, vs, ea, t, w⟩ := h
      subst ea
      exact .tup t.sq (pyDs_r r l xs vs q w)
  | .fl l, p, v, e, h => by
    unfold pyD at e
    unfold DR at h
    cases q : pyDs l with
    | none => rw [q] at e; cases e
    | some xs =>
      rw [q] at e
      cases e
      obtain ⟨a, vs, ea, t, w⟩ := h
      subst ea
      exact .lst (.of t.2.2) (pyDs_r r l xs vs q w)
  | .fz l, p, v, e, h => by
    unfold pyD at e
    unfold DR at h
    cases q : pyDs l with
    | none => rw [q] at e; cases e
    | some xs =>
      rw [q] at e
      cases e
      obtain ⟨a, vs, ea, t, w⟩ := h
      subst ea
      exact .lst t.sq (pyDs_r r l xs vs q w)
  | .obj n, p, v, e, h => by unfold pyD at e; cases e
theorem pyDs_r {K : Fg} {β ι : List Addr} {g : G} {H : Hp} (r : Rl K β ι g H) : ∀ (l : List D) (xs : List PyData) (vs : List V), pyDs l = some xs → DRs K β ι H l vs → DpAll K H vs xs
  | [], xs, vs, e, h => by unfold pyDs at e; unfold DRs at h; cases e; subst h; exact .nil
  | d :: l, xs, vs, e, h => by
    unfold pyDs at e
    unfold DRs at h
    cases q1 : pyD d with
    | none => rw [q1] at e; cases e
    | some x =>
      cases q2 : pyDs l with
      | none => rw [q1, q2] at e; cases e
      | some ys =>
        rw [q1, q2] at e
        cases e
        obtain ⟨v, ws, ev, h1, h2⟩ := h
        subst ev
        exact .cons (pyD_r r d x v q1 h1) (pyDs_r r l ys ws q2 h2)
end
theorem pyG_r {K : Fg} {β ι : List Addr} {g : G} {H : Hp} (r : Rl K β ι g H) {d : D} {p : PyData} {v : V} (e : pyG g d = some p) (h : DR K β ι H d v) : Dp K H v p := by
  cases d with
  | obj n =>
    unfold pyG at e
    unfold DR at h
    obtain ⟨a, ea, q⟩ := h
    subst ea
    cases z : lstAt g n with
    | none => simp only [z] at e; cases e
    | some l =>
      simp only [z] at e
      obtain ⟨vs, h1, h2⟩ := lstAt_r r z q
      cases y : pyDs l with
      | none => rw [y] at e; cases e
      | some xs =>
        rw [y] at e
        cases e
        exact .lst (.of h1) (pyDs_r r l xs vs y h2)
  | _ => exact pyD_r r _ _ _ e h
def eqP (neg : Bool) (g : G) (a b : D) : Option Nv := match pyG g a, pyG g b with
  | some x, some y => if (SeqAt.shaped x && SeqAt.shaped y) = true then some (.v (.bl (xor neg (PyData.eqv x y)))) else none
  | _, _ => none
def eqD (neg : Bool) (g : G) (a b : D) : Option Nv := match a, b with
  | .str x, .str y => some (.v (.bl (xor neg (decide (x = y)))))
  | a, b => eqP neg g a b
theorem dec_str {x y : Str} : decide (V.str x = V.str y) = decide (x = y) := decide_eq_decide.mpr ⟨fun h => by cases h; rfl, fun h => by rw [h]⟩
theorem eqP_of {neg : Bool} {β ι : List Addr} {g : G} {H : Hp} {d1 d2 : D} {x y : V} {Q : VK} (r : Rl X.K β ι g H) (h1 : DR X.K β ι H d1 x) (h2 : DR X.K β ι H d2 y) (p : PostD X.K β ca W ι H (fin false (eqP neg g d1 d2) g) Q) :
    ∃ a b, Dp X.K H x a ∧ Dp X.K H y b ∧ SeqAt.shaped a = true ∧ SeqAt.shaped b = true ∧ Q (.bl (xor neg (PyData.eqv a b))) H := by
  unfold eqP at p
  cases q1 : pyG g d1 with
  | none => simp only [q1] at p; exact p.elim
  | some a =>
    cases q2 : pyG g d2 with
    | none => simp only [q1, q2] at p; exact p.elim
    | some b =>
      simp only [q1, q2] at p
      split at p
      · rename_i c
        rw [Bool.and_eq_true] at c
        exact ⟨a, b, pyG_r r q1 h1, pyG_r r q2 h2, c.1, c.2, fin_v r (by unfold DR; rfl) p⟩
      · exact p.elim
theorem od_eq (hu : X.A.units + 64 < cLine) : OpR X (compareOp .Eq) (rD X.K ca W false (eqD false)) := by
  refine opOr op_eq (op_eqD hu) ?_
  rintro x y H Q ⟨β, ι, g, d1, d2, r, h1, h2, p⟩
  unfold eqD at p
  split at p
  · unfold DR at h1 h2
    subst h1; subst h2
    refine .inl ⟨rfl, ?_⟩
    rw [dec_str]
    rw [Bool.false_xor] at p
    exact fin_v r (by unfold DR; rfl) p
  · obtain ⟨a, b, z1, z2, z3, z4, q⟩ := eqP_of r h1 h2 p
    rw [Bool.false_xor] at q
    exact .inr ⟨a, b, z1, z2, z3, z4, q⟩
theorem od_ne (hu : X.A.units + 64 < cLine) : OpR X (compareOp .NotEq) (rD X.K ca W false (eqD true)) := by
  refine opOr op_ne (op_neD hu) ?_
  rintro x y H Q ⟨β, ι, g, d1, d2, r, h1, h2, p⟩
  unfold eqD at p
  split at p
  · unfold DR at h1 h2
    subst h1; subst h2
    refine .inl ⟨rfl, ?_⟩
    rw [dec_str]
    rw [Bool.true_xor] at p
    exact fin_v r (by unfold DR; rfl) p
  · obtain ⟨a, b, z1, z2, z3, z4, q⟩ := eqP_of r h1 h2 p
    rw [Bool.true_xor] at q
    exact .inr ⟨a, b, z1, z2, z3, z4, q⟩

/-! ### is None, in -/
def isN : D → Bool
  | .non => true
  | _ => false
def isNoneD (neg : Bool) (_ : G) (a b : D) : Option Nv := match b with
  | .non => some (.v (.bl (xor neg (isN a))))
  | _ => none
theorem isN_r {K : Fg} {β ι : List Addr} {H : Hp} {d : D} {v : V} (h : DR K β ι H d v) : decide (v = .non) = isN d := by
  cases d <;> unfold DR at h
  case non => subst h; rfl
  case bl => subst h; rfl
  case int => subst h; rfl
  case str => subst h; rfl
  all_goals
    obtain ⟨a, h⟩ := h
    first
      | (obtain ⟨vs, e, _⟩ := h; subst e; rfl)
      | (obtain ⟨e, _⟩ := h; subst e; rfl)
theorem od_isN : OpR X (compareOp .Is) (rD X.K ca W false (isNoneD false)) := by
  refine opOf op_isN ?_
  rintro x y H Q ⟨β, ι, g, d1, d2, r, h1, h2, p⟩
  cases d2 with
  | non =>
    have e2 : y = .non := by unfold DR at h2; exact h2
    refine ⟨e2, ?_⟩
    rw [isN_r h1]
    have p' : PostD X.K β ca W ι H (fin false (some (.v (.bl (xor false (isN d1))))) g) Q := p
    rw [Bool.false_xor] at p'
    exact fin_v r (by unfold DR; rfl) p'
  | _ => exact p.elim
theorem od_notN : OpR X (compareOp .IsNot) (rD X.K ca W false (isNoneD true)) := by
  refine opOf op_notN ?_
  rintro x y H Q ⟨β, ι, g, d1, d2, r, h1, h2, p⟩
  cases d2 with
  | non =>
    have e2 : y = .non := by unfold DR at h2; exact h2
    refine ⟨e2, ?_⟩
    rw [isN_r h1]
    have p' : PostD X.K β ca W ι H (fin false (some (.v (.bl (xor true (isN d1))))) g) Q := p
    rw [Bool.true_xor] at p'
    exact fin_v r (by unfold DR; rfl) p'
  | _ => exact p.elim
end
end Mn

set_option Elab.async false
set_option linter.all false
set_option maxRecDepth 100000
set_option maxHeartbeats 4000000
/-! Subscripts, membership, dicts, built-in calls. -/
namespace Mn
open PySem PySem.Spec PyProof.Rows L2

/-! ### keys -/
def keyOf : D → Option Key
  | .int i => some (.inl i)
  | .str x => some (.inr x)
  | _ => none
def getK : List (Key × D) → Key → Option D
  | [], _ => none
  | p :: r, k => if p.1 = k then some p.2 else getK r k
def setK : List (Key × D) → Key → D → List (Key × D)
  | [], _, _ => []
  | p :: r, k, d => if p.1 = k then (p.1, d) :: setK r k d else p :: setK r k d
def putD (l : List (Key × D)) (k : Key) (d : D) : List (Key × D) := match getK l k with
  | some _ => setK l k d
  | none => l ++ [(k, d)]
section
variable {K : Fg} {β ι : List Addr} {H : Hp}
theorem keyOf_r {d : D} {k : Key} {v : V} (e : keyOf d = some k) (h : DR K β ι H d v) : v = kV k := by
  cases d <;> unfold DR at h <;> cases e <;> exact h
theorem KR.val : ∀ {l : List (Key × D)} {ws : List (Key × V)} (k : Key), KR K β ι H l ws → (getK l k = none ∧ valV ws k = none) ∨ ∃ d v, getK l k = some d ∧ valV ws k = some v ∧ DR K β ι H d v
  | [], ws, k, h => by unfold KR at h; subst h; exact .inl ⟨rfl, rfl⟩
  | p :: l, ws, k, h => by
    unfold KR at h
    obtain ⟨v, us, e, q1, q2⟩ := h
    subst e
    by_cases c : p.1 = k
    · refine .inr ⟨p.2, v, ?_, valV_pos (p := (p.1, v)) c, q1⟩
      unfold getK; rw [if_pos c]
    · have e1 : getK (p :: l) k = getK l k := by show (if p.1 = k then _ else _) = _; rw [if_neg c]
      have e2 : valV ((p.1, v) :: us) k = valV us k := valV_neg (p := (p.1, v)) c
      rw [e1, e2]
      exact KR.val k q2
theorem KR.setK : ∀ {l : List (Key × D)} {ws : List (Key × V)} {k : Key} {d : D} {v : V}, KR K β ι H l ws → DR K β ι H d v → KR K β ι H (setK l k d) (ws.map fun kv => if kv.1 = k then (kv.1, v) else kv)
  | [], ws, k, d, v, h, q => by unfold KR at h; subst h; unfold Mn.setK KR; rfl
  | p :: l, ws, k, d, v, h, q => by
    unfold KR at h
    obtain ⟨u, us, e, q1, q2⟩ := h
    subst e
    rw [List.map_cons]
    have ih := KR.setK (k := k) q2 q
    by_cases c : p.1 = k
    · show KR K β ι H (if p.1 = k then _ else _) ((if p.1 = k then _ else _) :: _)
      rw [if_pos c, if_pos c]
      unfold KR
      exact ⟨v, _, rfl, q, ih⟩
    · show KR K β ι H (if p.1 = k then _ else _) ((if p.1 = k then _ else _) :: _)
      rw [if_neg c, if_neg c]
      unfold KR
      exact ⟨u, _, rfl, q1, ih⟩
theorem KR.snoc : ∀ {l : List (Key × D)} {ws : List (Key × V)} {k : Key} {d : D} {v : V}, KR K β ι H l ws → DR K β ι H d v → KR K β ι H (l ++ [(k, d)]) (ws ++ [(k, v)])
  | [], ws, k, d, v, h, q => by
    unfold KR at h; subst h
    show KR K β ι H [(k, d)] [(k, v)]
    unfold KR
    exact ⟨v, [], rfl, q, by unfold KR; rfl⟩
  | p :: l, ws, k, d, v, h, q => by
    unfold KR at h
    obtain ⟨u, us, e, q1, q2⟩ := h
    subst e
    show KR K β ι H (p :: (l ++ [(k, d)])) ((p.1, u) :: (us ++ [(k, v)]))
    unfold KR
    exact ⟨u, _, rfl, q1, KR.snoc q2 q⟩
theorem KR.put {l : List (Key × D)} {ws : List (Key × V)} {k : Key} {d : D} {v : V} (h : KR K β ι H l ws) (q : DR K β ι H d v) : KR K β ι H (putD l k d) (putK ws k v) := by
  unfold putD putK
  rw [valV_any]
  rcases h.val k with ⟨e1, e2⟩ | ⟨d', v', e1, e2, _⟩
  · rw [e1, e2, if_neg (by simp)]
    exact h.snoc q
  · rw [e1, e2, if_pos (by simp)]
    exact h.setK q
theorem KR.length : ∀ {l : List (Key × D)} {ws : List (Key × V)}, KR K β ι H l ws → ws.length = l.length
  | [], ws, h => by unfold KR at h; subst h; rfl
  | p :: l, ws, h => by
    unfold KR at h
    obtain ⟨u, us, e, q1, q2⟩ := h
    subst e
    simp [q2.length]
theorem KR.keys : ∀ {l : List (Key × D)} {ws : List (Key × V)}, KR K β ι H l ws → ws.map (·.1) = l.map (·.1)
  | [], ws, h => by unfold KR at h; subst h; rfl
  | p :: l, ws, h => by
    unfold KR at h
    obtain ⟨u, us, e, q1, q2⟩ := h
    subst e
    simp [q2.keys]
end

section
variable {X : Cx} {ca : Str → Addr} {W : WX} {a b o i : Expr} {es : List Expr} {pos : Pos} {ma mb : EM} {na : AM}

/-! ### a[b] -/
def rIxK : R2 := fun x y H Q => ∃ a v, x = .ref a ∧ DGet H a y (some v) ∧ Q v H
theorem ix_dK (hu : X.A.units + 1 < cLine) : IxR X rIxK := by
  intro value slice pins s σ H x y v u Q I rx ry h hs
  obtain ⟨a, w, rfl, g, q⟩ := h
  cases rx
  exact tail_any (dict_typeIs I g) PySem.F.slot_dict_getitem.lookup (d_getItem hu I g ry fun w' s3 I3 rw' => ⟨w, H, I3, rw', q⟩) hs
def chr1 (c : Nat) : Str := ⟨#[c]⟩
def ixD (g : G) (a b : D) : Option Nv := match a, b with
  | .tup l, .int i => (atI l i).map .v
  | .str x, .int i => if x.length ≤ LIM then (atI x.cps.toList i).map fun c => .v (.str (chr1 c)) else none
  | .obj n, d => match dctAt g n with
    | some kvs => (keyOf d).bind fun k => (getK kvs k).map .v
    | none => match lstAt g n, d with
      | some l, .int i => (atI l i).map .v
      | _, _ => none
  | c, .int i => match lisOf g c with
    | some l => (atI l i).map .v
    | none => none
  | _, _ => none
theorem DRs.at {K : Fg} {β ι : List Addr} {H : Hp} {l : List D} {vs : List V} {i : Int} {d : D} (h : DRs K β ι H l vs) (e : atI l i = some d) : ∃ v, atI vs i = some v ∧ DR K β ι H d v := by
  unfold atI at e ⊢
  rw [h.length]
  cases q : ixN l.length i with
  | none => rw [q] at e; cases e
  | some j =>
    rw [q] at e
    exact h.get e
theorem ix_D (hu : X.A.units + 1 < cLine) {own : Bool} : IxR X (rD X.K ca W own ixD) := by
  intro value slice pins s σ H x y v u Q I rx ry h hs
  obtain ⟨β, ι, g, d1, d2, r, h1, h2, p⟩ := h
  have lis : ∀ {l : List D} {i : Int} {d : D}, (∃ a vs, x = .ref a ∧ SqL X.K H a vs ∧ DRs X.K β ι H l vs) → d2 = .int i → atI l i = some d → PostD X.K β ca W ι H (fin own (some (.v d)) g) Q → wpAny (model X.prog X.w) X.A (subscriptTail value slice v u) (EP X pins σ Q) X.xe s := by
    rintro l i d ⟨a, vs, e, t, w⟩ e2 e3 pp
    obtain ⟨z, hz, dz⟩ := w.at e3
    rw [e2] at h2
    unfold DR at h2
    exact ix_list value slice pins s σ H x y v u Q I rx ry ⟨a, vs, i, z, e, h2, t, hz, fin_v r dz pp⟩ hs
  have mapv : ∀ {α : Type} {z : Option α} {f : α → Nv} {Q' : Res D → Prop}, Q' (fin own (z.map f) g) → (Q' .no → False) → ∃ w, z = some w ∧ Q' (fin own (some (f w)) g) := by
    intro α z f Q' h hn
    cases z with
    | none => exact (hn h).elim
    | some w => exact ⟨w, rfl, h⟩
  unfold ixD at p
  split at p
  · rename_i l i
    obtain ⟨d, e, p⟩ := mapv (Q' := fun z => PostD X.K β ca W ι H z Q) p fun z => z
    unfold DR at h1 h2
    obtain ⟨a, vs, ea, t, w⟩ := h1
    obtain ⟨z, hz, dz⟩ := w.at e
    exact ix_tup value slice pins s σ H x y v u Q I rx ry ⟨a, vs, i, z, ea, h2, t.sq, hz, fin_v r dz p⟩ hs
  · rename_i z i
    split at p
    · rename_i c
      obtain ⟨d, e, p⟩ := mapv (Q' := fun z => PostD X.K β ca W ι H z Q) p fun z => z
      unfold DR at h1 h2
      exact ix_str value slice pins s σ H x y v u Q I rx ry ⟨z, i, d, h1, h2, Nat.le_trans c lim_line, e, fin_v r (by unfold DR; rfl) p⟩ hs
    · exact p.elim
  · rename_i n
    have h1' := h1
    unfold DR at h1
    obtain ⟨a, ea, hn⟩ := h1
    split at p
    · rename_i kvs ek
      cases ek2 : keyOf d2 with
      | none => rw [ek2] at p; exact p.elim
      | some k =>
        rw [ek2] at p
        obtain ⟨w, e, p⟩ := mapv (Q' := fun z => PostD X.K β ca W ι H z Q) p fun z => z
        obtain ⟨ws, hw, kr⟩ := dctAt_r r ek hn
        rcases kr.val k with ⟨e1, _⟩ | ⟨d', v', e1, e2, e3⟩
        · rw [e] at e1; cases e1
        · rw [e] at e1
          cases e1
          refine ix_dK hu value slice pins s σ H x y v u Q I rx ry ⟨a, v', ea, ?_, fin_v r e3 p⟩ hs
          rw [keyOf_r ek2 h2, ← e2]
          exact .k hw
    · split at p
      · rename_i l i e1
        obtain ⟨d, e, p⟩ := mapv (Q' := fun z => PostD X.K β ca W ι H z Q) p fun z => z
        exact lis (lisOf_r (d := .obj n) r e1 h1') rfl e p
      · exact p.elim
  · rename_i c i _ _ _
    split at p
    · rename_i l e1
      obtain ⟨d, e, p⟩ := mapv (Q' := fun z => PostD X.K β ca W ι H z Q) p fun z => z
      exact lis (lisOf_r r e1 h1) rfl e p
    · exact p.elim
  · exact p.elim
theorem me_ix (hu : X.A.units + 1 < cLine) (ha : PE X a (tE X.K ca W ma)) (hb : PE X b (tE X.K ca W mb)) (hs : PlainIx b) : PE X (.Subscript a b pos) (tE X.K ca W (binM false ixD ma mb)) :=
  peOf (pe_ix (ix_D (ca := ca) (W := W) (own := false) hu) ha hb hs) fun _ _ _ h => tOp_of h

/-! ### in, not in -/
def flatD : D → Bool
  | .non => true
  | .bl _ => true
  | .int _ => true
  | .str _ => true
  | _ => false
def eqF : D → D → Bool
  | .non, .non => true
  | .bl a, .bl b => a == b
  | .bl a, .int b => (if a then 1 else 0) == b
  | .int a, .bl b => a == (if b then 1 else 0)
  | .int a, .int b => a == b
  | .str a, .str b => a == b
  | _, _ => false
theorem flat_r {K : Fg} {β ι : List Addr} {H : Hp} {d : D} {v : V} (h : DR K β ι H d v) (f : flatD d = true) : flatV v = true := by
  cases d <;> unfold DR at h <;> first | (subst h; rfl) | cases f
theorem eqF_r {K : Fg} {β ι : List Addr} {H : Hp} {d e : D} {v u : V} (h : DR K β ι H d v) (k : DR K β ι H e u) (f : flatD d = true) (f' : flatD e = true) : eqV v u = eqF d e := by
  cases d <;> unfold DR at h <;> (try cases f) <;> subst h <;> (cases e <;> unfold DR at k <;> (try cases f') <;> subst k <;> rfl)
theorem any_r {K : Fg} {β ι : List Addr} {H : Hp} {e : D} {u : V} (k : DR K β ι H e u) (f' : flatD e = true) : ∀ {l : List D} {vs : List V}, DRs K β ι H l vs → l.all flatD = true → vs.all flatV = true ∧ inV u vs = l.any fun y => eqF y e
  | [], vs, h, _ => by unfold DRs at h; subst h; exact ⟨rfl, rfl⟩
  | d :: l, vs, h, c => by
    unfold DRs at h
    obtain ⟨v, ws, ev, q1, q2⟩ := h
    subst ev
    rw [List.all_cons, Bool.and_eq_true] at c
    obtain ⟨i1, i2⟩ := any_r k f' q2 c.2
    refine ⟨by rw [List.all_cons, flat_r q1 c.1, i1]; rfl, ?_⟩
    show (eqV v u || inV u ws) = _
    rw [i2, eqF_r q1 k c.1 f', List.any_cons]
/-- what stands behind in: a list or tuple of flat things, a dict -/
def inD (neg : Bool) (g : G) (a b : D) : Option Nv := match b with
  | .obj n => match dctAt g n with
    | some kvs => (keyOf a).map fun k => .v (.bl (xor neg (getK kvs k).isSome))
    | none => match lstAt g n with
      | some l => if (flatD a && l.all flatD) = true then some (.v (.bl (xor neg (l.any fun y => eqF y a)))) else none
      | none => none
  | .tup l => if (flatD a && l.all flatD) = true then some (.v (.bl (xor neg (l.any fun y => eqF y a)))) else none
  | c => match lisOf g c with
    | some l => if (flatD a && l.all flatD) = true then some (.v (.bl (xor neg (l.any fun y => eqF y a)))) else none
    | none => none
def rInK (neg : Bool) : R2 := fun x y H Q => ∃ a o, y = .ref a ∧ DGet H a x o ∧ Q (.bl (xor neg o.isSome)) H
theorem op_inK (hu : X.A.units + 1 < cLine) : OpR X (compareOp .In) (rInK false) := by
  intro pins s σ H x y v u Q I rx ry h
  obtain ⟨a, o, rfl, g, q⟩ := h
  cases ry
  refine d_in hu I g rx fun s3 I3 => ⟨.bl o.isSome, H, I3, rfl, ?_⟩
  rw [Bool.false_xor] at q
  exact q
theorem op_notInK (hu : X.A.units + 1 < cLine) : OpR X (compareOp .NotIn) (rInK true) := by
  intro pins s σ H x y v u Q I rx ry h
  obtain ⟨a, o, rfl, g, q⟩ := h
  cases ry
  refine d_notIn hu I g rx fun s3 I3 => ⟨.bl (!o.isSome), H, I3, rfl, ?_⟩
  rw [Bool.true_xor] at q
  exact q
theorem in_of {neg : Bool} {x y : V} {H : Hp} {Q : VK} (h : rD X.K ca W false (inD neg) x y H Q) : rIn X.K neg x y H Q ∨ rInK neg x y H Q := by
  obtain ⟨β, ι, g, d1, d2, r, h1, h2, p⟩ := h
  have seq : ∀ {l : List D}, (∃ a vs, y = .ref a ∧ (SqL X.K H a vs ∨ SqT X.K H a vs) ∧ DRs X.K β ι H l vs) → PostD X.K β ca W ι H (fin false (if (flatD d1 && l.all flatD) = true then some (.v (.bl (xor neg (l.any fun y => eqF y d1)))) else none) g) Q → rIn X.K neg x y H Q := by
    rintro l ⟨a, vs, e, t, w⟩ p
    split at p
    · rename_i c
      rw [Bool.and_eq_true] at c
      obtain ⟨c1, c2⟩ := any_r h1 c.1 w c.2
      refine ⟨a, vs, e, t, flat_r h1 c.1, c1, ?_⟩
      rw [c2]
      have q := fin_v r (v := .bl (xor neg (l.any fun y => eqF y d1))) (by unfold DR; rfl) p
      cases neg with
      | true => rw [Bool.true_xor] at q; exact q
      | false => rw [Bool.false_xor] at q; exact q
    · exact p.elim
  unfold inD at p
  split at p
  · rename_i n
    have h2' := h2
    unfold DR at h2
    obtain ⟨a, ea, hn⟩ := h2
    split at p
    · rename_i kvs ek
      cases ek2 : keyOf d1 with
      | none => rw [ek2] at p; exact p.elim
      | some k =>
        rw [ek2] at p
        obtain ⟨ws, hw, kr⟩ := dctAt_r r ek hn
        have q := fin_v r (v := .bl (xor neg (getK kvs k).isSome)) (by unfold DR; rfl) p
        refine .inr ⟨a, valV ws k, ea, by rw [keyOf_r ek2 h1]; exact .k hw, ?_⟩
        rcases kr.val k with ⟨e1, e2⟩ | ⟨d', v', e1, e2, e3⟩
        · rw [e1] at q; rw [e2]; exact q
        · rw [e1] at q; rw [e2]; exact q
    · split at p
      · rename_i l e1
        obtain ⟨a', vs, h3, h4, h5⟩ := lisOf_r (d := .obj n) r e1 h2'
        exact .inl (seq ⟨a', vs, h3, .inl h4, h5⟩ p)
      · exact p.elim
  · rename_i l
    unfold DR at h2
    obtain ⟨a, vs, ea, t, w⟩ := h2
    exact .inl (seq ⟨a, vs, ea, .inr t.sq, w⟩ p)
  · split at p
    · rename_i l e1
      obtain ⟨a', vs, h3, h4, h5⟩ := lisOf_r r e1 h2
      exact .inl (seq ⟨a', vs, h3, .inl h4, h5⟩ p)
    · exact p.elim
theorem od_in (hu : X.A.units + 1 < cLine) : OpR X (compareOp .In) (rD X.K ca W false (inD false)) := opOr op_in_seq (op_inK hu) fun _ _ _ _ h => in_of h
theorem od_notIn (hu : X.A.units + 1 < cLine) : OpR X (compareOp .NotIn) (rD X.K ca W false (inD true)) := opOr op_notIn_seq (op_notInK hu) fun _ _ _ _ h => in_of h

/-! ### dict displays -/
def ditM : List (EM × EM) → Rho → G → Res (List (D × D))
  | [], _, g => .ok [] g
  | (mk, mv) :: r, ρ, g => bindE mk (fun k => bindE mv fun v => fun ρ g => (ditM r ρ g).bind fun ps g' => .ok ((k, v) :: ps) g') ρ g
def keysOf : List (D × D) → Option (List (Key × D))
  | [] => some []
  | p :: r => match keyOf p.1, keysOf r with
    | some k, some l => some ((k, p.2) :: l)
    | _, _ => none
def mrg (l m : List (Key × D)) : List (Key × D) := m.foldl (fun acc p => putD acc p.1 p.2) l
/-- {}; {k: v, ..} -/
def dicM (l : List (EM × EM)) : EM := fun ρ g => (ditM l ρ g).bind fun ps g' => match keysOf ps with
  | some kvs => if kvs.length ≤ 15 then .ok (.obj g'.length) (g' ++ [.dct (mrg [] kvs)]) else .no
  | none => .no
theorem me_dnew : PE X (.Dict [] [] pos) (tE X.K ca W (dicM [])) := peOf pe_dnewK fun σ H Q ⟨β, ι, ρ, g, r, s, h⟩ p hp => by
  have h' : PostD X.K β ca W ι H (.ok (.obj g.length) (g ++ [.dct []])) Q := h
  refine h' (ι ++ [p]) _ _ (Ex.own hp) (r.own hp ⟨[], rfl, by unfold KR; rfl⟩) ?_
  unfold DR
  exact ⟨p, rfl, by rw [← r.len]; simp⟩

/-! ### built-in calls -/
theorem calOf {f : Value} {r r1 : List V → Hp → VK → Prop} (h1 : CallR X f r1) (h : ∀ x H Q, r x H Q → r1 x H Q) : CallR X f r := by
  intro pins s σ H x us Q I rx q
  exact h1 pins s σ H x us Q I rx (h x H Q q)
theorem calOr {f : Value} {r r1 r2 : List V → Hp → VK → Prop} (h1 : CallR X f r1) (h2 : CallR X f r2) (h : ∀ x H Q, r x H Q → r1 x H Q ∨ r2 x H Q) : CallR X f r := by
  intro pins s σ H x us Q I rx q
  rcases h x H Q q with q | q
  · exact h1 pins s σ H x us Q I rx q
  · exact h2 pins s σ H x us Q I rx q
theorem me_call {own : Bool} {e : Expr} {x : Str} {p : Pos} {id : String} {fd : G → List D → Option Nv} (hc : CallR X (.builtin id) (rC X.K ca W own fd)) (hg : Gl X x) (hm : X.mg x = none) (hv : bootBuiltins x = some (.builtin id)) (ha : PA X (e :: es) (tA X.K ca W na)) (hn : x ≠ "__name__" := by decide)
    (hdb : (x == ("__debug__" : Str)) = false := by decide) (he : starEach (e :: es) X.env = (false, eval e X.env) :: starEach es X.env := by rfl) (hpl : (backTo pos (starEach es X.env)).any (·.1) = false := by rfl) :
    PE X (.Call (.Name x p) (e :: es) [] pos) (tE X.K ca W (calM own fd na)) := peOf (pe_callB hc hg hm hv ha hn hdb he hpl) fun _ _ _ h => tCB_of h
theorem me_callT {own : Bool} {e : Expr} {x : Str} {p : Pos} {T : String} {fd : G → List D → Option Nv} (hc : CallR X (.type T) (rC X.K ca W own fd)) (hg : Gl X x) (hm : X.mg x = none) (hv : bootBuiltins x = some (.type T)) (ha : PA X (e :: es) (tA X.K ca W na)) (hn : x ≠ "__name__" := by decide)
    (hdb : (x == ("__debug__" : Str)) = false := by decide) (he : starEach (e :: es) X.env = (false, eval e X.env) :: starEach es X.env := by rfl) (hpl : (backTo pos (starEach es X.env)).any (·.1) = false := by rfl) :
    PE X (.Call (.Name x p) (e :: es) [] pos) (tE X.K ca W (calM own fd na)) := peOf (pe_callTy hc hg hm hv ha hn hdb he hpl) fun _ _ _ h => tCB_of h
theorem DRs.one {K : Fg} {β ι : List Addr} {H : Hp} {d : D} {xs : List V} (h : DRs K β ι H [d] xs) : ∃ v, xs = [v] ∧ DR K β ι H d v := by
  unfold DRs at h
  obtain ⟨v, ws, e, q1, q2⟩ := h
  unfold DRs at q2
  subst q2
  exact ⟨v, e, q1⟩
theorem DRs.two {K : Fg} {β ι : List Addr} {H : Hp} {d d' : D} {xs : List V} (h : DRs K β ι H [d, d'] xs) : ∃ v u, xs = [v, u] ∧ DR K β ι H d v ∧ DR K β ι H d' u := by
  unfold DRs at h
  obtain ⟨v, ws, e, q1, q2⟩ := h
  obtain ⟨u, e', q3⟩ := q2.one
  exact ⟨v, u, by rw [e, e'], q1, q3⟩
def lenD (g : G) : List D → Option Nv
  | [.tup l] => some (.v (.int l.length))
  | [.str x] => if x.length ≤ LIM then some (.v (.int x.length)) else none
  | [.obj n] => match dctAt g n with
    | some l => some (.v (.int l.length))
    | none => (lstAt g n).map fun l => .v (.int l.length)
  | [d] => (lisOf g d).map fun l => .v (.int l.length)
  | _ => none
theorem cd_len {own : Bool} : CallR X (.builtin "len") (rC X.K ca W own lenD) := by
  refine calOr call_len_seq (calOr call_len_str call_lenD (r := fun x H Q => (∃ z, x = [.str z] ∧ z.length ≤ sizeLine ∧ Q (.int z.length) H) ∨ (∃ a kvs, x = [V.ref a] ∧ H a = some (.dK kvs) ∧ Q (.int kvs.length) H)) fun _ _ _ h => h) ?_
  rintro xs H Q ⟨β, ι, g, ds, r, h, p⟩
  have lis : ∀ {d : D} {l : List D}, DRs X.K β ι H [d] xs → lisOf g d = some l → PostD X.K β ca W ι H (fin own (some (.v (.int l.length))) g) Q → ∃ p ys, xs = [.ref p] ∧ (SqL X.K H p ys ∨ SqT X.K H p ys) ∧ Q (.int ys.length) H := by
    intro d l h e p
    obtain ⟨v, ev, dv⟩ := h.one
    obtain ⟨a, vs, h3, h4, h5⟩ := lisOf_r r e dv
    subst h3
    exact ⟨a, vs, ev, .inl h4, fin_v r (by unfold DR; rw [h5.length]) p⟩
  unfold lenD at p
  split at p
  · rename_i l
    obtain ⟨v, ev, dv⟩ := h.one
    unfold DR at dv
    obtain ⟨a, vs, ea, t, w⟩ := dv
    subst ea
    exact .inl ⟨a, vs, ev, .inr t.sq, fin_v r (by unfold DR; rw [w.length]) p⟩
  · split at p
    · rename_i x c
      obtain ⟨v, ev, dv⟩ := h.one
      unfold DR at dv
      subst dv
      exact .inr (.inl ⟨x, ev, Nat.le_trans c lim_line, fin_v r (by unfold DR; rfl) p⟩)
    · exact p.elim
  · rename_i n
    split at p
    · rename_i kvs ek
      obtain ⟨v, ev, dv⟩ := h.one
      unfold DR at dv
      obtain ⟨a, ea, hn⟩ := dv
      subst ea
      obtain ⟨ws, hw, kr⟩ := dctAt_r r ek hn
      exact .inr (.inr ⟨a, ws, ev, hw, fin_v r (by unfold DR; rw [kr.length]) p⟩)
    · cases e : lstAt g n with
      | none => rw [e] at p; exact p.elim
      | some l =>
        rw [e] at p
        exact .inl (lis (d := .obj n) h e p)
  · rename_i d _ _ _
    cases e : lisOf g d with
    | none => rw [e] at p; exact p.elim
    | some l =>
      rw [e] at p
      exact .inl (lis h e p)
  · exact p.elim
def intC (_ : G) : List D → Option Nv
  | [.int i] => some (.v (.int i))
  | [.bl b] => some (.v (.int (if b then 1 else 0)))
  | _ => none
theorem cd_int {own : Bool} : CallR X (.type "int") (rC X.K ca W own intC) := by
  refine calOf call_int1 ?_
  rintro xs H Q ⟨β, ι, g, ds, r, h, p⟩
  unfold intC at p
  split at p
  · rename_i i
    obtain ⟨v, ev, dv⟩ := h.one
    unfold DR at dv
    subst dv
    exact .inl ⟨i, ev, fin_v r (by unfold DR; rfl) p⟩
  · rename_i b
    obtain ⟨v, ev, dv⟩ := h.one
    unfold DR at dv
    subst dv
    exact .inr ⟨b, ev, fin_v r (by unfold DR; rfl) p⟩
  · exact p.elim
def gcdC (_ : G) : List D → Option Nv
  | [.int i, .int j] => some (.v (.int ((Nat.gcd i.natAbs j.natAbs : Nat) : Int)))
  | _ => none
/-- the greatest, the least of a list -/
def topI (f : Int → Int → Bool) : List Int → Option Int
  | [] => none
  | x :: r => some (r.foldl (fun m y => if f m y = true then y else m) x)
abbrev maxI := topI fun m y => decide (m < y)
abbrev minI := topI fun m y => decide (y < m)
theorem max_fold : ∀ (r : List Int) (x : Int), (r.foldl (fun m y => if decide (m < y) = true then y else m) x) ∈ x :: r ∧ ∀ y ∈ x :: r, y ≤ r.foldl (fun m y => if decide (m < y) = true then y else m) x
  | [], x => ⟨List.mem_cons_self, fun y hy => by have : y = x := by simpa using hy
                                                 rw [this]; exact Int.le_refl _⟩
  | z :: r, x => by
    rw [List.foldl_cons]
    obtain ⟨h1, h2⟩ := max_fold r (if decide (x < z) = true then z else x)
    by_cases c : x < z
    · simp only [c, decide_true, if_true] at h1 h2 ⊢
      refine ⟨List.mem_cons_of_mem _ h1, fun y hy => ?_⟩
      rcases List.mem_cons.mp hy with e | hy
      · have := h2 z List.mem_cons_self
        rw [e]; omega
      · exact h2 y hy
    · simp only [c, decide_false] at h1 h2 ⊢
      refine ⟨?_, fun y hy => ?_⟩
      · rcases List.mem_cons.mp h1 with e | h
        · rw [e]; exact List.mem_cons_self
        · exact List.mem_cons_of_mem _ (List.mem_cons_of_mem _ h)
      · rcases List.mem_cons.mp hy with e | hy
        · have := h2 x List.mem_cons_self
          rw [e]; exact this
        · rcases List.mem_cons.mp hy with e | hy
          · have := h2 x List.mem_cons_self
            have d : (if (false : Bool) = true then z else x) = x := rfl
            rw [e]
            omega
          · exact h2 y (List.mem_cons_of_mem _ hy)
theorem min_fold : ∀ (r : List Int) (x : Int), (r.foldl (fun m y => if decide (y < m) = true then y else m) x) ∈ x :: r ∧ ∀ y ∈ x :: r, r.foldl (fun m y => if decide (y < m) = true then y else m) x ≤ y
  | [], x => ⟨List.mem_cons_self, fun y hy => by have : y = x := by simpa using hy
                                                 rw [this]; exact Int.le_refl _⟩
  | z :: r, x => by
    rw [List.foldl_cons]
    obtain ⟨h1, h2⟩ := min_fold r (if decide (z < x) = true then z else x)
    by_cases c : z < x
    · simp only [c, decide_true, if_true] at h1 h2 ⊢
      refine ⟨List.mem_cons_of_mem _ h1, fun y hy => ?_⟩
      rcases List.mem_cons.mp hy with e | hy
      · have := h2 z List.mem_cons_self
        rw [e]; omega
      · exact h2 y hy
    · simp only [c, decide_false] at h1 h2 ⊢
      refine ⟨?_, fun y hy => ?_⟩
      · rcases List.mem_cons.mp h1 with e | h
        · rw [e]; exact List.mem_cons_self
        · exact List.mem_cons_of_mem _ (List.mem_cons_of_mem _ h)
      · rcases List.mem_cons.mp hy with e | hy
        · have := h2 x List.mem_cons_self
          rw [e]; exact this
        · rcases List.mem_cons.mp hy with e | hy
          · have := h2 x List.mem_cons_self
            have d : (if (false : Bool) = true then z else x) = x := rfl
            rw [e]
            omega
          · exact h2 y (List.mem_cons_of_mem _ hy)
def topC (f : Int → Int → Bool) (g : G) : List D → Option Nv
  | [.int i, .int j] => some (.v (.int (if f i j = true then j else i)))
  | [d] => (lisOf g d).bind fun l => (intsOf l).bind fun ns => (topI f ns).map fun m => .v (.int m)
  | _ => none
abbrev maxC := topC fun m y => decide (m < y)
abbrev minC := topC fun m y => decide (y < m)
theorem cd_max {own : Bool} (hc : X.calm = true) : CallR X (.builtin "max") (rC X.K ca W own maxC) := by
  refine calOr (call_max2 hc) (cr_max hc) ?_
  rintro xs H Q ⟨β, ι, g, ds, r, h, p⟩
  unfold maxC topC at p
  split at p
  · rename_i i j
    obtain ⟨v, u, ev, dv, du⟩ := h.two
    unfold DR at dv du
    subst dv du
    refine .inl ⟨i, j, ev, fin_v r ?_ p⟩
    unfold DR
    simp only [decide_eq_true_eq] <;> rfl
  · rename_i d
    obtain ⟨v, ev, dv⟩ := h.one
    cases e : lisOf g d with
    | none => rw [e] at p; exact p.elim
    | some l =>
      rw [e, Option.bind_some] at p
      cases e2 : intsOf l with
      | none => rw [e2] at p; exact p.elim
      | some ns =>
        rw [e2, Option.bind_some] at p
        cases ns with
        | nil => exact p.elim
        | cons x r' =>
          obtain ⟨a, vs, h3, h4, h5⟩ := lisOf_r r e dv
          subst h3
          rw [intsOf_eq e2] at h5
          rw [h5.ints] at h4
          obtain ⟨m1, m2⟩ := max_fold r' x
          refine .inr ⟨a, x :: r', ev, h4, by simp, fun m hm hb => fin_v r ?_ p⟩
          unfold DR
          have hx := hb _ m1
          have hy := m2 _ hm
          rw [show m = _ from Int.le_antisymm hy hx]
  · exact p.elim
theorem cd_min {own : Bool} (hc : X.calm = true) : CallR X (.builtin "min") (rC X.K ca W own minC) := by
  refine calOr (call_min2 hc) (cr_min hc) ?_
  rintro xs H Q ⟨β, ι, g, ds, r, h, p⟩
  unfold minC topC at p
  split at p
  · rename_i i j
    obtain ⟨v, u, ev, dv, du⟩ := h.two
    unfold DR at dv du
    subst dv du
    refine .inl ⟨i, j, ev, fin_v r ?_ p⟩
    unfold DR
    simp only [decide_eq_true_eq] <;> rfl
  · rename_i d
    obtain ⟨v, ev, dv⟩ := h.one
    cases e : lisOf g d with
    | none => rw [e] at p; exact p.elim
    | some l =>
      rw [e, Option.bind_some] at p
      cases e2 : intsOf l with
      | none => rw [e2] at p; exact p.elim
      | some ns =>
        rw [e2, Option.bind_some] at p
        cases ns with
        | nil => exact p.elim
        | cons x r' =>
          obtain ⟨a, vs, h3, h4, h5⟩ := lisOf_r r e dv
          subst h3
          rw [intsOf_eq e2] at h5
          rw [h5.ints] at h4
          obtain ⟨m1, m2⟩ := min_fold r' x
          refine .inr ⟨a, x :: r', ev, h4, by simp, fun m hm hb => fin_v r ?_ p⟩
          unfold DR
          have hx := hb _ m1
          have hy := m2 _ hm
          rw [show m = _ from Int.le_antisymm hx hy]
  · exact p.elim
/-! tuple(x), list(x) -/
def tupC (g : G) : List D → Option Nv
  | [.tup l] => some (.v (.tup l))
  | [d] => (lisOf g d).map fun l => .v (.tup l)
  | _ => none
theorem cd_tuple {own : Bool} : CallR X (.type "tuple") (rC X.K ca W own tupC) := by
  refine calOf call_tuple_of ?_
  rintro xs H Q ⟨β, ι, g, ds, r, h, p⟩
  unfold tupC at p
  split at p
  · rename_i l
    obtain ⟨v, ev, dv⟩ := h.one
    have dv' := dv
    unfold DR at dv
    obtain ⟨a, vs, ea, t, w⟩ := dv
    subst ea
    exact ⟨a, vs, ev, .inr ⟨t.sq, fin_v r dv' p⟩⟩
  · rename_i d _
    obtain ⟨v, ev, dv⟩ := h.one
    cases e : lisOf g d with
    | none => rw [e] at p; exact p.elim
    | some l =>
      rw [e] at p
      obtain ⟨a, vs, h3, h4, h5⟩ := lisOf_r r e dv
      subst h3
      exact ⟨a, vs, ev, .inl ⟨h4, fin_t r h5 p⟩⟩
  · exact p.elim
def lisC (g : G) : List D → Option Nv
  | [.tup l] => some (.n l)
  | [d] => (lisOf g d).map fun l => .n l
  | _ => none
theorem cd_list {own : Bool} : CallR X (.type "list") (rC X.K ca W own lisC) := by
  refine calOf call_list_of ?_
  rintro xs H Q ⟨β, ι, g, ds, r, h, p⟩
  unfold lisC at p
  split at p
  · rename_i l
    obtain ⟨v, ev, dv⟩ := h.one
    unfold DR at dv
    obtain ⟨a, vs, ea, t, w⟩ := dv
    subst ea
    exact ⟨a, vs, ev, .inr t.sq, fin_n r w p⟩
  · rename_i d _
    obtain ⟨v, ev, dv⟩ := h.one
    cases e : lisOf g d with
    | none => rw [e] at p; exact p.elim
    | some l =>
      rw [e] at p
      obtain ⟨a, vs, h3, h4, h5⟩ := lisOf_r r e dv
      subst h3
      exact ⟨a, vs, ev, .inl h4, fin_n r h5 p⟩
  · exact p.elim
end
end Mn

set_option Elab.async false
set_option linter.all false
set_option maxRecDepth 100000
set_option maxHeartbeats 4000000
/-! Statements and loops. -/
namespace Mn
open PySem PySem.Spec PyProof.Rows L2

/-! ### blocks -/
def nxM : SM := fun ρ g => .ok (.nx ρ) g
def seqM (m n : SM) : SM := fun ρ g => match m ρ g with
  | .ok (.nx ρ') g' => n ρ' g'
  | r => r
def setM (i : Nat) (m : EM) : SM := bindE m fun d => fun ρ g => .ok (.nx (ρ.set i (some d))) g
def dropM (m : EM) : SM := bindE m fun _ => fun ρ g => .ok (.nx ρ) g
def retM (m : EM) : SM := bindE m fun d => fun _ g => .ok (.rt d) g
def retN : SM := fun _ g => .ok (.rt .non) g
def brkM : SM := fun ρ g => .ok (.bk ρ) g
def cntM : SM := fun ρ g => .ok (.ct ρ) g
def ifM (c : TM) (m n : SM) : SM := bindT c fun b => match b with
  | true => m
  | false => n
section
variable {X : Cx} {ca : Str → Addr} {W : WX} {e a b : Expr} {es : List Expr} {st : Stmt} {rest : List Stmt} {pos : Pos} {m : EM} {p q : SM} {c : TM} {na : AM}
theorem ms_nil : PSs X [] (tS X.K ca W nxM) := pssOf pss_nil fun E σ H ⟨β, ι, ρ, g, r, s, h⟩ => h ι σ H (Ex.refl _ _) r s
theorem seq_of {K : Fg} {σ : Sg} {H : Hp} {E : Ends} (h : tS K ca W (seqM p q) E σ H) : tSeq (tS K ca W p) (tS K ca W q) E σ H := by
  obtain ⟨β, ι, ρ, g, r, s, h⟩ := h
  refine ⟨β, ι, ρ, g, r, s, ?_⟩
  unfold seqM at h
  cases z : p ρ g with
  | ok f g' =>
    rw [z] at h
    cases f with
    | nx ρ' => exact fun ι' σ' H' x r' s' => ⟨β, ι', ρ', g', r', s', PostS.from x h⟩
    | rt d => exact h
    | bk ρ' => exact h
    | ct ρ' => exact h
  | exc cc fs ρ' g' => rw [z] at h; exact h
  | no => rw [z] at h; exact h
theorem ms_cons (h1 : PS X st (tS X.K ca W p)) (h2 : PSs X rest (tS X.K ca W q)) : PSs X (st :: rest) (tS X.K ca W (seqM p q)) := pssOf (pss_cons h1 h2) fun _ _ _ h => seq_of h
theorem ms_one (h1 : PS X st (tS X.K ca W p)) : PSs X [st] (tS X.K ca W p) := pss_one h1
theorem ms_pass : PS X (.Pass pos) (tS X.K ca W nxM) := psOf ps_pass fun E σ H ⟨β, ι, ρ, g, r, s, h⟩ => h ι σ H (Ex.refl _ _) r s
theorem ms_break : PS X (.Break pos) (tS X.K ca W brkM) := psOf ps_break fun E σ H ⟨β, ι, ρ, g, r, s, h⟩ => h ι σ H (Ex.refl _ _) r s
theorem ms_continue : PS X (.Continue pos) (tS X.K ca W cntM) := psOf ps_continue fun E σ H ⟨β, ι, ρ, g, r, s, h⟩ => h ι σ H (Ex.refl _ _) r s
theorem ms_expr (he : PE X e (tE X.K ca W m)) (hs : swapsWith e none pos.line X.env = pure false := by rfl) : PS X (.Expr e pos) (tS X.K ca W (dropM m)) := psOf (ps_expr he hs) fun E σ H ⟨β, ι, ρ, g, r, s, h⟩ =>
  (tE_bindS r s h).mono fun v H1 ⟨ι1, d, g1, x1, r1, s1, dv, h1⟩ => h1 ι1 σ H1 (Ex.refl _ _) r1 s1
theorem ms_ret (he : PE X e (tE X.K ca W m)) : PS X (.Return (some e) pos) (tS X.K ca W (retM m)) := psOf (ps_ret he) fun E σ H ⟨β, ι, ρ, g, r, s, h⟩ =>
  (tE_bindS r s h).mono fun v H1 ⟨ι1, d, g1, x1, r1, s1, dv, h1⟩ => h1 ι1 v H1 (Ex.refl _ _) r1 dv
theorem ms_retN : PS X (.Return none pos) (tS X.K ca W retN) := psOf ps_retN fun E σ H ⟨β, ι, ρ, g, r, s, h⟩ => h ι .non H (Ex.refl _ _) r (by unfold DR; rfl)
theorem ms_if {ct : Expr} {l1 l2 : List Stmt} (hc : PT X ct (tT X.K ca W c)) (h1 : PSs X l1 (tS X.K ca W p)) (h2 : PSs X l2 (tS X.K ca W q)) : PS X (.If ct l1 l2 pos) (tS X.K ca W (ifM c p q)) := psOf (ps_if hc h1 h2) fun E σ H ⟨β, ι, ρ, g, r, s, h⟩ =>
  (tT_bindS r s h).mono fun b H1 ⟨ι1, g1, x1, r1, s1, h1⟩ => by
    cases b with
    | true => exact iteT ⟨_, ι1, ρ, g1, r1, s1, h1⟩
    | false => exact iteF ⟨_, ι1, ρ, g1, r1, s1, h1⟩
theorem ms_set {i : Nat} {x : Str} {pos' : Pos} (hN : X.N.Nodup) (hi : X.N[i]? = some x) (hx : Loc X.env.scope x) (he : PE X e (tE X.K ca W m)) (hs : swapsWith e (some (.Name x pos')) pos.line X.env = pure false := by rfl)
    (hf : X.fn x = true ∨ X.env.scope.names.lookup x = some .local := by first | exact .inl rfl | exact .inr rfl | assumption) : PS X (.Assign [.Name x pos'] e pos) (tS X.K ca W (setM i m)) := psOf (ps_set hN hi hx he hs hf) fun E σ H ⟨β, ι, ρ, g, r, s, h⟩ =>
  (tE_bindS r s h).mono fun v H1 ⟨ι1, d, g1, x1, r1, s1, dv, h1⟩ => h1 ι1 _ H1 (Ex.refl _ _) r1 (s1.set dv i)

/-! ### targets -/
/-- a target: a slot, a tuple of targets -/
inductive Pt where
  | nm (i : Nat) | tp (l : List Pt)
mutual
def Pt.put : Pt → D → Rho → Option Rho
  | .nm i, d, ρ => some (ρ.set i (some d))
  | .tp l, .tup ds, ρ => if l.length = ds.length then Pt.puts l ds ρ else none
  | .tp _, _, _ => none
def Pt.puts : List Pt → List D → Rho → Option Rho
  | [], _, ρ => some ρ
  | p :: r, d :: ds, ρ => match Pt.put p d ρ with
    | some ρ' => Pt.puts r ds ρ'
    | none => none
  | _ :: _, [], _ => none
end
mutual
def Pt.slots : Pt → List Nat
  | .nm i => [i]
  | .tp l => Pt.slotsL l
def Pt.slotsL : List Pt → List Nat
  | [] => []
  | p :: r => Pt.slots p ++ Pt.slotsL r
end
/-- the other slots are as they were -/
def Oth (l : List Nat) (σ σ' : Sg) : Prop := σ'.length = σ.length ∧ ∀ j, j ∉ l → σ'[j]? = σ[j]?
theorem Oth.refl (l : List Nat) (σ : Sg) : Oth l σ σ := ⟨rfl, fun _ _ => rfl⟩
theorem Oth.set (i : Nat) (σ : Sg) (v : Option V) : Oth [i] σ (σ.set i v) := ⟨by simp, fun j hj => by rw [List.getElem?_set_ne (by simpa using Ne.symm (by simpa using hj))]⟩
theorem Oth.trans {l m : List Nat} {σ σ1 σ2 : Sg} (a : Oth l σ σ1) (b : Oth m σ1 σ2) : Oth (l ++ m) σ σ2 := ⟨b.1.trans a.1, fun j hj => by
  rw [List.mem_append, not_or] at hj
  rw [b.2 j hj.2, a.2 j hj.1]⟩
def tG (K : Fg) (p : Pt) : TG := fun v σ H Q => ∃ β ι ρ g d ρ', Rl K β ι g H ∧ SR K β ι H ρ σ ∧ DR K β ι H d v ∧ p.put d ρ = some ρ' ∧ ∀ σ', SR K β ι H ρ' σ' → Oth p.slots σ σ' → Q σ' H
def tGs (K : Fg) (l : List Pt) : TGs := fun vs σ H Q => ∃ β ι ρ g ds ρ', Rl K β ι g H ∧ SR K β ι H ρ σ ∧ DRs K β ι H ds vs ∧ l.length = ds.length ∧ Pt.puts l ds ρ = some ρ' ∧ ∀ σ', SR K β ι H ρ' σ' → Oth (Pt.slotsL l) σ σ' → Q σ' H
theorem pgOf {tg : Expr} {t t' : TG} (p : PG X tg t) (h : ∀ v σ H Q, t' v σ H Q → t v σ H Q) : PG X tg t' := ⟨fun pins s σ H v u Q I r q => p.run pins s σ H v u Q I r (h v σ H Q q)⟩
theorem pgsOf {tg : List Expr} {t t' : TGs} (p : PGs X tg t) (h : ∀ v σ H Q, t' v σ H Q → t v σ H Q) : PGs X tg t' := ⟨fun pins s σ H v u Q I r q => p.run pins s σ H v u Q I r (h v σ H Q q)⟩
theorem mg_name {i : Nat} {x : Str} (hN : X.N.Nodup) (hi : X.N[i]? = some x) (hx : Loc X.env.scope x) (hf : X.fn x = true ∨ X.env.scope.names.lookup x = some .local := by first | exact .inl rfl | exact .inr rfl | assumption) : PG X (.Name x pos) (tG X.K (.nm i)) :=
  pgOf (pg_name hN hi hx hf) fun v σ H Q ⟨β, ι, ρ, g, d, ρ', r, s, dv, e, h⟩ => by
    cases e
    exact h _ (s.set dv i) (Oth.set i _ _)
theorem mgs_nil : PGs X [] (tGs X.K []) := pgsOf pgs_nil fun vs σ H Q ⟨β, ι, ρ, g, ds, ρ', r, s, dv, hl, e, h⟩ => by
  have e0 : ds = [] := List.length_eq_zero_iff.mp hl.symm
  subst e0
  unfold DRs at dv
  unfold Pt.puts at e
  cases e
  exact ⟨dv, h σ s (Oth.refl _ _)⟩
theorem mgs_cons {p : Pt} {l : List Pt} (h1 : PG X e (tG X.K p)) (h2 : PGs X es (tGs X.K l)) (hs : (assignEach (e :: es) X.env).map (·.2) = assign e X.env :: (assignEach es X.env).map (·.2) := by rfl) : PGs X (e :: es) (tGs X.K (p :: l)) :=
  pgsOf (pgs_cons h1 h2 hs) fun vs σ H Q ⟨β, ι, ρ, g, ds, ρ', r, s, dv, hl, e, h⟩ => by
    cases ds with
    | nil => cases hl
    | cons d ds =>
      unfold DRs at dv
      obtain ⟨v, ws, ev, q1, q2⟩ := dv
      unfold Pt.puts at e
      cases z : p.put d ρ with
      | none => rw [z] at e; cases e
      | some ρ1 =>
        rw [z] at e
        exact ⟨v, ws, ev, β, ι, ρ, g, d, ρ1, r, s, q1, z, fun σ1 s1 o1 => ⟨β, ι, ρ1, g, ds, ρ', r, s1, q2, by simpa using hl, e, fun σ2 s2 o2 => h σ2 s2 (o1.trans o2)⟩⟩
theorem mg_tup {k : Nat} {l : List Pt} (hc : X.calm = true) (h : PGs X es (tGs X.K l)) (hn : (assignEach es X.env).length = l.length := by rfl) (hst : (assignEach es X.env).findIdx? (·.1) = none := by rfl) : PG X (.Tuple es k pos) (tG X.K (.tp l)) :=
  pgOf (pg_tup hc h hn hst) fun v σ H Q ⟨β, ι, ρ, g, d, ρ', r, s, dv, e, h⟩ => by
    cases d with
    | tup ds =>
      unfold Pt.put at e
      split at e
      · rename_i hl
        unfold DR at dv
        obtain ⟨a, vs, ea, t, w⟩ := dv
        exact ⟨a, vs, ea, t.sq, by rw [w.length, hl], β, ι, ρ, g, ds, ρ', r, s, w, hl, e, h⟩
      · cases e
    | _ => unfold Pt.put at e; cases e
def asgM (p : Pt) (m : EM) : SM := bindE m fun d => fun ρ g => match p.put d ρ with
  | some ρ' => .ok (.nx ρ') g
  | none => .no
theorem ms_asg {tg : Expr} {p : Pt} (he : PE X e (tE X.K ca W m)) (hg : PG X tg (tG X.K p)) (hs : swapsWithSole [tg] e pos.line X.env = pure false := by rfl) (hw : swappedStores [tg] e X.env = pure none := by rfl)
    (h1 : (assignEach [tg] X.env).map (·.2) = [assign tg X.env] := by rfl) : PS X (.Assign [tg] e pos) (tS X.K ca W (asgM p m)) := psOf (ps_asg he hg hs hw h1) fun E σ H ⟨β, ι, ρ, g, r, s, h⟩ =>
  (tE_bindS r s h).mono fun v H1 ⟨ι1, d, g1, x1, r1, s1, dv, h1⟩ => by
    cases z : p.put d ρ with
    | none => rw [z] at h1; exact h1.elim
    | some ρ' =>
      rw [z] at h1
      exact ⟨_, ι1, ρ, g1, d, ρ', r1, s1, dv, z, fun σ' s' _ => h1 ι1 σ' H1 (Ex.refl _ _) r1 s'⟩
/-- a, b = x, y -/
def parM (i j : Nat) (n : AM) : SM := bindA n fun ds => fun ρ g => match ds with
  | [d, d'] => .ok (.nx ((ρ.set i (some d)).set j (some d'))) g
  | _ => .no
theorem tA_bindS {K : Fg} {n : AM} {f : List D → SM} {σ : Sg} {β ι : List Addr} {ρ : Rho} {g : G} {H : Hp} {E : Ends} (r : Rl K β ι g H) (s : SR K β ι H ρ σ)
    (h : PostS K β ca W ι H (bindA n f ρ g) E) :
    tA K ca W n σ H fun v H1 => ∃ ι1 d g1, Ex ι H ι1 H1 ∧ Rl K β ι1 g1 H1 ∧ SR K β ι1 H1 ρ σ ∧ DRs K β ι1 H1 d v ∧ PostS K β ca W ι1 H1 (f d ρ g1) E := by
  refine ⟨β, ι, ρ, g, r, s, ?_⟩
  unfold bindA at h
  cases q : n ρ g with
  | ok d g1 =>
    rw [q] at h
    exact fun ι1 v H1 x r1 dv => ⟨ι1, d, g1, x, r1, s.keep r x, dv, PostS.from x h⟩
  | exc c fs ρ' g1 =>
    rw [q] at h
    exact h
  | no => rw [q] at h; exact h
theorem ms_par {i j : Nat} {x y : Str} {px py pt : Pos} {kt k2 pt2} (hc : X.calm = true) (hN : X.N.Nodup) (hi : X.N[i]? = some x) (hj : X.N[j]? = some y) (hij : i ≠ j)
    (hx : X.env.scope.names.lookup x = some .local) (hy : X.env.scope.names.lookup y = some .local) (ha : PA X [a, b] (tA X.K ca W na))
    (hw : swappedStores [.Tuple [.Name x px, .Name y py] kt pt] (.Tuple [a, b] k2 pt2) X.env = pure (some [x, y]) := by rfl)
    (hs : swapsWithSole [.Tuple [.Name x px, .Name y py] kt pt] (.Tuple [a, b] k2 pt2) pos.line X.env = pure false := by rfl) :
    PS X (.Assign [.Tuple [.Name x px, .Name y py] kt pt] (.Tuple [a, b] k2 pt2) pos) (tS X.K ca W (parM i j na)) := psOf (ps_par hc hN hi hj hij hx hy ha hw hs) fun E σ H ⟨β, ι, ρ, g, r, s, h⟩ =>
  (tA_bindS r s h).mono fun vs H1 ⟨ι1, ds, g1, x1, r1, s1, dvs, h1⟩ => by
    match ds, dvs, h1 with
    | [d, d'], dvs, h1 =>
      obtain ⟨v, u, ev, q1, q2⟩ := dvs.two
      exact ⟨v, u, ev, h1 ι1 _ H1 (Ex.refl _ _) r1 ((s1.set q1 i).set q2 j)⟩
    | [], _, h1 => exact h1.elim
    | [_], _, h1 => exact h1.elim
    | _ :: _ :: _ :: _, _, h1 => exact h1.elim

/-! ### what changes an object -/
/-- a method of a list that the heap holds; f: the list, the argument -/
def lmM (f : List D → D → Option (D × List D)) (mo m : EM) : EM := bindE mo fun o => fun ρ g => match o with
  | .obj n => match lstAt g n with
    | some _ => bindE m (fun d => fun _ g => match lstAt g n with
      | some l => match f l d with
        | some (y, l') => .ok y (g.set n (.lst l'))
        | none => .no
      | none => .no) ρ g
    | none => .no
  | _ => .no
theorem lm_of {mo : EM} {f : List D → D → Option (D × List D)} {rr : V → List V → Hp → VK → Prop}
    (hf : ∀ {β ι : List Addr} {g : G} {H : Hp} {n : Nat} {a : Addr} {l l' : List D} {y d : D} {u : V} {Q : VK}, Rl X.K β ι g H → ι[n]? = some a → lstAt g n = some l → DR X.K β ι H d u → f l d = some (y, l') → PostD X.K β ca W ι H (.ok y (g.set n (.lst l'))) Q → rr (.ref a) [u] H Q)
    {σ : Sg} {H : Hp} {Q : VK} (h : tE X.K ca W (lmM f mo m) σ H Q) : tBM X.K "list" rr (tE X.K ca W mo) (tCons (tE X.K ca W m) tNil) σ H Q := by
  obtain ⟨β, ι, ρ, g, r, s, h⟩ := h
  refine (tE_bind r s h).mono fun v H1 ⟨ι1, d, g1, x1, r1, s1, dv, h1⟩ => ?_
  cases d with
  | obj n =>
    unfold DR at dv
    obtain ⟨a, ea, hn⟩ := dv
    subst ea
    cases q : lstAt g1 n with
    | none => simp only [q] at h1; exact h1.elim
    | some l0 =>
      simp only [q] at h1
      obtain ⟨vs, hv, _⟩ := lstAt_r r1 q hn
      refine ⟨.inl ⟨rfl, _, .of hv⟩, (tE_bind r1 s1 h1).mono fun u H2 ⟨ι2, d, g2, x2, r2, s2, dv2, h2⟩ => ?_⟩
      cases q2 : lstAt g2 n with
      | none => simp only [q2] at h2; exact h2.elim
      | some l =>
        simp only [q2] at h2
        cases q3 : f l d with
        | none => rw [q3] at h2; exact h2.elim
        | some yl =>
          rw [q3] at h2
          obtain ⟨y, l'⟩ := yl
          exact hf r2 (x2.ix hn) q2 dv2 q3 h2
  | _ => exact h1.elim
def appF (l : List D) (d : D) : Option (D × List D) := if l.length < LIM then some (.non, l ++ [d]) else none
theorem me_append {o : Expr} {mo : EM} {apos cpos : Pos} (ho : PE X o (tE X.K ca W mo)) (ha : PE X e (tE X.K ca W m)) (hs1 : starEach [e] X.env = (false, eval e X.env) :: starEach [] X.env := by rfl)
    (hbase : attributeBase o "append" X.env (eval o X.env) = eval o X.env := by rfl)
    (hfew : ((backTo cpos (starEach [e] X.env)).all (fun x => !x.1) && (backToKw cpos (keywordEach [] X.env)).all (fun x => x.1.isSome)
      && decide (([e] : List Expr).length + ([] : List Keyword).length + (if ([] : List Keyword).isEmpty then 0 else 1) < 30)) = true := by rfl)
    (hline : (apos.endLine == cpos.line) = true := by rfl) (hplain : (backTo cpos (starEach [] X.env)).any (·.1) = false := by rfl) :
    PE X (.Call (.Attribute o "append" apos) [e] [] cpos) (tE X.K ca W (lmM appF mo m)) :=
  peOf (pe_bm (r := rAppend) PySem.F.plainAttrs_list PySem.F.slot_list_append PySem.F.type_list_append mt_append ho (pa_cons ha pa_nil hs1) hbase hfew hline hs1 hplain) fun σ H Q h =>
    lm_of (fun {β ι g H n a l l' y d u Q} r hn q dv hf p => by
      unfold appF at hf
      split at hf
      · rename_i c
        cases hf
        obtain ⟨vs, hv, dvs⟩ := lstAt_r r q hn
        have hm : a ∈ ι := List.mem_of_getElem? hn
        refine ⟨a, vs, u, rfl, rfl, hv, lim_lt (by rw [dvs.length]; exact Nat.le_of_lt c), ?_⟩
        refine p ι _ _ (Ex.wrote hm) (r.wrote hn ⟨_, rfl, ?_⟩) (by unfold DR; rfl)
        exact (DRs.keep r (Ex.wrote hm) _ _ dvs).append (DRs.cons' (DR.keep r (Ex.wrote hm) _ _ dv) DRs.nil')
      · cases hf) h
/-- d[k] = e, d a dict of the heap: first e, then d, then k -/
def dputM (mo mk mv : EM) : SM := bindE mv fun v => bindE mo fun o => bindE mk fun k => fun ρ g => match o with
  | .obj n => match dctAt g n, keyOf k with
    | some l, some k' => if l.length < LIM then .ok (.nx ρ) (g.set n (.dct (putD l k' v))) else .no
    | _, _ => .no
  | _ => .no
theorem ms_dput {o i value : Expr} {mo mk mv : EM} {pos' : Pos} (hu : X.A.units + 1 < cLine) (ho : PE X o (tE X.K ca W mo)) (hi : PE X i (tE X.K ca W mk)) (hv : PE X value (tE X.K ca W mv)) (hs : swapsWith value (some (.Subscript o i pos')) pos.line X.env = pure false := by rfl) :
    PS X (.Assign [.Subscript o i pos'] value pos) (tS X.K ca W (dputM mo mk mv)) := psOf (ps_dput hu ho hi hv hs) fun E σ H ⟨β, ι, ρ, g, r, s, h⟩ =>
  (tE_bindS r s h).mono fun v H1 ⟨ι1, d1, g1, x1, r1, s1, dv1, h1⟩ => (tE_bindS r1 s1 h1).mono fun x H2 ⟨ι2, d2, g2, x2, r2, s2, dv2, h2⟩ => (tE_bindS r2 s2 h2).mono fun y H3 ⟨ι3, d3, g3, x3, r3, s3, dv3, h3⟩ => by
    have dv1' := DR.keep r2 x3 _ _ (DR.keep r1 x2 _ _ dv1)
    have dv2' := DR.keep r2 x3 _ _ dv2
    cases d2 with
    | obj n =>
      unfold DR at dv2'
      obtain ⟨a, ea, hn⟩ := dv2'
      cases q : dctAt g3 n with
      | none => simp only [q] at h3; exact h3.elim
      | some l =>
        cases q2 : keyOf d3 with
        | none => simp only [q, q2] at h3; exact h3.elim
        | some k =>
          simp only [q, q2] at h3
          split at h3
          · rename_i c
            obtain ⟨ws, hw, kr⟩ := dctAt_r r3 q hn
            have hm : a ∈ ι3 := List.mem_of_getElem? hn
            refine ⟨a, _, ea, by rw [keyOf_r q2 dv3]; exact .k hw (lim_lt (by rw [kr.length]; exact Nat.le_of_lt c)), ?_⟩
            exact h3 ι3 σ _ (Ex.wrote hm) (r3.wrote hn ⟨_, rfl, (KR.keep r3 (Ex.wrote hm) _ _ kr).put (DR.keep r3 (Ex.wrote hm) _ _ dv1')⟩) (SR.keep r3 (Ex.wrote hm) s3)
          · exact h3.elim
    | _ => exact h3.elim
/-- xs[i] = e of a list of the heap -/
def setItM (mo mk mv : EM) : SM := bindE mv fun v => bindE mo fun o => bindE mk fun k => fun ρ g => match o, k with
  | .obj n, .int i => match lstAt g n with
    | some l => match ixN l.length i with
      | some j => .ok (.nx ρ) (g.set n (.lst (l.set j v)))
      | none => .no
    | none => .no
  | _, _ => .no

/-! ### while -/
def whileM : Nat → TM → SM → SM
  | 0, _, _ => fun _ _ => .no
  | k + 1, c, b => bindT c fun t => match t with
    | false => nxM
    | true => fun ρ g => match b ρ g with
      | .ok (.nx ρ') g' => whileM k c b ρ' g'
      | .ok (.ct ρ') g' => whileM k c b ρ' g'
      | .ok (.bk ρ') g' => .ok (.nx ρ') g'
      | r => r
theorem ms_while {ct : Expr} {body : List Stmt} (k : Nat) (hp : PassesOwn (model X.prog X.w) X.A X.env X.xe) (hc : PT X ct (tT X.K ca W c)) (hb : PSs X body (tS X.K ca W p)) : PS X (.While ct body [] pos) (tS X.K ca W (whileM k c p)) := psOf (ps_while hp hc hb) fun E σ H ⟨β, ι, ρ, g, r, s, h⟩ => by
  refine ⟨fun n σ H => ∃ ι ρ g, Rl X.K β ι g H ∧ SR X.K β ι H ρ σ ∧ PostS X.K β ca W ι H (whileM n c p ρ g) E, ⟨k, ι, ρ, g, r, s, h⟩, ?_⟩
  rintro n σ H ⟨ι, ρ, g, r, s, h⟩
  cases n with
  | zero => exact h.elim
  | succ n =>
    unfold whileM at h
    refine (tT_bindS r s h).mono fun b H1 ⟨ι1, g1, x1, r1, s1, h1⟩ => ?_
    cases b with
    | false => exact iteF (h1 ι1 σ H1 (Ex.refl _ _) r1 s1)
    | true =>
      refine iteT ⟨fun σ' H' => ∃ ι ρ g, Rl X.K β ι g H' ∧ SR X.K β ι H' ρ σ' ∧ PostS X.K β ca W ι H' (whileM n c p ρ g) E, fun σ' H' z => ⟨n, Nat.lt_succ_self n, z⟩, β, ι1, ρ, g1, r1, s1, ?_⟩
      show PostS X.K β ca W ι1 H1 (p ρ g1) _
      cases z : p ρ g1 with
      | ok f g' =>
        simp only [z] at h1
        cases f with
        | nx ρ' => exact fun ι' σ' H' x r' s' => ⟨ι', ρ', g', r', s', PostS.from x h1⟩
        | rt d => exact h1
        | bk ρ' => exact h1
        | ct ρ' => exact fun ι' σ' H' x r' s' => ⟨ι', ρ', g', r', s', PostS.from x h1⟩
      | exc cc fs ρ' g' => simp only [z] at h1; exact h1
      | no => simp only [z] at h1; exact h1

/-! ### for -/
/-- over written-out items -/
def forD (p : Pt) (b : SM) : List D → SM
  | [] => nxM
  | d :: r => fun ρ g => match p.put d ρ with
    | some ρ1 => match b ρ1 g with
      | .ok (.nx ρ') g' => forD p b r ρ' g'
      | .ok (.ct ρ') g' => forD p b r ρ' g'
      | .ok (.bk ρ') g' => .ok (.nx ρ') g'
      | r => r
    | none => .no
/-- over a list of the heap, as it stands at each turn -/
def forO (p : Pt) (b : SM) (n : Nat) : Nat → Nat → SM
  | 0, _ => fun _ _ => .no
  | k + 1, i => fun ρ g => match lstAt g n with
    | some l => match l[i]? with
      | none => .ok (.nx ρ) g
      | some d => match p.put d ρ with
        | some ρ1 => match b ρ1 g with
          | .ok (.nx ρ') g' => forO p b n k (i + 1) ρ' g'
          | .ok (.ct ρ') g' => forO p b n k (i + 1) ρ' g'
          | .ok (.bk ρ') g' => .ok (.nx ρ') g'
          | r => r
        | none => .no
    | none => .no
def forM (p : Pt) (m : EM) (b : SM) : SM := bindE m fun s => match s with
  | .tup l => forD p b l
  | .fl l => forD p b l
  | .fz l => forD p b l
  | .obj n => forO p b n LIM 0
  | _ => fun _ _ => .no
theorem Itt_yld {K : Fg} {a : Addr} {i : Nat} {H H' : Hp} {x : V} {vs : List V} (h : (Itt K a).yld i H x H') (t : SqT K H a vs) : H' = H ∧ vs[i]? = some x := ⟨h.1, h.2 vs t⟩
theorem Itl_yld {K : Fg} {a : Addr} {i : Nat} {H H' : Hp} {x : V} {vs : List V} (h : (Itl K a).yld i H x H') (t : SqL K H a vs) : H' = H ∧ vs[i]? = some x := ⟨h.1, h.2 vs t⟩
/-- one turn of a loop over written-out items -/
theorem forD_turn {K : Fg} {pt : Pt} {l : List D} {d : D} {β ι : List Addr} {ρ : Rho} {g : G} {H : Hp} {σ : Sg} {x : V} {E : Ends} {N : Sg → Hp → Prop} (r : Rl K β ι g H) (s : SR K β ι H ρ σ) (dx : DR K β ι H d x)
    (h : PostS K β ca W ι H (forD pt p (d :: l) ρ g) E)
    (hN : ∀ ι' ρ' g' σ' H', Ex ι H ι' H' → Rl K β ι' g' H' → SR K β ι' H' ρ' σ' → PostS K β ca W ι' H' (forD pt p l ρ' g') E → N σ' H') :
    tG K pt x σ H fun σ2 H2 => tS K ca W p { E with nx := N, ct := N, bk := E.nx } σ2 H2 := by
  unfold forD at h
  cases z : pt.put d ρ with
  | none => simp only [z] at h; exact h.elim
  | some ρ1 =>
    simp only [z] at h
    refine ⟨β, ι, ρ, g, d, ρ1, r, s, dx, z, fun σ2 s2 _ => ⟨β, ι, ρ1, g, r, s2, ?_⟩⟩
    cases q : p ρ1 g with
    | ok f g' =>
      simp only [q] at h
      cases f with
      | nx ρ' => exact fun ι' σ' H' x r' s' => hN ι' ρ' g' σ' H' x r' s' (PostS.from x h)
      | rt d => exact h
      | bk ρ' => exact h
      | ct ρ' => exact fun ι' σ' H' x r' s' => hN ι' ρ' g' σ' H' x r' s' (PostS.from x h)
    | exc cc fs ρ' g' => simp only [q] at h; exact h
    | no => simp only [q] at h; exact h
theorem forO_turn {K : Fg} {pt : Pt} {n k i : Nat} {l : List D} {d : D} {β ι : List Addr} {ρ : Rho} {g : G} {H : Hp} {σ : Sg} {x : V} {E : Ends} {N : Sg → Hp → Prop} (r : Rl K β ι g H) (s : SR K β ι H ρ σ) (dx : DR K β ι H d x)
    (hl : lstAt g n = some l) (hd : l[i]? = some d) (h : PostS K β ca W ι H (forO pt p n (k + 1) i ρ g) E)
    (hN : ∀ ι' ρ' g' σ' H', Ex ι H ι' H' → Rl K β ι' g' H' → SR K β ι' H' ρ' σ' → PostS K β ca W ι' H' (forO pt p n k (i + 1) ρ' g') E → N σ' H') :
    tG K pt x σ H fun σ2 H2 => tS K ca W p { E with nx := N, ct := N, bk := E.nx } σ2 H2 := by
  unfold forO at h
  simp only [hl, hd] at h
  cases z : pt.put d ρ with
  | none => simp only [z] at h; exact h.elim
  | some ρ1 =>
    simp only [z] at h
    refine ⟨β, ι, ρ, g, d, ρ1, r, s, dx, z, fun σ2 s2 _ => ⟨β, ι, ρ1, g, r, s2, ?_⟩⟩
    cases q : p ρ1 g with
    | ok f g' =>
      simp only [q] at h
      cases f with
      | nx ρ' => exact fun ι' σ' H' x r' s' => hN ι' ρ' g' σ' H' x r' s' (PostS.from x h)
      | rt d => exact h
      | bk ρ' => exact h
      | ct ρ' => exact fun ι' σ' H' x r' s' => hN ι' ρ' g' σ' H' x r' s' (PostS.from x h)
    | exc cc fs ρ' g' => simp only [q] at h; exact h
    | no => simp only [q] at h; exact h
theorem drop_cons {α : Type} {l r : List α} {i : Nat} {d : α} (h : l.drop i = d :: r) : l[i]? = some d ∧ l.drop (i + 1) = r := by
  have h1 : (l.drop i)[0]? = some d := by rw [h]; rfl
  rw [List.getElem?_drop, Nat.add_zero] at h1
  refine ⟨h1, ?_⟩
  have : (l.drop i).drop 1 = r := by rw [h]; rfl
  rwa [List.drop_drop] at this
theorem pi_or {tg it : Expr} {w1 w2 : TI} (h1 : PI X tg it w1) (h2 : PI X tg it w2) : PI X tg it (fun σ H R => w1 σ H R ∨ w2 σ H R) := ⟨fun pins s σ H R I h => by
  rcases h with h | h
  · exact h1.run pins s σ H R I h
  · exact h2.run pins s σ H R I h⟩
def forW (wi : TI) (g : TG) (tb : TS) : TS := tFor wi g tb
/-- the loop over written-out items, for each kind of iterator that yields them -/
theorem for_items {K : Fg} {pt : Pt} {l : List D} {J : It} {β ι : List Addr} {ρ : Rho} {g : G} {H1 : Hp} {σ : Sg} {E : Ends} (S : Hp → List Addr → Prop)
    (hS : ∀ ι H ι' H' g, Rl K β ι g H → Ex ι H ι' H' → S H ι → S H' ι')
    (hstop : ∀ i H ι, l.length ≤ i → S H ι → J.stop i H) (hgo : ∀ i H ι d, l[i]? = some d → S H ι → J.go i H)
    (hy : ∀ i H ι g d x H', Rl K β ι g H → l[i]? = some d → S H ι → J.yld i H x H' → H' = H ∧ DR K β ι H d x)
    (r : Rl K β ι g H1) (s : SR K β ι H1 ρ σ) (st : S H1 ι) (h : PostS K β ca W ι H1 (forD pt p l ρ g) E) :
    ∃ Wv : Nat → Nat → Sg → Hp → Prop, (∃ m, Wv 0 m σ H1) ∧ ∀ i m σ H, Wv i m σ H →
      (J.stop i H ∧ E.nx σ H) ∨ (J.go i H ∧ ∃ N : Sg → Hp → Prop, (∀ σ' H', N σ' H' → ∃ m', m' < m ∧ Wv (i + 1) m' σ' H') ∧ ∀ x H', J.yld i H x H' → tG K pt x σ H' fun σ2 H2 => tS K ca W p { E with nx := N, ct := N, bk := E.nx } σ2 H2) := by
  refine ⟨fun i m σ H => m = l.length - i ∧ i ≤ l.length ∧ ∃ ι ρ g, Rl K β ι g H ∧ SR K β ι H ρ σ ∧ S H ι ∧ PostS K β ca W ι H (forD pt p (l.drop i) ρ g) E, ⟨l.length, by simp, Nat.zero_le _, ι, ρ, g, r, s, st, h⟩, ?_⟩
  rintro i m σ H ⟨rfl, hi, ι, ρ, g, r, s, st, h⟩
  cases z : l.drop i with
  | nil =>
    rw [z] at h
    have hl : l.length ≤ i := List.drop_eq_nil_iff.mp z
    exact .inl ⟨hstop i H ι hl st, h ι σ H (Ex.refl _ _) r s⟩
  | cons d rest =>
    rw [z] at h
    obtain ⟨hd, hr⟩ := drop_cons z
    have hlt : i < l.length := (List.getElem?_eq_some_iff.mp hd).1
    refine .inr ⟨hgo i H ι d hd st, fun σ' H' => i + 1 ≤ l.length ∧ ∃ ι ρ g, Rl K β ι g H' ∧ SR K β ι H' ρ σ' ∧ S H' ι ∧ PostS K β ca W ι H' (forD pt p (l.drop (i + 1)) ρ g) E, fun σ' H' ⟨z1, z2⟩ => ⟨l.length - (i + 1), by omega, rfl, z1, z2⟩, fun x H' y => ?_⟩
    obtain ⟨e1, dx⟩ := hy i H ι g d x H' r hd st y
    subst e1
    exact forD_turn r s dx h fun ι' ρ' g' σ' H'' x r' s' q => ⟨hlt, ι', ρ', g', r', s', hS _ _ _ _ _ r x st, by rw [hr]; exact q⟩
theorem ms_for {tg it : Expr} {body : List Stmt} {pt : Pt} (hp : PassesOwn (model X.prog X.w) X.A X.env X.xe) (hc : X.calm = true) (hi : PE X it (tE X.K ca W m)) (hg : PG X tg (tG X.K pt)) (hb : PSs X body (tS X.K ca W p))
    (hs : ∀ x, foldedSetIterable it X.env x = pure x := by intro _; rfl) : PS X (.For tg it body [] pos) (tS X.K ca W (forM pt m p)) := psOf (ps_for hp hc (pi_or (pi_tup hi) (pi_list hi)) hg hb hs) fun E σ H ⟨β, ι, ρ, g, r, s, h⟩ => by
  unfold forM bindE at h
  cases e : m ρ g with
  | no => rw [e] at h; exact h.elim
  | exc cc fs ρ' g' =>
    rw [e] at h
    exact .inl ⟨β, ι, ρ, g, r, s, by rw [e]; exact h⟩
  | ok d g' =>
    rw [e] at h
    cases d with
    | tup l =>
      refine .inl ⟨β, ι, ρ, g, r, s, ?_⟩
      rw [e]
      intro ι1 v H1 x1 r1 dv
      have dv' : DR X.K β ι1 H1 (.tup l) v := dv
      unfold DR at dv'
      obtain ⟨a, vs, ea, t, w⟩ := dv'
      refine ⟨a, ea, ⟨vs, t.sq⟩, for_items (l := l) (fun H ι => TupAt X.K H a vs ∧ DRs X.K β ι H l vs) (fun ι H ι' H' g r x ⟨z1, z2⟩ => ⟨z1.keep r x, z2.keep r x⟩) (fun i H ι hl ⟨z1, z2⟩ => ⟨vs, z1.sq, by rw [z2.length]; exact hl⟩)
        (fun i H ι d hd ⟨z1, z2⟩ => ?_) (fun i H ι g d x H' r hd ⟨z1, z2⟩ y => ?_) r1 (s.keep r x1) ⟨t, w⟩ (PostS.from x1 h)⟩
      · obtain ⟨u, hu, _⟩ := z2.get hd
        exact ⟨vs, u, z1.sq, hu⟩
      · obtain ⟨u, hu, du⟩ := z2.get hd
        obtain ⟨e1, e2⟩ := Itt_yld y z1.sq
        rw [hu] at e2
        cases e2
        exact ⟨e1, du⟩
    | fl l =>
      refine .inr ⟨β, ι, ρ, g, r, s, ?_⟩
      rw [e]
      intro ι1 v H1 x1 r1 dv
      have dv' : DR X.K β ι1 H1 (.fl l) v := dv
      unfold DR at dv'
      obtain ⟨a, vs, ea, t, w⟩ := dv'
      refine ⟨a, ea, ⟨vs, .of t.2.2⟩, for_items (l := l) (fun H ι => FlAt β ι H a vs ∧ DRs X.K β ι H l vs) (fun ι H ι' H' g r x ⟨z1, z2⟩ => ⟨z1.keep x, z2.keep r x⟩) (fun i H ι hl ⟨z1, z2⟩ => ⟨vs, .of z1.2.2, by rw [z2.length]; exact hl⟩)
        (fun i H ι d hd ⟨z1, z2⟩ => ?_) (fun i H ι g d x H' r hd ⟨z1, z2⟩ y => ?_) r1 (s.keep r x1) ⟨t, w⟩ (PostS.from x1 h)⟩
      · obtain ⟨u, hu, _⟩ := z2.get hd
        exact ⟨vs, u, .of z1.2.2, hu⟩
      · obtain ⟨u, hu, du⟩ := z2.get hd
        obtain ⟨e1, e2⟩ := Itl_yld y (.of z1.2.2)
        rw [hu] at e2
        cases e2
        exact ⟨e1, du⟩
    | fz l =>
      refine .inr ⟨β, ι, ρ, g, r, s, ?_⟩
      rw [e]
      intro ι1 v H1 x1 r1 dv
      have dv' : DR X.K β ι1 H1 (.fz l) v := dv
      unfold DR at dv'
      obtain ⟨a, vs, ea, t, w⟩ := dv'
      refine ⟨a, ea, ⟨vs, t.sq⟩, for_items (l := l) (fun H ι => FzAt X.K ι H a vs ∧ DRs X.K β ι H l vs) (fun ι H ι' H' g r x ⟨z1, z2⟩ => ⟨z1.keep x, z2.keep r x⟩) (fun i H ι hl ⟨z1, z2⟩ => ⟨vs, z1.sq, by rw [z2.length]; exact hl⟩)
        (fun i H ι d hd ⟨z1, z2⟩ => ?_) (fun i H ι g d x H' r hd ⟨z1, z2⟩ y => ?_) r1 (s.keep r x1) ⟨t, w⟩ (PostS.from x1 h)⟩
      · obtain ⟨u, hu, _⟩ := z2.get hd
        exact ⟨vs, u, z1.sq, hu⟩
      · obtain ⟨u, hu, du⟩ := z2.get hd
        obtain ⟨e1, e2⟩ := Itl_yld y z1.sq
        rw [hu] at e2
        cases e2
        exact ⟨e1, du⟩
    | obj n =>
      have h : PostS X.K β ca W ι H (forO pt p n LIM 0 ρ g') E := h
      -- the list is there already at the first turn
      have hl0 : ∃ l, lstAt g' n = some l := by
        have hk : LIM = 999999 + 1 := rfl
        rw [hk] at h
        unfold forO at h
        cases q : lstAt g' n with
        | none => simp only [q] at h; exact h.elim
        | some l => exact ⟨l, rfl⟩
      obtain ⟨l0, hl0⟩ := hl0
      refine .inr ⟨β, ι, ρ, g, r, s, ?_⟩
      rw [e]
      intro ι1 v H1 x1 r1 dv
      have dv' : DR X.K β ι1 H1 (.obj n) v := dv
      unfold DR at dv'
      obtain ⟨a, ea, hn⟩ := dv'
      obtain ⟨vs0, hv0, _⟩ := lstAt_r r1 hl0 hn
      refine ⟨a, ea, ⟨vs0, .of hv0⟩, fun i m σ H => ∃ ι ρ g, Rl X.K β ι g H ∧ SR X.K β ι H ρ σ ∧ ι[n]? = some a ∧ PostS X.K β ca W ι H (forO pt p n m i ρ g) E, ⟨LIM, ι1, ρ, g', r1, s.keep r x1, hn, PostS.from x1 h⟩, ?_⟩
      rintro i m σ H ⟨ι, ρ, g, r, s, hn, h⟩
      cases m with
      | zero => exact h.elim
      | succ k =>
        cases q : lstAt g n with
        | none => unfold forO at h; simp only [q] at h; exact h.elim
        | some l =>
          obtain ⟨vs, hv, dvs⟩ := lstAt_r r q hn
          cases q2 : l[i]? with
          | none =>
            unfold forO at h
            simp only [q, q2] at h
            refine .inl ⟨⟨vs, .of hv, ?_⟩, h ι σ H (Ex.refl _ _) r s⟩
            rw [dvs.length]
            exact List.getElem?_eq_none_iff.mp q2
          | some d =>
            obtain ⟨u, hu, du⟩ := dvs.get q2
            refine .inr ⟨⟨vs, u, .of hv, hu⟩, fun σ' H' => ∃ ι ρ g, Rl X.K β ι g H' ∧ SR X.K β ι H' ρ σ' ∧ ι[n]? = some a ∧ PostS X.K β ca W ι H' (forO pt p n k (i + 1) ρ g) E, fun σ' H' z => ⟨k, Nat.lt_succ_self k, z⟩, fun x H' y => ?_⟩
            obtain ⟨e1, e2⟩ := Itl_yld y (.of hv)
            subst e1
            rw [hu] at e2
            cases e2
            exact forO_turn r s du q q2 h fun ι' ρ' g' σ' H'' x r' s' z => ⟨ι', ρ', g', r', s', x.ix hn, z⟩
    | _ => exact h.elim

/-! ### for k in range(..) -/
def rngL (lo hi : Int) : List D := (List.range (hi - lo).toNat).map fun (i : Nat) => .int (lo + (i : Int))
/-- how far a range goes -/
def rOk (i : Int) : Bool := decide (-(2 ^ 62) ≤ i) && decide (i < 2 ^ 62)
def rngA1 : List D → Option (List D)
  | [.int j] => if rOk j = true then some (rngL 0 j) else none
  | _ => none
def rngA2 : List D → Option (List D)
  | [.int i, .int j] => if (rOk i && rOk j) = true then some (rngL i j) else none
  | _ => none
theorem rngA1_inv {ds l : List D} (h : rngA1 ds = some l) : ∃ j, ds = [.int j] ∧ rOk j = true ∧ l = rngL 0 j := by
  unfold rngA1 at h
  split at h
  · split at h
    · rename_i c
      cases h
      exact ⟨_, rfl, c, rfl⟩
    · cases h
  · cases h
theorem rngA2_inv {ds l : List D} (h : rngA2 ds = some l) : ∃ i j, ds = [.int i, .int j] ∧ rOk i = true ∧ rOk j = true ∧ l = rngL i j := by
  unfold rngA2 at h
  split at h
  · split at h
    · rename_i c
      cases h
      rw [Bool.and_eq_true] at c
      exact ⟨_, _, rfl, c.1, c.2, rfl⟩
    · cases h
  · cases h
def forR (f : List D → Option (List D)) (p : Pt) (n : AM) (b : SM) : SM := bindA n fun ds => match f ds with
  | some l => forD p b l
  | none => fun _ _ => .no
theorem rngL_get {lo hi : Int} {i : Nat} {d : D} (h : (rngL lo hi)[i]? = some d) : i < (hi - lo).toNat ∧ d = .int (lo + (i : Int)) := by
  unfold rngL at h
  rw [List.getElem?_map] at h
  cases e : (List.range (hi - lo).toNat)[i]? with
  | none => rw [e] at h; cases h
  | some j =>
    rw [e] at h
    obtain ⟨h1, h2⟩ := List.getElem?_eq_some_iff.mp e
    rw [List.getElem_range] at h2
    subst h2
    exact ⟨by simpa using h1, by cases h; rfl⟩
theorem for_range_r {K : Fg} {pt : Pt} {lo hi : Int} {β ι : List Addr} {ρ : Rho} {g : G} {H1 : Hp} {σ : Sg} {E : Ends} (r : Rl K β ι g H1) (s : SR K β ι H1 ρ σ) (h : PostS K β ca W ι H1 (forD pt p (rngL lo hi) ρ g) E) :
    ∃ Wv : Nat → Nat → Sg → Hp → Prop, (∃ m, Wv 0 m σ H1) ∧ ∀ i m σ H, Wv i m σ H →
      ((Itr lo (hi - lo).toNat).stop i H ∧ E.nx σ H) ∨ ((Itr lo (hi - lo).toNat).go i H ∧ ∃ N : Sg → Hp → Prop, (∀ σ' H', N σ' H' → ∃ m', m' < m ∧ Wv (i + 1) m' σ' H') ∧ ∀ x H', (Itr lo (hi - lo).toNat).yld i H x H' → tG K pt x σ H' fun σ2 H2 => tS K ca W p { E with nx := N, ct := N, bk := E.nx } σ2 H2) :=
  for_items (l := rngL lo hi) (fun _ _ => True) (fun _ _ _ _ _ _ _ _ => trivial) (fun i H ι hl _ => by
      show (hi - lo).toNat ≤ i
      unfold rngL at hl
      rw [List.length_map, List.length_range] at hl
      exact hl)
    (fun i H ι d hd _ => (rngL_get hd).1) (fun i H ι g d x H' r hd _ y => by
      obtain ⟨e1, e2⟩ := y
      refine ⟨e1, ?_⟩
      rw [(rngL_get hd).2, e2]
      unfold DR
      rfl) r s trivial h
theorem rOk_r {i : Int} (h : rOk i = true) : -(2 ^ 62) ≤ i ∧ i < 2 ^ 62 := by
  unfold rOk at h
  rw [Bool.and_eq_true] at h
  exact ⟨of_decide_eq_true h.1, of_decide_eq_true h.2⟩
theorem ms_for1 {tg : Expr} {p1 p2 : Pos} {body : List Stmt} {pt : Pt} (hp : PassesOwn (model X.prog X.w) X.A X.env X.xe) (hc : X.calm = true) (hgl : Gl X "range") (hm : X.mg "range" = none) (ha : PA X [a] (tA X.K ca W na)) (hg : PG X tg (tG X.K pt)) (hb : PSs X body (tS X.K ca W p))
    (hsa : starEach [a] X.env = [(false, eval a X.env)] := by rfl) (hs : ∀ x, foldedSetIterable (.Call (.Name "range" p1) [a] [] p2) X.env x = pure x := by intro _; rfl) :
    PS X (.For tg (.Call (.Name "range" p1) [a] [] p2) body [] pos) (tS X.K ca W (forR rngA1 pt na p)) := psOf (ps_for hp hc (pi_range1 hgl hm ha hsa) hg hb hs) fun E σ H ⟨β, ι, ρ, g, r, s, h⟩ =>
  (tA_bindS r s h).mono fun vs H1 ⟨ι1, ds, g1, x1, r1, s1, dvs, h1⟩ => by
    cases q : rngA1 ds with
    | none => rw [q] at h1; exact h1.elim
    | some l =>
      rw [q] at h1
      obtain ⟨j, e1, c, e2⟩ := rngA1_inv q
      subst e1 e2
      obtain ⟨v, ev, dv⟩ := dvs.one
      unfold DR at dv
      subst dv
      have z := for_range_r r1 s1 h1
      rw [Int.sub_zero] at z
      exact ⟨j, ev, (rOk_r c).1, (rOk_r c).2, z⟩
theorem ms_for2 {tg : Expr} {p1 p2 : Pos} {body : List Stmt} {pt : Pt} (hp : PassesOwn (model X.prog X.w) X.A X.env X.xe) (hc : X.calm = true) (hgl : Gl X "range") (hm : X.mg "range" = none) (ha : PA X [a, b] (tA X.K ca W na)) (hg : PG X tg (tG X.K pt)) (hb : PSs X body (tS X.K ca W p))
    (hsa : starEach [a, b] X.env = [(false, eval a X.env), (false, eval b X.env)] := by rfl) (hsb : starEach [b] X.env = [(false, eval b X.env)] := by rfl) (hs : ∀ x, foldedSetIterable (.Call (.Name "range" p1) [a, b] [] p2) X.env x = pure x := by intro _; rfl) :
    PS X (.For tg (.Call (.Name "range" p1) [a, b] [] p2) body [] pos) (tS X.K ca W (forR rngA2 pt na p)) := psOf (ps_for hp hc (pi_range2 hgl hm ha hsa hsb) hg hb hs) fun E σ H ⟨β, ι, ρ, g, r, s, h⟩ =>
  (tA_bindS r s h).mono fun vs H1 ⟨ι1, ds, g1, x1, r1, s1, dvs, h1⟩ => by
    cases q : rngA2 ds with
    | none => rw [q] at h1; exact h1.elim
    | some l =>
      rw [q] at h1
      obtain ⟨i, j, e1, c1, c2, e2⟩ := rngA2_inv q
      subst e1 e2
      obtain ⟨v, u, ev, dv, du⟩ := dvs.two
      unfold DR at dv du
      subst dv du
      exact ⟨i, j, ev, ⟨(rOk_r c1).1, (rOk_r c1).2, (rOk_r c2).1, (rOk_r c2).2⟩, for_range_r r1 s1 h1⟩
end
end Mn

set_option Elab.async false
set_option linter.all false
set_option maxRecDepth 100000
set_option maxHeartbeats 4000000
/-! Comprehensions. -/
namespace Mn
open PySem PySem.Spec PyProof.Rows L2

/-! ### the relation moved to other lists of addresses -/
structure Chg (K : Fg) (β ι : List Addr) (H : Hp) (β' ι' : List Addr) (H' : Hp) : Prop where
  tp : ∀ a vs, TupAt K H a vs → TupAt K H' a vs
  fl : ∀ a vs, FlAt β ι H a vs → FlAt β' ι' H' a vs
  fz : ∀ a vs, FzAt K ι H a vs → FzAt K ι' H' a vs
  ob : ∀ (n : Nat) (a : Addr), ι[n]? = some a → ι'[n]? = some a
section
variable {K : Fg} {β ι β' ι' : List Addr} {g : G} {H H' : Hp}
mutual
theorem DR.chg (c : Chg K β ι H β' ι' H') : ∀ (d : D) (v : V), DR K β ι H d v → DR K β' ι' H' d v
  | .non, _, h => by unfold DR at *; exact h
  | .bl _, _, h => by unfold DR at *; exact h
  | .int _, _, h => by unfold DR at *; exact h
  | .str _, _, h => by unfold DR at *; exact h
  | .tup l, v, h => by
    unfold DR at *
    obtain ⟨a, vs, e, t, q⟩ := h
    exact ⟨a, vs, e, c.tp _ _ t, DRs.chg c l vs q⟩
  | .fl l, v, h => by
    unfold DR at *
    obtain ⟨a, vs, e, t, q⟩ := h
    exact ⟨a, vs, e, c.fl _ _ t, DRs.chg c l vs q⟩
  | .fz l, v, h => by
    unfold DR at *
    obtain ⟨a, vs, e, t, q⟩ := h
    exact ⟨a, vs, e, c.fz _ _ t, DRs.chg c l vs q⟩
  | .obj n, v, h => by
    unfold DR at *
    obtain ⟨a, e, q⟩ := h
    exact ⟨a, e, c.ob _ _ q⟩
theorem DRs.chg (c : Chg K β ι H β' ι' H') : ∀ (ds : List D) (vs : List V), DRs K β ι H ds vs → DRs K β' ι' H' ds vs
  | [], _, h => by unfold DRs at *; exact h
  | d :: ds, vs, h => by
    unfold DRs at *
    obtain ⟨v, ws, e, q1, q2⟩ := h
    exact ⟨v, ws, e, DR.chg c d v q1, DRs.chg c ds ws q2⟩
end
theorem KR.chg (c : Chg K β ι H β' ι' H') : ∀ (l : List (Key × D)) (ws : List (Key × V)), KR K β ι H l ws → KR K β' ι' H' l ws
  | [], _, h => by unfold KR at *; exact h
  | p :: l, ws, h => by
    unfold KR at *
    obtain ⟨v, us, e, q1, q2⟩ := h
    exact ⟨v, us, e, DR.chg c _ v q1, KR.chg c l us q2⟩
theorem FR.chg (c : Chg K β ι H β' ι' H') : ∀ (l : List (Str × D)) (ws : List (Str × V)), FR K β ι H l ws → FR K β' ι' H' l ws
  | [], _, h => by unfold FR at *; exact h
  | p :: l, ws, h => by
    unfold FR at *
    obtain ⟨v, us, e, q1, q2⟩ := h
    exact ⟨v, us, e, DR.chg c _ v q1, FR.chg c l us q2⟩
theorem OR.chg (c : Chg K β ι H β' ι' H') {o : O} {ho : HO} (h : OR K β ι H o ho) : OR K β' ι' H' o ho := by
  cases o with
  | lst l => obtain ⟨vs, e, q⟩ := h; exact ⟨vs, e, DRs.chg c l vs q⟩
  | dct l => obtain ⟨ws, e, q⟩ := h; exact ⟨ws, e, KR.chg c l ws q⟩
theorem SR.chg (c : Chg K β ι H β' ι' H') {ρ : Rho} {σ : Sg} (h : SR K β ι H ρ σ) : SR K β' ι' H' ρ σ :=
  ⟨h.1, fun i d e => by
    obtain ⟨v, e', q⟩ := h.2 i d e
    exact ⟨v, e', DR.chg c d v q⟩⟩
/-- a new list is reserved at p -/
theorem Chg.book {p : Addr} {vs : List V} (hp : H p = none) : Chg K β ι H (p :: β) ι (upd H p (.lst vs)) where
  tp := fun a ws h => h.elim (fun h => .inl (by rw [upd_ne (ne_of_none h hp)]; exact h)) .inr
  fl := fun a ws ⟨h1, h2, h3⟩ => ⟨h1, by
    intro z
    rcases List.mem_cons.mp z with e | e
    · exact ne_of_none h3 hp e
    · exact h2 e, by rw [upd_ne (ne_of_none h3 hp)]; exact h3⟩
  fz := fun a ws h => h.elim (fun ⟨h1, o, h2⟩ => .inl ⟨h1, o, by rw [upd_ne (ne_of_none h2 hp)]; exact h2⟩) .inr
  ob := fun _ _ h => h
/-- the reserved list is written -/
theorem Chg.pen {p : Addr} {us vs : List V} (hp : H p = some (.lst us)) : Chg K (p :: β) ι H (p :: β) ι (upd H p (.lst vs)) where
  tp := fun a ws h => h.elim (fun h => .inl (by rw [upd_ne (ne_of h hp (by intro z; cases z))]; exact h)) .inr
  fl := fun a ws ⟨h1, h2, h3⟩ => ⟨h1, h2, by rw [upd_ne (by rintro rfl; exact h2 List.mem_cons_self)]; exact h3⟩
  fz := fun a ws h => h.elim (fun ⟨h1, o, h2⟩ => .inl ⟨h1, o, by rw [upd_ne (ne_of h2 hp (by intro z; cases z))]; exact h2⟩) .inr
  ob := fun _ _ h => h
/-- the reserved list is let go -/
theorem Chg.free {p : Addr} : Chg K (p :: β) ι H β ι H where
  tp := fun _ _ h => h
  fl := fun a ws ⟨h1, h2, h3⟩ => ⟨h1, fun z => h2 (List.mem_cons_of_mem _ z), h3⟩
  fz := fun _ _ h => h
  ob := fun _ _ h => h
/-- .. becomes an object of the small heap -/
theorem Chg.adopt {p : Addr} {us : List V} (hp : H p = some (.lst us)) : Chg K (p :: β) ι H β (ι ++ [p]) H where
  tp := fun _ _ h => h
  fl := fun a ws ⟨h1, h2, h3⟩ => ⟨by
    intro z
    rcases List.mem_append.mp z with e | e
    · exact h1 e
    · exact h2 (by rw [show a = p by simpa using e]; exact List.mem_cons_self), fun z => h2 (List.mem_cons_of_mem _ z), h3⟩
  fz := fun a ws h => h.elim (fun ⟨h1, o, h2⟩ => .inl ⟨by
    intro z
    rcases List.mem_append.mp z with e | e
    · exact h1 e
    · exact ne_of h2 hp (by intro z; cases z) (by simpa using e), o, h2⟩) .inr
  ob := fun n a h => by rw [List.getElem?_append_left (List.getElem?_eq_some_iff.mp h).1]; exact h
theorem Rl.chg (r : Rl K β ι g H) (c : Chg K β ι H β' ι H') (hk : ∀ a ∈ ι, H' a = H a) (hb : ∀ b ∈ β', b ∉ ι ∧ H' b ≠ none) : Rl K β' ι g H' :=
  ⟨r.len, r.nd, fun n a o h1 h2 => by
    obtain ⟨ho, e, q⟩ := r.at_ n a o h1 h2
    exact ⟨ho, by rw [hk a (List.mem_of_getElem? h1)]; exact e, q.chg c⟩, hb⟩
theorem Rl.book (r : Rl K β ι g H) {p : Addr} {vs : List V} (hp : H p = none) : Rl K (p :: β) ι g (upd H p (.lst vs)) :=
  r.chg (Chg.book hp) (fun a ha => upd_ne (fun e => (r.free hp).1 (e ▸ ha))) fun b hb => by
    rcases List.mem_cons.mp hb with e | e
    · subst e; exact ⟨(r.free hp).1, by rw [upd_same]; simp⟩
    · exact ⟨(r.bt b e).1, by rw [upd_ne (by rintro rfl; exact (r.bt _ e).2 hp)]; exact (r.bt b e).2⟩
theorem Rl.pen (r : Rl K (p :: β) ι g H) {us vs : List V} (hp : H p = some (.lst us)) : Rl K (p :: β) ι g (upd H p (.lst vs)) :=
  r.chg (Chg.pen hp) (fun a ha => upd_ne (fun e => (r.bt p List.mem_cons_self).1 (e ▸ ha))) fun b hb => ⟨(r.bt b hb).1, by
    by_cases e : b = p
    · rw [e, upd_same]; simp
    · rw [upd_ne e]; exact (r.bt b hb).2⟩
theorem Rl.let_go {p : Addr} (r : Rl K (p :: β) ι g H) : Rl K β ι g H := r.chg Chg.free (fun _ _ => rfl) fun b hb => r.bt b (List.mem_cons_of_mem _ hb)
theorem Rl.adopt {p : Addr} (r : Rl K (p :: β) ι g H) (hpb : p ∉ β) {us : List V} {l : List D} (hp : H p = some (.lst us)) (h : DRs K (p :: β) ι H l us) : Rl K β (ι ++ [p]) (g ++ [.lst l]) H := by
  have hpi := (r.bt p List.mem_cons_self).1
  refine ⟨by simp [r.len], ?_, fun n a o h1 h2 => ?_, fun b hb => ⟨fun hm => ?_, (r.bt b (List.mem_cons_of_mem _ hb)).2⟩⟩
  · rw [List.nodup_append]
    refine ⟨r.nd, by simp, fun a ha b hb => ?_⟩
    have : b = p := by simpa using hb
    subst this
    intro e; subst e; exact hpi ha
  · by_cases hn : n < ι.length
    · rw [List.getElem?_append_left hn] at h1
      rw [List.getElem?_append_left (by rw [← r.len]; exact hn)] at h2
      obtain ⟨ho, e, q⟩ := r.at_ n a o h1 h2
      exact ⟨ho, e, q.chg (Chg.adopt hp)⟩
    · rw [List.getElem?_append_right (by omega)] at h1
      rw [List.getElem?_append_right (by rw [← r.len]; omega)] at h2
      have e0 : n - ι.length = 0 := by
        have h3 := (List.getElem?_eq_some_iff.mp h1).1
        simp only [List.length_cons, List.length_nil] at h3
        omega
      rw [e0] at h1
      rw [← r.len, e0] at h2
      simp at h1 h2
      subst h1; subst h2
      exact ⟨_, hp, us, rfl, DRs.chg (Chg.adopt hp) _ _ h⟩
  · rcases List.mem_append.mp hm with z | z
    · exact (r.bt b (List.mem_cons_of_mem _ hb)).1 z
    · exact hpb (by rw [← show b = p by simpa using z]; exact hb)
end

/-! ### slots wiped -/
def wipeD (ρ : Rho) : List Nat → Rho
  | [] => ρ
  | v :: vs => (wipeD ρ vs).set v none
theorem SR.none {K : Fg} {β ι : List Addr} {H : Hp} {ρ : Rho} {σ : Sg} (h : SR K β ι H ρ σ) (i : Nat) : SR K β ι H (ρ.set i none) (σ.set i none) := by
  refine ⟨by simp [h.1], fun j e hj => ?_⟩
  by_cases hij : i = j
  · subst hij
    by_cases hl : i < ρ.length
    · rw [List.getElem?_set_self hl] at hj; cases hj
    · rw [List.getElem?_eq_none (by simpa using hl)] at hj; cases hj
  · rw [List.getElem?_set_ne hij] at hj ⊢
    exact h.2 j e hj
theorem SR.wipe {K : Fg} {β ι : List Addr} {H : Hp} {ρ : Rho} {σ : Sg} (h : SR K β ι H ρ σ) : ∀ vs : List Nat, SR K β ι H (wipeD ρ vs) (wipe σ vs)
  | [] => h
  | v :: vs => (SR.wipe h vs).none v
theorem wipe_get (σ : Sg) (j : Nat) : ∀ vs : List Nat, (wipe σ vs)[j]? = if j ∈ vs then (if j < σ.length then some none else none) else σ[j]?
  | [] => by simp [wipe]
  | v :: vs => by
    unfold wipe
    by_cases e : v = j
    · subst e
      by_cases hl : v < σ.length
      · rw [List.getElem?_set_self (by rw [wipe_length]; exact hl)]; simp [hl]
      · rw [List.getElem?_eq_none (by rw [List.length_set, wipe_length]; omega)]; simp [hl]
    · rw [List.getElem?_set_ne e, wipe_get σ j vs]
      have : (j ∈ v :: vs) ↔ (j ∈ vs) := by
        rw [List.mem_cons]
        exact ⟨fun h => h.elim (fun z => absurd z.symm e) id, .inr⟩
      simp only [this]
theorem wipe_oth {σ σ2 : Sg} {l vs : List Nat} (o : Oth l (wipe σ vs) σ2) (h : ∀ j ∈ l, j ∈ vs) : wipe σ2 vs = wipe σ vs := by
  apply List.ext_getElem?
  intro j
  have hl : σ2.length = σ.length := by rw [o.1, wipe_length]
  rw [wipe_get, wipe_get, hl]
  by_cases c : j ∈ vs
  · rw [if_pos c, if_pos c]
  · rw [if_neg c, if_neg c]
    rw [o.2 j (fun z => c (h j z)), wipe_get, if_neg c]

/-! ### the comprehension's turns -/
/-- what comes at turn i: nothing known; the end; an item -/
abbrev NxF := Nat → G → Option (Option D)
def lcN (nx : NxF) (pt : Pt) (c : TM) (e : EM) (vs : List Nat) : Nat → Nat → Rho → G → Res (List D)
  | 0, _, _, _ => .no
  | k + 1, i, ρ, g => match nx i g with
    | none => .no
    | some none => .ok [] g
    | some (some d) => match pt.put d (wipeD ρ vs) with
      | none => .no
      | some ρ1 => match c ρ1 g with
        | .ok true g1 => match e ρ1 g1 with
          | .ok x g2 => match lcN nx pt c e vs k (i + 1) ρ g2 with
            | .ok xs g3 => .ok (x :: xs) g3
            | _ => .no
          | _ => .no
        | .ok false g1 => lcN nx pt c e vs k (i + 1) ρ g1
        | _ => .no
def finL (own : Bool) : Res (List D) → Res D
  | .ok xs g => if xs.length ≤ LIM then fin own (some (.n xs)) g else .no
  | _ => .no
def srcNx : D → Option NxF
  | .tup l => some fun i _ => some l[i]?
  | .fl l => some fun i _ => some l[i]?
  | .fz l => some fun i _ => some l[i]?
  | .obj n => some fun i g => (lstAt g n).map (·[i]?)
  | _ => none
def LK : Nat := 1000001
def lcM (own : Bool) (src : EM) (pt : Pt) (c : TM) (e : EM) (vs : List Nat) : EM := bindE src fun s => fun ρ g => match srcNx s with
  | some nx => finL own (lcN nx pt c e vs LK 0 ρ g)
  | none => .no
def lcR (f : List D → Option (List D)) (own : Bool) (src : AM) (pt : Pt) (c : TM) (e : EM) (vs : List Nat) : EM := bindA src fun ds => fun ρ g => match f ds with
  | some l => finL own (lcN (fun i _ => some l[i]?) pt c e vs LK 0 ρ g)
  | none => .no
def yesT : TM := fun _ g => .ok true g
abbrev W0 : WX := fun _ _ _ _ => False
section
variable {X : Cx} {ca : Str → Addr} {W : WX} {p : Addr}
theorem lc_turns {K : Fg} {pt : Pt} {c : TM} {e : EM} {vs : List Nat} {nx : NxF} {J : It} {β ι1 : List Addr} {ρ : Rho} {g1 : G} {H1 : Hp} {σ : Sg} {own : Bool} {Q : VK} (S : Hp → List Addr → Prop)
    (hpt : ∀ j ∈ pt.slots, j ∈ vs)
    (hS : ∀ ι H ι' H' g, Rl K (p :: β) ι g H → Ex ι H ι' H' → S H ι → S H' ι') (hS2 : ∀ ι H us ws, H p = some (.lst us) → S H ι → S (upd H p (.lst ws)) ι)
    (hstop : ∀ i H ι g, Rl K (p :: β) ι g H → nx i g = some none → S H ι → J.stop i H) (hgo : ∀ i H ι g d, Rl K (p :: β) ι g H → nx i g = some (some d) → S H ι → J.go i H)
    (hy : ∀ i H ι g d x H', Rl K (p :: β) ι g H → nx i g = some (some d) → S H ι → J.yld i H x H' → H' = H ∧ DR K (p :: β) ι H d x)
    (hp : H1 p = none) (hpb : p ∉ β) (r : Rl K β ι1 g1 H1) (s : SR K β ι1 H1 ρ σ) (st : S (upd H1 p (.lst [])) ι1)
    (h : PostD K β ca W ι1 H1 (finL own (lcN nx pt c e vs LK 0 ρ g1)) Q) :
    ∃ Wv : Nat → Nat → Hp → Prop, (∃ m, Wv 0 m (upd H1 p (.lst []))) ∧ ∀ i m H, Wv i m H →
      (J.stop i H ∧ Q (.ref p) H) ∨ (J.go i H ∧ ∃ Nx : Hp → Prop, (∀ H', Nx H' → ∃ m', m' < m ∧ Wv (i + 1) m' H') ∧ ∀ x H', J.yld i H x H' → tG K pt x (wipe σ vs) H' fun σ2 H2 => wipe σ2 vs = wipe σ vs ∧
        tT K ca W0 c σ2 H2 fun b H3 => if b = true then tE K ca W0 e σ2 H3 fun y H4 => ∃ acc, H4 p = some (.lst acc) ∧ acc.length < sizeLine ∧ Nx (upd H4 p (.lst (acc ++ [y]))) else Nx H3) := by
  -- at turn i: the items so far, what is still to come
  let Inv : Nat → Nat → Hp → Prop := fun i m H => ∃ ι g acc us xs g', Ex ι1 H1 ι H ∧ Rl K (p :: β) ι g H ∧ SR K (p :: β) ι H ρ σ ∧ S H ι ∧ H p = some (.lst us) ∧ DRs K (p :: β) ι H acc us ∧
    lcN nx pt c e vs m i ρ g = .ok xs g' ∧ (acc ++ xs).length ≤ LIM ∧ PostD K β ca W ι1 H1 (fin own (some (.n (acc ++ xs))) g') Q
  refine ⟨Inv, ⟨LK, ?_⟩, ?_⟩
  · cases z : lcN nx pt c e vs LK 0 ρ g1 with
    | ok xs g' =>
      rw [z] at h
      unfold finL at h
      simp only at h
      split at h
      · rename_i hl
        exact ⟨ι1, g1, [], [], xs, g', Ex.laid hp, r.book hp, s.chg (Chg.book hp), st, upd_same, DRs.nil', z, hl, h⟩
      · exact h.elim
    | exc cc fs ρ' g' => rw [z] at h; exact h.elim
    | no => rw [z] at h; exact h.elim
  rintro i m H ⟨ι, g, acc, us, xs, g', x1, r, s, st, hu, da, hl, hlen, hQ⟩
  cases m with
  | zero => unfold lcN at hl; cases hl
  | succ k =>
    unfold lcN at hl
    cases q : nx i g with
    | none => simp only [q] at hl; cases hl
    | some o =>
      cases o with
      | none =>
        simp only [q] at hl
        cases hl
        refine .inl ⟨hstop i H ι g r q st, ?_⟩
        rw [List.append_nil] at hQ
        have hpi := (r.bt p List.mem_cons_self).1
        cases own with
        | false =>
          refine hQ ι _ H x1 r.let_go ?_
          show DR K β ι H (.fl acc) _
          unfold DR
          exact ⟨p, us, rfl, ⟨hpi, hpb, hu⟩, DRs.chg Chg.free _ _ da⟩
        | true =>
          refine hQ (ι ++ [p]) _ H ⟨?_, x1.fr, x1.dom⟩ (r.adopt hpb hu da) ?_
          · obtain ⟨nw, e1, e2⟩ := x1.pre
            refine ⟨nw ++ [p], by rw [e1, List.append_assoc], fun a ha => ?_⟩
            rcases List.mem_append.mp ha with z | z
            · exact e2 a z
            · rw [show a = p by simpa using z]; exact hp
          · show DR K β _ H (.obj g.length) _
            unfold DR
            exact ⟨p, rfl, by rw [← r.len]; simp⟩
      | some d =>
        simp only [q] at hl
        cases q2 : pt.put d (wipeD ρ vs) with
        | none => simp only [q2] at hl; cases hl
        | some ρ1 =>
          simp only [q2] at hl
          refine .inr ⟨hgo i H ι g d r q st, fun H' => Inv (i + 1) k H', fun H' z => ⟨k, Nat.lt_succ_self k, z⟩, fun x H' y => ?_⟩
          obtain ⟨e1, dx⟩ := hy i H ι g d x H' r q st y
          subst e1
          refine ⟨p :: β, ι, wipeD ρ vs, g, d, ρ1, r, s.wipe vs, dx, q2, fun σ2 s2 o2 => ⟨wipe_oth o2 hpt, p :: β, ι, ρ1, g, r, s2, ?_⟩⟩
          cases q3 : c ρ1 g with
          | exc cc fs ρ' g' => simp only [q3] at hl; cases hl
          | no => simp only [q3] at hl; cases hl
          | ok b ga =>
            intro ιa va Ha xa ra ba
            cases (show b = va from ba)
            have sa := s.keep r xa
            have sta := hS _ _ _ _ _ r xa st
            have hua := xa.fr p _ hu (r.bt p List.mem_cons_self).1
            have daa := DRs.keep r xa _ _ da
            have xxa := x1.trans xa
            cases b with
            | false =>
              simp only [q3] at hl
              exact iteF ⟨ιa, ga, acc, us, xs, g', xxa, ra, sa, sta, hua, daa, hl, hlen, hQ⟩
            | true =>
              simp only [q3] at hl
              refine iteT ⟨p :: β, ιa, ρ1, ga, ra, s2.keep r xa, ?_⟩
              cases q4 : e ρ1 ga with
              | exc cc fs ρ' g' => simp only [q4] at hl; cases hl
              | no => simp only [q4] at hl; cases hl
              | ok w gb =>
                simp only [q4] at hl
                intro ιb vb Hb xb rb db
                cases q5 : lcN nx pt c e vs k (i + 1) ρ gb with
                | exc cc fs ρ' g' => simp only [q5] at hl; cases hl
                | no => simp only [q5] at hl; cases hl
                | ok ys gc =>
                  simp only [q5] at hl
                  cases hl
                  have hub := xb.fr p _ hua (ra.bt p List.mem_cons_self).1
                  have dab := DRs.keep ra xb _ _ daa
                  have hl2 : acc.length < LIM := by
                    rw [List.length_append, List.length_cons] at hlen
                    omega
                  refine ⟨us, hub, lim_lt (by rw [dab.length]; exact Nat.le_of_lt hl2), ιb, gb, acc ++ [w], us ++ [vb], ys, g', ?_, rb.pen hub, (sa.keep ra xb).chg (Chg.pen hub), hS2 _ _ _ _ hub (hS _ _ _ _ _ ra xb sta), upd_same,
                    DRs.chg (Chg.pen hub) _ _ (dab.append (DRs.cons' db DRs.nil')), q5, by rw [List.append_assoc]; exact hlen, by rw [List.append_assoc]; exact hQ⟩
                  have xx := xxa.trans xb
                  refine ⟨xx.pre, fun a o h1 h2 => ?_, fun a h1 => ?_⟩
                  · rw [upd_ne (ne_of_none h1 hp)]
                    exact xx.fr a o h1 h2
                  · by_cases z : a = p
                    · rw [z, upd_same]; simp
                    · rw [upd_ne z]; exact xx.dom a h1
end
end Mn

set_option Elab.async false
set_option linter.all false
set_option maxRecDepth 100000
set_option maxHeartbeats 4000000
/-! Comprehensions as expressions; slices; isinstance; sorted; repr. -/
namespace Mn
open PySem PySem.Spec PyProof.Rows L2
section
variable {X : Cx} {ca : Str → Addr} {W : WX} {a b elt tg it : Expr} {ifs : List Expr} {scope : Scope} {own : List (Str × Nat)} {pos : Pos} {src : EM} {na : AM} {pt : Pt} {c : TM} {e : EM} {o : Bool}
theorem ptsOf {l : List Expr} {t t' : TT} (p : PTs X l t) (h : ∀ σ H Q, t' σ H Q → t σ H Q) : PTs X l t' := ⟨fun pins s σ H Q I q => p.run pins s σ H Q I (h σ H Q q)⟩
theorem mts_nil : PTs X [] (tT X.K ca W yesT) := ptsOf pts_nil fun σ H Q ⟨β, ι, ρ, g, r, s, h⟩ => h ι _ H (Ex.refl _ _) r rfl
theorem mts_one {t : Expr} (h : PT X t (tT X.K ca W c)) : PTs X [t] (tT X.K ca W c) := pts_one h
/-- the reading of a comprehension over items that come -/
theorem lc_src {vs : List Nat} (hpt : ∀ j ∈ pt.slots, j ∈ vs) {σ : Sg} {H : Hp} {Q : VK} (h : tE X.K ca W (lcM o src pt c e vs) σ H Q) :
    tLc (fun σ H R => iTup X.K (tE X.K ca W src) σ H R ∨ iList X.K (tE X.K ca W src) σ H R) (tG X.K pt) (tT X.K ca W0 c) (tE X.K ca W0 e) vs σ H Q := by
  obtain ⟨β, ι, ρ, g, r, s, h⟩ := h
  unfold lcM bindE at h
  cases q : src ρ g with
  | no => rw [q] at h; exact h.elim
  | exc cc fs ρ' g' =>
    rw [q] at h
    exact .inl ⟨β, ι, ρ, g, r, s, by rw [q]; exact h⟩
  | ok d g' =>
    rw [q] at h
    cases d with
    | tup l =>
      refine .inl ⟨β, ι, ρ, g, r, s, ?_⟩
      rw [q]
      intro ι1 v H1 x1 r1 dv
      have dv' : DR X.K β ι1 H1 (.tup l) v := dv
      unfold DR at dv'
      obtain ⟨a, us, ea, t, w⟩ := dv'
      refine ⟨a, ea, ⟨us, t.sq⟩, fun p hp => lc_turns (fun H ι => TupAt X.K H a us ∧ DRs X.K (p :: β) ι H l us) hpt (fun ι H ι' H' g r x ⟨z1, z2⟩ => ⟨z1.keep r x, DRs.keep r x _ _ z2⟩)
        (fun ι H us ws hp ⟨z1, z2⟩ => ⟨(Chg.pen (β := β) (ι := ι) hp).tp _ _ z1, DRs.chg (Chg.pen hp) _ _ z2⟩) (fun i H ι g r hn ⟨z1, z2⟩ => ⟨us, z1.sq, ?_⟩) (fun i H ι g d r hn ⟨z1, z2⟩ => ?_) (fun i H ι g d x H' r hn ⟨z1, z2⟩ y => ?_)
        hp (r1.free hp).2 r1 (s.keep r x1) ⟨(Chg.book (β := β) (ι := ι1) hp).tp _ _ t, DRs.chg (Chg.book hp) _ _ w⟩ (Post.from x1 h)⟩
      · rw [z2.length]; exact List.getElem?_eq_none_iff.mp (Option.some.inj hn)
      · obtain ⟨u, hu, _⟩ := z2.get (Option.some.inj hn)
        exact ⟨us, u, z1.sq, hu⟩
      · obtain ⟨u, hu, du⟩ := z2.get (Option.some.inj hn)
        obtain ⟨e1, e2⟩ := Itt_yld y z1.sq
        rw [hu] at e2
        cases e2
        exact ⟨e1, du⟩
    | fl l =>
      refine .inr ⟨β, ι, ρ, g, r, s, ?_⟩
      rw [q]
      intro ι1 v H1 x1 r1 dv
      have dv' : DR X.K β ι1 H1 (.fl l) v := dv
      unfold DR at dv'
      obtain ⟨a, us, ea, t, w⟩ := dv'
      refine ⟨a, ea, ⟨us, .of t.2.2⟩, fun p hp => lc_turns (fun H ι => FlAt (p :: β) ι H a us ∧ DRs X.K (p :: β) ι H l us) hpt (fun ι H ι' H' g r x ⟨z1, z2⟩ => ⟨z1.keep x, DRs.keep r x _ _ z2⟩)
        (fun ι H us ws hp ⟨z1, z2⟩ => ⟨(Chg.pen (K := X.K) (β := β) (ι := ι) hp).fl _ _ z1, DRs.chg (Chg.pen hp) _ _ z2⟩) (fun i H ι g r hn ⟨z1, z2⟩ => ⟨us, .of z1.2.2, ?_⟩) (fun i H ι g d r hn ⟨z1, z2⟩ => ?_) (fun i H ι g d x H' r hn ⟨z1, z2⟩ y => ?_)
        hp (r1.free hp).2 r1 (s.keep r x1) ⟨(Chg.book (K := X.K) (β := β) (ι := ι1) hp).fl _ _ t, DRs.chg (Chg.book hp) _ _ w⟩ (Post.from x1 h)⟩
      · rw [z2.length]; exact List.getElem?_eq_none_iff.mp (Option.some.inj hn)
      · obtain ⟨u, hu, _⟩ := z2.get (Option.some.inj hn)
        exact ⟨us, u, .of z1.2.2, hu⟩
      · obtain ⟨u, hu, du⟩ := z2.get (Option.some.inj hn)
        obtain ⟨e1, e2⟩ := Itl_yld y (.of z1.2.2)
        rw [hu] at e2
        cases e2
        exact ⟨e1, du⟩
    | fz l =>
      refine .inr ⟨β, ι, ρ, g, r, s, ?_⟩
      rw [q]
      intro ι1 v H1 x1 r1 dv
      have dv' : DR X.K β ι1 H1 (.fz l) v := dv
      unfold DR at dv'
      obtain ⟨a, us, ea, t, w⟩ := dv'
      refine ⟨a, ea, ⟨us, t.sq⟩, fun p hp => lc_turns (fun H ι => FzAt X.K ι H a us ∧ DRs X.K (p :: β) ι H l us) hpt (fun ι H ι' H' g r x ⟨z1, z2⟩ => ⟨z1.keep x, DRs.keep r x _ _ z2⟩)
        (fun ι H us ws hp ⟨z1, z2⟩ => ⟨(Chg.pen (β := β) (ι := ι) hp).fz _ _ z1, DRs.chg (Chg.pen hp) _ _ z2⟩) (fun i H ι g r hn ⟨z1, z2⟩ => ⟨us, z1.sq, ?_⟩) (fun i H ι g d r hn ⟨z1, z2⟩ => ?_) (fun i H ι g d x H' r hn ⟨z1, z2⟩ y => ?_)
        hp (r1.free hp).2 r1 (s.keep r x1) ⟨(Chg.book (β := β) (ι := ι1) hp).fz _ _ t, DRs.chg (Chg.book hp) _ _ w⟩ (Post.from x1 h)⟩
      · rw [z2.length]; exact List.getElem?_eq_none_iff.mp (Option.some.inj hn)
      · obtain ⟨u, hu, _⟩ := z2.get (Option.some.inj hn)
        exact ⟨us, u, z1.sq, hu⟩
      · obtain ⟨u, hu, du⟩ := z2.get (Option.some.inj hn)
        obtain ⟨e1, e2⟩ := Itl_yld y z1.sq
        rw [hu] at e2
        cases e2
        exact ⟨e1, du⟩
    | obj n =>
      have hl0 : ∃ l, lstAt g' n = some l := by
        have h' : PostD X.K β ca W ι H (finL o (lcN (fun i g => (lstAt g n).map (·[i]?)) pt c e vs LK 0 ρ g')) Q := h
        have hk : LK = 1000000 + 1 := rfl
        rw [hk] at h'
        unfold lcN at h'
        cases q2 : lstAt g' n with
        | none => simp only [q2, Option.map_none] at h'; exact h'.elim
        | some l => exact ⟨l, rfl⟩
      obtain ⟨l0, hl0⟩ := hl0
      refine .inr ⟨β, ι, ρ, g, r, s, ?_⟩
      rw [q]
      intro ι1 v H1 x1 r1 dv
      have dv' : DR X.K β ι1 H1 (.obj n) v := dv
      unfold DR at dv'
      obtain ⟨a, ea, hn⟩ := dv'
      obtain ⟨vs0, hv0, _⟩ := lstAt_r r1 hl0 hn
      refine ⟨a, ea, ⟨vs0, .of hv0⟩, fun p hp => lc_turns (nx := fun i g => (lstAt g n).map (·[i]?)) (fun H ι => ι[n]? = some a) hpt (fun ι H ι' H' g r x z1 => x.ix z1)
        (fun ι H us ws hp z1 => z1) (fun i H ι g r hx z1 => ?_) (fun i H ι g d r hx z1 => ?_) (fun i H ι g d x H' r hx z1 y => ?_)
        hp (r1.free hp).2 r1 (s.keep r x1) hn (Post.from x1 h)⟩
      · obtain ⟨l, h1, h2⟩ := Option.map_eq_some_iff.mp hx
        obtain ⟨us, hu, du⟩ := lstAt_r r h1 z1
        exact ⟨us, .of hu, by rw [du.length]; exact List.getElem?_eq_none_iff.mp h2⟩
      · obtain ⟨l, h1, h2⟩ := Option.map_eq_some_iff.mp hx
        obtain ⟨us, hu, du⟩ := lstAt_r r h1 z1
        obtain ⟨u, hu2, _⟩ := du.get h2
        exact ⟨us, u, .of hu, hu2⟩
      · obtain ⟨l, h1, h2⟩ := Option.map_eq_some_iff.mp hx
        obtain ⟨us, hu, du⟩ := lstAt_r r h1 z1
        obtain ⟨u, hu2, du2⟩ := du.get h2
        obtain ⟨e1, e2⟩ := Itl_yld y (.of hu)
        rw [hu2] at e2
        cases e2
        exact ⟨e1, du2⟩
    | _ => exact h.elim
theorem lc_rng_src {vs : List Nat} (hpt : ∀ j ∈ pt.slots, j ∈ vs) {lo hi : Int} {β ι : List Addr} {ρ : Rho} {g : G} {σ : Sg} {H1 : Hp} {Q : VK} (r : Rl X.K β ι g H1) (s : SR X.K β ι H1 ρ σ)
    (h : PostD X.K β ca W ι H1 (finL o (lcN (fun i _ => some (rngL lo hi)[i]?) pt c e vs LK 0 ρ g)) Q) (p : Addr) (hp : H1 p = none) :
    ∃ Wv : Nat → Nat → Hp → Prop, (∃ m, Wv 0 m (upd H1 p (.lst []))) ∧ ∀ i m H, Wv i m H →
      ((Itr lo (hi - lo).toNat).stop i H ∧ Q (.ref p) H) ∨ ((Itr lo (hi - lo).toNat).go i H ∧ ∃ Nx : Hp → Prop, (∀ H', Nx H' → ∃ m', m' < m ∧ Wv (i + 1) m' H') ∧ ∀ x H', (Itr lo (hi - lo).toNat).yld i H x H' → tG X.K pt x (wipe σ vs) H' fun σ2 H2 => wipe σ2 vs = wipe σ vs ∧
        tT X.K ca W0 c σ2 H2 fun b H3 => if b = true then tE X.K ca W0 e σ2 H3 fun y H4 => ∃ acc, H4 p = some (.lst acc) ∧ acc.length < sizeLine ∧ Nx (upd H4 p (.lst (acc ++ [y]))) else Nx H3) :=
  lc_turns (fun _ _ => True) hpt (fun _ _ _ _ _ _ _ _ => trivial) (fun _ _ _ _ _ _ => trivial) (fun i H ι g r hn _ => by
      show (hi - lo).toNat ≤ i
      have z := List.getElem?_eq_none_iff.mp (Option.some.inj hn)
      unfold rngL at z
      rw [List.length_map, List.length_range] at z
      exact z)
    (fun i H ι g d r hn _ => (rngL_get (Option.some.inj hn)).1) (fun i H ι g d x H' r hn _ y => by
      obtain ⟨e1, e2⟩ := y
      refine ⟨e1, ?_⟩
      rw [(rngL_get (Option.some.inj hn)).2, e2]
      unfold DR
      rfl) hp (r.free hp).2 r s trivial h
theorem lc_src1 {vs : List Nat} (hpt : ∀ j ∈ pt.slots, j ∈ vs) {σ : Sg} {H : Hp} {Q : VK} (h : tE X.K ca W (lcR rngA1 o na pt c e vs) σ H Q) : tLc (iRng1 (tA X.K ca W na)) (tG X.K pt) (tT X.K ca W0 c) (tE X.K ca W0 e) vs σ H Q := by
  obtain ⟨β, ι, ρ, g, r, s, h⟩ := h
  refine (tA_bind r s h).mono fun ws H1 ⟨ι1, ds, g1, x1, r1, s1, dvs, h1⟩ => ?_
  cases q : rngA1 ds with
  | none => rw [q] at h1; exact h1.elim
  | some l =>
    rw [q] at h1
    obtain ⟨j, e1, cc, e2⟩ := rngA1_inv q
    subst e1 e2
    obtain ⟨v, ev, dv⟩ := dvs.one
    unfold DR at dv
    subst dv
    refine ⟨j, ev, (rOk_r cc).1, (rOk_r cc).2, ?_⟩
    have z := lc_rng_src hpt r1 s1 h1
    rw [Int.sub_zero] at z
    exact z
theorem lc_src2 {vs : List Nat} (hpt : ∀ j ∈ pt.slots, j ∈ vs) {σ : Sg} {H : Hp} {Q : VK} (h : tE X.K ca W (lcR rngA2 o na pt c e vs) σ H Q) : tLc (iRng2 (tA X.K ca W na)) (tG X.K pt) (tT X.K ca W0 c) (tE X.K ca W0 e) vs σ H Q := by
  obtain ⟨β, ι, ρ, g, r, s, h⟩ := h
  refine (tA_bind r s h).mono fun ws H1 ⟨ι1, ds, g1, x1, r1, s1, dvs, h1⟩ => ?_
  cases q : rngA2 ds with
  | none => rw [q] at h1; exact h1.elim
  | some l =>
    rw [q] at h1
    obtain ⟨i, j, e1, c1, c2, e2⟩ := rngA2_inv q
    subst e1 e2
    obtain ⟨v, u, ev, dv, du⟩ := dvs.two
    unfold DR at dv du
    subst dv du
    exact ⟨i, j, ev, ⟨(rOk_r c1).1, (rOk_r c1).2, (rOk_r c2).1, (rOk_r c2).2⟩, lc_rng_src hpt r1 s1 h1⟩
/-- what a block's parts are, in each of its contexts -/
structure Blk (X : Cx) (ca : Str → Addr) (scope : Scope) (own : List (Str × Nat)) (tg : Expr) (pt : Pt) (ifs : List Expr) (c : TM) (elt : Expr) (e : EM) : Prop where
  ok : BlkOk X.N X.env.scope scope own
  g : ∀ (s : Shared) (H : Hp) (C : Addr) (cl : List (Str × Addr)) (fp : List Addr), PG (X.blk s H scope (compEnvC scope cl C X.env) fp) tg (tG X.K pt)
  t : ∀ (s : Shared) (H : Hp) (C : Addr) (cl : List (Str × Addr)) (fp : List Addr), PTs (X.blk s H scope (compEnvC scope cl C X.env) fp) ifs (tT X.K ca W0 c)
  e : ∀ (s : Shared) (H : Hp) (C : Addr) (cl : List (Str × Addr)) (fp : List Addr), PE (X.blk s H scope (compEnvC scope cl C X.env) fp) elt (tE X.K ca W0 e)
  sl : ∀ j ∈ pt.slots, j ∈ own.map (·.2)
theorem me_lc (o : Bool) (hc : X.calm = true) (hN : X.N.Nodup) (hi : PE X it (tE X.K ca W src)) (B : Blk X ca scope own tg pt ifs c elt e) (hs : ∀ x, foldedSetIterable it X.env x = pure x := by intro _; rfl) :
    PE X (.ListComp elt [⟨tg, it, ifs, 0⟩] scope pos) (tE X.K ca W (lcM o src pt c e (own.map (·.2)))) := peOf (pe_lc hc hN (pi_or (pi_tup hi) (pi_list hi)) B.ok B.g B.t B.e hs) fun _ _ _ h => lc_src B.sl h
theorem me_lc1 (o : Bool) {p1 p2 : Pos} (hc : X.calm = true) (hN : X.N.Nodup) (hgl : Gl X "range") (hm : X.mg "range" = none) (ha : PA X [a] (tA X.K ca W na)) (B : Blk X ca scope own tg pt ifs c elt e) (hsa : starEach [a] X.env = [(false, eval a X.env)] := by rfl)
    (hs : ∀ x, foldedSetIterable (.Call (.Name "range" p1) [a] [] p2) X.env x = pure x := by intro _; rfl) :
    PE X (.ListComp elt [⟨tg, .Call (.Name "range" p1) [a] [] p2, ifs, 0⟩] scope pos) (tE X.K ca W (lcR rngA1 o na pt c e (own.map (·.2)))) := peOf (pe_lc hc hN (pi_range1 hgl hm ha hsa) B.ok B.g B.t B.e hs) fun _ _ _ h => lc_src1 B.sl h
theorem me_lc2 (o : Bool) {p1 p2 : Pos} (hc : X.calm = true) (hN : X.N.Nodup) (hgl : Gl X "range") (hm : X.mg "range" = none) (ha : PA X [a, b] (tA X.K ca W na)) (B : Blk X ca scope own tg pt ifs c elt e) (hsa : starEach [a, b] X.env = [(false, eval a X.env), (false, eval b X.env)] := by rfl) (hsb : starEach [b] X.env = [(false, eval b X.env)] := by rfl)
    (hs : ∀ x, foldedSetIterable (.Call (.Name "range" p1) [a, b] [] p2) X.env x = pure x := by intro _; rfl) :
    PE X (.ListComp elt [⟨tg, .Call (.Name "range" p1) [a, b] [] p2, ifs, 0⟩] scope pos) (tE X.K ca W (lcR rngA2 o na pt c e (own.map (·.2)))) := peOf (pe_lc hc hN (pi_range2 hgl hm ha hsa hsb) B.ok B.g B.t B.e hs) fun _ _ _ h => lc_src2 B.sl h
/-- name = [..] on one line -/
theorem set_lc {t : TE} {m : EM} {i : Nat} (ht : ∀ σ H Q, tE X.K ca W m σ H Q → t σ H Q) {E : Ends} {σ : Sg} {H : Hp} (h : tS X.K ca W (setM i m) E σ H) : tAsg t (gName i) E σ H := by
  obtain ⟨β, ι, ρ, g, r, s, h⟩ := h
  exact ht _ _ _ ((tE_bindS r s h).mono fun v H1 ⟨ι1, d, g1, x1, r1, s1, dv, h1⟩ => h1 ι1 _ H1 (Ex.refl _ _) r1 (s1.set dv i))
theorem ms_setLc (o : Bool) {i : Nat} {y : Str} {py spos : Pos} (hc : X.calm = true) (hN : X.N.Nodup) (hy : X.N[i]? = some y) (hyl : X.env.scope.names.lookup y = some .local)
    (hsw : swapsWith (.ListComp elt [⟨tg, it, ifs, 0⟩] scope pos) (some (.Name y py)) spos.line X.env = pure true) (hi : PE X it (tE X.K ca W src)) (B : Blk X ca scope own tg pt ifs c elt e) (hs : ∀ x, foldedSetIterable it X.env x = pure x := by intro _; rfl) :
    PS X (.Assign [.Name y py] (.ListComp elt [⟨tg, it, ifs, 0⟩] scope pos) spos) (tS X.K ca W (setM i (lcM o src pt c e (own.map (·.2))))) :=
  psOf (ps_setLc hc hN hy hyl hsw (pi_or (pi_tup hi) (pi_list hi)) B.ok B.g B.t B.e hs) fun _ _ _ h => set_lc (fun _ _ _ z => lc_src B.sl z) h
theorem ms_setLc1 (o : Bool) {i : Nat} {y : Str} {p1 p2 py spos : Pos} (hc : X.calm = true) (hN : X.N.Nodup) (hy : X.N[i]? = some y) (hyl : X.env.scope.names.lookup y = some .local)
    (hsw : swapsWith (.ListComp elt [⟨tg, .Call (.Name "range" p1) [a] [] p2, ifs, 0⟩] scope pos) (some (.Name y py)) spos.line X.env = pure true) (hgl : Gl X "range") (hm : X.mg "range" = none) (ha : PA X [a] (tA X.K ca W na)) (B : Blk X ca scope own tg pt ifs c elt e) (hsa : starEach [a] X.env = [(false, eval a X.env)] := by rfl)
    (hs : ∀ x, foldedSetIterable (.Call (.Name "range" p1) [a] [] p2) X.env x = pure x := by intro _; rfl) :
    PS X (.Assign [.Name y py] (.ListComp elt [⟨tg, .Call (.Name "range" p1) [a] [] p2, ifs, 0⟩] scope pos) spos) (tS X.K ca W (setM i (lcR rngA1 o na pt c e (own.map (·.2))))) :=
  psOf (ps_setLc hc hN hy hyl hsw (pi_range1 hgl hm ha hsa) B.ok B.g B.t B.e hs) fun _ _ _ h => set_lc (fun _ _ _ z => lc_src1 B.sl z) h
theorem ms_setLc2 (o : Bool) {i : Nat} {y : Str} {p1 p2 py spos : Pos} (hc : X.calm = true) (hN : X.N.Nodup) (hy : X.N[i]? = some y) (hyl : X.env.scope.names.lookup y = some .local)
    (hsw : swapsWith (.ListComp elt [⟨tg, .Call (.Name "range" p1) [a, b] [] p2, ifs, 0⟩] scope pos) (some (.Name y py)) spos.line X.env = pure true) (hgl : Gl X "range") (hm : X.mg "range" = none) (ha : PA X [a, b] (tA X.K ca W na)) (B : Blk X ca scope own tg pt ifs c elt e)
    (hsa : starEach [a, b] X.env = [(false, eval a X.env), (false, eval b X.env)] := by rfl) (hsb : starEach [b] X.env = [(false, eval b X.env)] := by rfl)
    (hs : ∀ x, foldedSetIterable (.Call (.Name "range" p1) [a, b] [] p2) X.env x = pure x := by intro _; rfl) :
    PS X (.Assign [.Name y py] (.ListComp elt [⟨tg, .Call (.Name "range" p1) [a, b] [] p2, ifs, 0⟩] scope pos) spos) (tS X.K ca W (setM i (lcR rngA2 o na pt c e (own.map (·.2))))) :=
  psOf (ps_setLc hc hN hy hyl hsw (pi_range2 hgl hm ha hsa hsb) B.ok B.g B.t B.e hs) fun _ _ _ h => set_lc (fun _ _ _ z => lc_src2 B.sl z) h

/-! ### slices -/
abbrev OM := Rho → G → Res (Option Int)
def tO (K : Fg) (ca : Str → Addr) (W : WX) (m : OM) : TO := fun σ H Q => ∃ β ι ρ g, Rl K β ι g H ∧ SR K β ι H ρ σ ∧ Post K β ca W (fun _ _ (a b : Option Int) => a = b) ι H (m ρ g) Q
def noP : OM := fun _ g => .ok none g
def someP (m : EM) : OM := bindE m fun d => fun _ g => match d with
  | .int i => .ok (some i) g
  | _ => .no
theorem poOf {x : Option Expr} {t t' : TO} (p : PO X x t) (h : ∀ σ H Q, t' σ H Q → t σ H Q) : PO X x t' := ⟨fun pins s σ H Q I q => p.run pins s σ H Q I (h σ H Q q)⟩
theorem mo_none : PO X none (tO X.K ca W noP) := poOf po_none fun σ H Q ⟨β, ι, ρ, g, r, s, h⟩ => h ι _ H (Ex.refl _ _) r rfl
theorem mo_some {m : EM} (h : PE X a (tE X.K ca W m)) : PO X (some a) (tO X.K ca W (someP m)) := poOf (po_some h) fun σ H Q ⟨β, ι, ρ, g, r, s, h⟩ =>
  (tE_bind r s h).mono fun v H1 ⟨ι1, d, g1, x1, r1, s1, dv, h1⟩ => by
    cases d with
    | int i => unfold DR at dv; exact ⟨i, dv, h1 ι1 _ H1 (Ex.refl _ _) r1 rfl⟩
    | _ => exact h1.elim
def bindO {α : Type} (m : OM) (f : Option Int → Rho → G → Res α) : Rho → G → Res α := fun ρ g => (m ρ g).bind fun d g1 => f d ρ g1
theorem tO_bind {K : Fg} {α γ : Type} {R : List Addr → Hp → α → γ → Prop} {m : OM} {f : Option Int → Rho → G → Res α} {σ : Sg} {β ι : List Addr} {ρ : Rho} {g : G} {H : Hp} {Q : γ → Hp → Prop} {T : Option Int → Hp → Prop} (r : Rl K β ι g H) (s : SR K β ι H ρ σ)
    (h : Post K β ca W R ι H (bindO m f ρ g) Q) (hT : ∀ b H1 ι1 g1, Ex ι H ι1 H1 → Rl K β ι1 g1 H1 → SR K β ι1 H1 ρ σ → Post K β ca W R ι1 H1 (f b ρ g1) Q → T b H1) : tO K ca W m σ H T := by
  refine ⟨β, ι, ρ, g, r, s, ?_⟩
  unfold bindO at h
  cases q : m ρ g with
  | ok d g1 =>
    rw [q] at h
    intro ι1 v H1 x r1 dv
    cases (show d = v from dv)
    exact hT d H1 ι1 g1 x r1 (s.keep r x) (Post.from x h)
  | exc c fs ρ' g1 => rw [q] at h; exact h
  | no => rw [q] at h; exact h
def cutD {α : Type} (xs : List α) (lo hi : Option Int) : List α := (xs.drop (HT.sIx xs.length 0 lo)).take (HT.sIx xs.length xs.length hi - HT.sIx xs.length 0 lo)
def slD (g : G) (d : D) (lo hi : Option Int) : Option Nv := match d with
  | .tup l => some (.v (.tup (cutD l lo hi)))
  | d => (lisOf g d).map fun l => .n (cutD l lo hi)
def slM (own : Bool) (m : EM) (lo hi : OM) : EM := bindE m fun d => bindO lo fun l => bindO hi fun h => fun _ g => fin own (slD g d l h) g
theorem DRs.cut {K : Fg} {β ι : List Addr} {H : Hp} {l : List D} {vs : List V} (lo hi : Option Int) (h : DRs K β ι H l vs) : DRs K β ι H (cutD l lo hi) (cutV vs lo hi) := by
  unfold cutD cutV
  rw [h.length]
  exact DRs.take _ (DRs.drop _ h)
theorem cut_whole {α : Type} {l : List α} {lo hi : Option Int} (h : HT.sIx l.length 0 lo = 0 ∧ HT.sIx l.length l.length hi = l.length) : cutD l lo hi = l := by
  unfold cutD
  rw [h.1, h.2, Nat.sub_zero, List.drop_zero, List.take_length]
theorem sl_any : SlR X (fun x lo hi H Q => rSlA X.K x lo hi H Q ∨ rSlL X.K x lo hi H Q) := SlR.or sl_tupA sl_list
theorem me_slice {own : Bool} {m : EM} {lo hi : Option Expr} {ml mh : OM} {p2 : Pos} (he : PE X a (tE X.K ca W m)) (hl : PO X lo (tO X.K ca W ml)) (hh : PO X hi (tO X.K ca W mh)) : PE X (.Subscript a (.Slice lo hi none p2) pos) (tE X.K ca W (slM own m ml mh)) :=
  peOf (pe_slice sl_any he hl hh) fun σ H Q ⟨β, ι, ρ, g, r, s, h⟩ => (tE_bind r s h).mono fun v H1 ⟨ι1, d, g1, x1, r1, s1, dv, h1⟩ => tO_bind r1 s1 h1 fun l H2 ι2 g2 x2 r2 s2 h2 => tO_bind r2 s2 h2 fun u H3 ι3 g3 x3 r3 s3 h3 => by
    have dv' := DR.keep r2 x3 _ _ (DR.keep r1 x2 _ _ dv)
    cases d with
    | tup ds =>
      have dv2 := dv'
      unfold DR at dv'
      obtain ⟨a, vs, ea, t, w⟩ := dv'
      refine .inl ⟨a, vs, ea, t.sq, fun z => ?_, fun _ => fin_t r3 (w.cut l u) h3⟩
      rw [w.length] at z
      have h3' : PostD X.K β ca W ι3 H3 (fin own (some (.v (.tup (cutD ds l u)))) g3) Q := h3
      rw [cut_whole z] at h3'
      rw [← ea]
      exact fin_v r3 dv2 h3'
    | fl ds =>
      obtain ⟨a, vs, ea, t, w⟩ := lisOf_r (l := ds) r3 rfl dv'
      exact .inr ⟨a, vs, ea, t, fin_n r3 (w.cut l u) h3⟩
    | fz ds =>
      obtain ⟨a, vs, ea, t, w⟩ := lisOf_r (l := ds) r3 rfl dv'
      exact .inr ⟨a, vs, ea, t, fin_n r3 (w.cut l u) h3⟩
    | obj n =>
      cases q : lstAt g3 n with
      | none =>
        have h3' : PostD X.K β ca W ι3 H3 (fin own ((lstAt g3 n).map fun l' => .n (cutD l' l u)) g3) Q := h3
        rw [q] at h3'
        exact h3'.elim
      | some ds =>
        have h3' : PostD X.K β ca W ι3 H3 (fin own ((lstAt g3 n).map fun l' => .n (cutD l' l u)) g3) Q := h3
        rw [q] at h3'
        obtain ⟨a, vs, ea, t, w⟩ := lisOf_r (l := ds) r3 (d := .obj n) q dv'
        exact .inr ⟨a, vs, ea, t, fin_n r3 (w.cut l u) h3'⟩
    | _ => exact h3.elim

/-! ### isinstance(e, T) of built-in types -/
def tyOf (g : G) : D → String
  | .non => "NoneType"
  | .bl _ => "bool"
  | .int _ => "int"
  | .str _ => "str"
  | .tup _ => "tuple"
  | .fl _ => "list"
  | .fz _ => "list"
  | .obj n => match dctAt g n with
    | some _ => "dict"
    | none => "list"
def subT (t u : String) : Bool := t == u || (t == "bool" && u == "int")
def tysL : List String := ["NoneType", "bool", "int", "str", "tuple", "list", "dict"]
def tyuL : List String := ["bool", "int", "str", "tuple", "list", "dict"]
theorem kit_tab : ∀ t ∈ tysL, ∀ u ∈ tyuL, kitB t u = some (subT t u) := by decide +kernel
def isOk (g : G) : D → Bool
  | .obj n => (dctAt g n).isSome || (lstAt g n).isSome
  | _ => true
theorem tyOf_mem (g : G) (d : D) : tyOf g d ∈ tysL := by
  cases d with
  | obj n =>
    show (match dctAt g n with
      | some _ => "dict"
      | none => "list") ∈ tysL
    cases dctAt g n with
    | some _ => show "dict" ∈ tysL; decide +kernel
    | none => show "list" ∈ tysL; decide +kernel
  | non => show "NoneType" ∈ tysL; decide +kernel
  | bl _ => show "bool" ∈ tysL; decide +kernel
  | int _ => show "int" ∈ tysL; decide +kernel
  | str _ => show "str" ∈ tysL; decide +kernel
  | tup _ => show "tuple" ∈ tysL; decide +kernel
  | fl _ => show "list" ∈ tysL; decide +kernel
  | fz _ => show "list" ∈ tysL; decide +kernel
theorem sqL_kL {K : Fg} {H : Hp} {a : Addr} {vs : List V} (h : SqL K hp0 a vs) : TyX K H (.ref a) (.type "list") := by
  rcases h with (h | ⟨o, h⟩) | ⟨o, its, n, h1, h2, _⟩
  · cases h
  · cases h
  · exact .kList h1 h2
theorem sqT_kT {K : Fg} {H : Hp} {a : Addr} {vs : List V} (h : SqT K hp0 a vs) : TyX K H (.ref a) (.type "tuple") := by
  rcases h with (h | ⟨o, h⟩) | ⟨o, its, n, h1, h2, _⟩
  · cases h
  · cases h
  · exact .kTuple h1 h2
theorem tyOf_r {K : Fg} {β ι : List Addr} {g : G} {H : Hp} (r : Rl K β ι g H) {d : D} {v : V} (h : DR K β ι H d v) (ho : isOk g d = true) : TyX K H v (.type (tyOf g d)) := by
  cases d with
  | non => unfold DR at h; subst h; exact .base .non
  | bl b => unfold DR at h; subst h; exact .base (.bl b)
  | int i => unfold DR at h; subst h; exact .base (.int i)
  | str x => unfold DR at h; subst h; exact .base (.str x)
  | tup l =>
    unfold DR at h
    obtain ⟨a, vs, ea, t, _⟩ := h
    subst ea
    rcases t with t | t
    · exact .base (.tup t)
    · exact sqT_kT t
  | fl l =>
    unfold DR at h
    obtain ⟨a, vs, ea, t, _⟩ := h
    subst ea
    exact .base (.lst t.2.2)
  | fz l =>
    unfold DR at h
    obtain ⟨a, vs, ea, t, _⟩ := h
    subst ea
    rcases t with ⟨_, o, t⟩ | t
    · exact .base (.frz t)
    · exact sqL_kL t
  | obj n =>
    unfold DR at h
    obtain ⟨a, ea, hn⟩ := h
    subst ea
    have ho' : ((dctAt g n).isSome || (lstAt g n).isSome) = true := ho
    cases q : dctAt g n with
    | some l =>
      obtain ⟨ws, hw, _⟩ := dctAt_r r q hn
      have e : tyOf g (.obj n) = "dict" := by
        show (match dctAt g n with
          | some _ => "dict"
          | none => "list") = _
        rw [q]
      rw [e]
      exact .base (.dK hw)
    | none =>
      rw [q] at ho'
      have e : tyOf g (.obj n) = "list" := by
        show (match dctAt g n with
          | some _ => "dict"
          | none => "list") = _
        rw [q]
      rw [e]
      cases q2 : lstAt g n with
      | none => rw [q2] at ho'; cases ho'
      | some l =>
        obtain ⟨vs, hv, _⟩ := lstAt_r r q2 hn
        exact .base (.lst hv)
def isiM (ts : List String) (m : EM) : EM := bindE m fun d => fun _ g => if isOk g d = true then .ok (.bl (ts.any fun u => subT (tyOf g d) u)) g else .no
/-- a list of values written out -/
def tCs (vs : List V) : TA := fun _ H Q => Q vs H
theorem pa_tyNil : PA X [] (tCs []) := pa_nil
theorem pa_tyCons {x : Expr} {v : V} {es : List Expr} {vs : List V} (h : PE X x (tC v)) (k : PA X es (tCs vs)) (hs : starEach (x :: es) X.env = (false, eval x X.env) :: starEach es X.env := by rfl) : PA X (x :: es) (tCs (v :: vs)) := pa_cons h k hs
theorem me_isi1 {m : EM} {u : String} {x : Expr} {p : Pos} (hu : u ∈ tyuL) (hg : Gl X "isinstance") (hm : X.mg "isinstance" = none) (he : PE X a (tE X.K ca W m)) (hx : PE X x (tC (.ty u))) (hs : starEach [a, x] X.env = (false, eval a X.env) :: starEach [x] X.env := by rfl)
    (hs2 : starEach [x] X.env = (false, eval x X.env) :: starEach [] X.env := by rfl) (hpl : (backTo pos (starEach [x] X.env)).any (·.1) = false := by rfl) (hv : bootBuiltins "isinstance" = some (.builtin "isinstance") := by decide +kernel) :
    PE X (.Call (.Name "isinstance" p) [a, x] [] pos) (tE X.K ca W (isiM [u] m)) :=
  peOf (pe_callB call_isi hg hm hv (pa_cons he (pa_cons hx pa_nil hs2) hs) (by decide) (by decide) hs hpl) fun σ H Q ⟨β, ι, ρ, g, r, s, h⟩ => (tE_bind r s h).mono fun v H1 ⟨ι1, d, g1, x1, r1, s1, dv, h1⟩ => by
    split at h1
    · rename_i ho
      refine ⟨v, .ty u, _, _, subT (tyOf g1 d) u, rfl, .ty u, tyOf_r r1 dv ho, kit_ty (kit_tab _ (tyOf_mem _ _) _ hu), ?_⟩
      have h1' : PostD X.K β ca W ι1 H1 (.ok (.bl (subT (tyOf g1 d) u || false)) g1) Q := h1
      rw [Bool.or_false] at h1'
      exact h1'.here r1 (by unfold DR; rfl)
    · exact h1.elim
theorem kit_anyL {K : Fg} {t : String} (ht : t ∈ tysL) : ∀ (us : List String), (∀ u ∈ us, u ∈ tyuL) → PySem.W.kitAny K (.type t) (us.map Value.type) = some (us.any fun u => subT t u)
  | [], _ => kitAny_nil
  | u :: us, h => by
    rw [List.map_cons, List.any_cons]
    refine kitAny_cons (b := subT t u) (kit_ty (kit_tab _ ht _ (h u List.mem_cons_self))) (fun e => ?_) fun e => by rw [e]; rfl
    rw [e, Bool.false_or]
    exact kit_anyL ht us fun x hx => h x (List.mem_cons_of_mem _ hx)
theorem cls_all : ∀ us : List String, Paired ClsV (us.map V.ty) (us.map Value.type)
  | [] => .nil
  | u :: us => .cons (.ty u) (cls_all us)
theorem me_isiN {m : EM} {us : List String} {xs : List Expr} {p pt2 : Pos} {k : Nat} (hu : ∀ u ∈ us, u ∈ tyuL) (hlen : us.length ≤ LIM) (hg : Gl X "isinstance") (hm : X.mg "isinstance" = none) (he : PE X a (tE X.K ca W m)) (hx : PA X xs (tCs (us.map V.ty)))
    (hs : starEach [a, .Tuple xs k pt2] X.env = (false, eval a X.env) :: starEach [.Tuple xs k pt2] X.env := by rfl) (hs2 : starEach [.Tuple xs k pt2] X.env = (false, eval (.Tuple xs k pt2) X.env) :: starEach [] X.env := by rfl)
    (hpl : (backTo pos (starEach [.Tuple xs k pt2] X.env)).any (·.1) = false := by rfl) (hv : bootBuiltins "isinstance" = some (.builtin "isinstance") := by decide +kernel) :
    PE X (.Call (.Name "isinstance" p) [a, .Tuple xs k pt2] [] pos) (tE X.K ca W (isiM us m)) :=
  peOf (pe_callB call_isiT hg hm hv (pa_cons he (pa_cons (pe_tup hx) pa_nil hs2) hs) (by decide) (by decide) hs hpl) fun σ H Q ⟨β, ι, ρ, g, r, s, h⟩ => (tE_bind r s h).mono fun v H1 ⟨ι1, d, g1, x1, r1, s1, dv, h1⟩ => by
    split at h1
    · rename_i ho
      refine ⟨by rw [List.length_map]; exact Nat.le_trans hlen lim_line, fun q hq => ?_⟩
      have r2 := r1.laid (o := .tup (us.map V.ty)) hq
      have dv2 := DR.keep r1 (Ex.laid (o := .tup (us.map V.ty)) hq) _ _ dv
      refine ⟨v, q, us.map V.ty, _, us.map Value.type, _, rfl, upd_same, cls_all us, tyOf_r r2 dv2 ho, kit_anyL (tyOf_mem _ _) us hu, ?_⟩
      exact h1 ι1 _ _ (Ex.laid hq) r2 (by unfold DR; rfl)
    · exact h1.elim
end
end Mn

set_option Elab.async false
set_option linter.all false
set_option maxRecDepth 100000
set_option maxHeartbeats 4000000
/-! Defs and their calls. -/
namespace Mn
open PySem PySem.Spec PyProof.Rows L2

/-- a def's mirror -/
abbrev FM := List D → G → Res D

section
variable (K : Fg) (ca : Str → Addr)
def PostF (β ι : List Addr) (H : Hp) (r : Res D) (Q : VK) (E : XK) : Prop :=
  match r with
  | .ok d g' => ∀ ι' v H', Ex ι H ι' H' → Rl K β ι' g' H' → DR K β ι' H' d v → Q v H'
  | .exc c fs _ g' => ∀ ι' H' x, Ex ι H ι' H' → Rl K β ι' g' H' → XAt K β ι' H' x fs → E (.ref (ca c)) (some x) H'
  | .no => False
/-- the promise: what the mirror says -/
def spM (n : Nat) (m : FM) : Sp := fun vs H Q E => vs.length = n ∧ ∃ β ι ds g, Rl K β ι g H ∧ DRs K β ι H ds vs ∧ PostF K ca β ι H (m ds g) Q E
end

/-! ### a call apart from the caller's heap -/
mutual
def mapO (h : Nat → Option D) : D → Option D
  | .tup l => (mapOs h l).map .tup
  | .fl l => (mapOs h l).map .fl
  | .fz l => (mapOs h l).map .fz
  | .obj n => h n
  | .non => some .non
  | .bl b => some (.bl b)
  | .int i => some (.int i)
  | .str x => some (.str x)
def mapOs (h : Nat → Option D) : List D → Option (List D)
  | [] => some []
  | d :: r => match mapO h d, mapOs h r with
    | some x, some xs => some (x :: xs)
    | _, _ => none
end
def hndO : Nat → G → Nat → Option D
  | 0, _, _ => none
  | k + 1, g, n => match lstAt g n with
    | some l => (mapOs (hndO k g) l).map .fl
    | none => none
/-- the value with the heap's lists written out -/
def frzD (g : G) (d : D) : Option D := mapO (hndO 6 g) d
def mapFs (h : Nat → Option D) : List (Str × D) → Option (List (Str × D))
  | [] => some []
  | p :: r => match mapO h p.2, mapFs h r with
    | some x, some xs => some ((p.1, x) :: xs)
    | _, _ => none
mutual
def pureD : D → Bool
  | .tup l => pureDs l
  | .fl l => pureDs l
  | .fz l => pureDs l
  | .obj _ => false
  | _ => true
def pureDs : List D → Bool
  | [] => true
  | d :: r => pureD d && pureDs r
end
/-- run over an empty heap, its end frozen -/
def pureF (m : FM) : FM := fun ds g => if pureDs ds = true then
    match m ds [] with
    | .ok d g' => match frzD g' d with
      | some d' => .ok d' g
      | none => .no
    | .exc c fs _ g' => match mapFs (hndO 6 g') fs with
      | some fs' => .exc c fs' [] g
      | none => .no
    | .no => .no
  else .no
section
variable {K : Fg} {ca : Str → Addr} {β ι : List Addr} {g : G} {H : Hp}
mutual
theorem pure_chg {β' ι' : List Addr} (hfl : ∀ a vs, FlAt β ι H a vs → FlAt β' ι' H a vs) (hfz : ∀ a vs, FzAt K ι H a vs → FzAt K ι' H a vs) : ∀ (d : D) (v : V), pureD d = true → DR K β ι H d v → DR K β' ι' H d v
  | .non, _, _, h => by unfold DR at *; exact h
  | .bl _, _, _, h => by unfold DR at *; exact h
  | .int _, _, _, h => by unfold DR at *; exact h
  | .str _, _, _, h => by unfold DR at *; exact h
  | .tup l, v, c, h => by
    unfold DR at *
    unfold pureD at c
    obtain ⟨a, vs, e, t, q⟩ := h
    exact ⟨a, vs, e, t, pures_chg hfl hfz l vs c q⟩
  | .fl l, v, c, h => by
    unfold DR at *
    unfold pureD at c
    obtain ⟨a, vs, e, t, q⟩ := h
    exact ⟨a, vs, e, hfl _ _ t, pures_chg hfl hfz l vs c q⟩
  | .fz l, v, c, h => by
    unfold DR at *
    unfold pureD at c
    obtain ⟨a, vs, e, t, q⟩ := h
    exact ⟨a, vs, e, hfz _ _ t, pures_chg hfl hfz l vs c q⟩
  | .obj n, v, c, h => by unfold pureD at c; cases c
theorem pures_chg {β' ι' : List Addr} (hfl : ∀ a vs, FlAt β ι H a vs → FlAt β' ι' H a vs) (hfz : ∀ a vs, FzAt K ι H a vs → FzAt K ι' H a vs) : ∀ (l : List D) (vs : List V), pureDs l = true → DRs K β ι H l vs → DRs K β' ι' H l vs
  | [], _, _, h => by unfold DRs at *; exact h
  | d :: l, vs, c, h => by
    unfold DRs at *
    unfold pureDs at c
    rw [Bool.and_eq_true] at c
    obtain ⟨v, ws, e, q1, q2⟩ := h
    exact ⟨v, ws, e, pure_chg hfl hfz d v c.1 q1, pures_chg hfl hfz l ws c.2 q2⟩
end
/-- what the callee hands back, to the caller: its heap's lists are let go -/
structure Back (K : Fg) (β' ι' : List Addr) (H' : Hp) (β ι : List Addr) : Prop where
  fl : ∀ a vs, FlAt β' ι' H' a vs → FlAt β ι H' a vs
  fz : ∀ a vs, FzAt K ι' H' a vs → FzAt K ι H' a vs
  ob : ∀ a vs, a ∈ ι' → H' a = some (.lst vs) → FlAt β ι H' a vs
mutual
theorem mapO_r {β' ι' : List Addr} {H' : Hp} (b : Back K β' ι' H' β ι) {h : Nat → Option D} (hh : ∀ n d v, h n = some d → DR K β' ι' H' (.obj n) v → DR K β ι H' d v) : ∀ (d d' : D) (v : V), mapO h d = some d' → DR K β' ι' H' d v → DR K β ι H' d' v
  | .non, d', v, e, q => by unfold mapO at e; cases e; unfold DR at q ⊢; exact q
  | .bl _, d', v, e, q => by unfold mapO at e; cases e; unfold DR at q ⊢; exact q
  | .int _, d', v, e, q => by unfold mapO at e; cases e; unfold DR at q ⊢; exact q
  | .str _, d', v, e, q => by unfold mapO at e; cases e; unfold DR at q ⊢; exact q
  | .tup l, d', v, e, q => by
    unfold mapO at e
    cases z : mapOs h l with
    | none => rw [z] at e; cases e
    | some l' =>
      rw [z] at e
      cases e
      unfold DR at q ⊢
      obtain ⟨a, vs, ea, t, w⟩ := q
      exact ⟨a, vs, ea, t, mapOs_r b hh l l' vs z w⟩
  | .fl l, d', v, e, q => by
    unfold mapO at e
    cases z : mapOs h l with
    | none => rw [z] at e; cases e
    | some l' =>
      rw [z] at e
      cases e
      unfold DR at q ⊢
      obtain ⟨a, vs, ea, t, w⟩ := q
      exact ⟨a, vs, ea, b.fl _ _ t, mapOs_r b hh l l' vs z w⟩
  | .fz l, d', v, e, q => by
    unfold mapO at e
    cases z : mapOs h l with
    | none => rw [z] at e; cases e
    | some l' =>
      rw [z] at e
      cases e
      unfold DR at q ⊢
      obtain ⟨a, vs, ea, t, w⟩ := q
      exact ⟨a, vs, ea, b.fz _ _ t, mapOs_r b hh l l' vs z w⟩
  | .obj n, d', v, e, q => by unfold mapO at e; exact hh n d' v e q
theorem mapOs_r {β' ι' : List Addr} {H' : Hp} (b : Back K β' ι' H' β ι) {h : Nat → Option D} (hh : ∀ n d v, h n = some d → DR K β' ι' H' (.obj n) v → DR K β ι H' d v) : ∀ (l l' : List D) (vs : List V), mapOs h l = some l' → DRs K β' ι' H' l vs → DRs K β ι H' l' vs
  | [], l', vs, e, q => by unfold mapOs at e; cases e; unfold DRs at q ⊢; exact q
  | d :: l, l', vs, e, q => by
    unfold mapOs at e
    cases z1 : mapO h d with
    | none => rw [z1] at e; cases e
    | some x =>
      cases z2 : mapOs h l with
      | none => rw [z1, z2] at e; cases e
      | some xs =>
        rw [z1, z2] at e
        cases e
        unfold DRs at q ⊢
        obtain ⟨v, ws, ev, q1, q2⟩ := q
        exact ⟨v, ws, ev, mapO_r b hh d x v z1 q1, mapOs_r b hh l xs ws z2 q2⟩
end
theorem hndO_r {β' ι' : List Addr} {H' : Hp} {g' : G} (r : Rl K β' ι' g' H') (b : Back K β' ι' H' β ι) : ∀ (k n : Nat) (d : D) (v : V), hndO k g' n = some d → DR K β' ι' H' (.obj n) v → DR K β ι H' d v
  | 0, n, d, v, e, q => by cases e
  | k + 1, n, d, v, e, q => by
    unfold hndO at e
    cases z : lstAt g' n with
    | none => simp only [z] at e; cases e
    | some l =>
      simp only [z] at e
      cases z2 : mapOs (hndO k g') l with
      | none => rw [z2] at e; cases e
      | some l' =>
        rw [z2] at e
        cases e
        unfold DR at q
        obtain ⟨a, ea, hn⟩ := q
        obtain ⟨vs, hv, dvs⟩ := lstAt_r r z hn
        show DR K β ι H' (.fl l') v
        unfold DR
        exact ⟨a, vs, ea, b.ob a vs (List.mem_of_getElem? hn) hv, mapOs_r b (fun n d v => hndO_r r b k n d v) l l' vs z2 dvs⟩
theorem mapFs_r {β' ι' : List Addr} {H' : Hp} (b : Back K β' ι' H' β ι) {h : Nat → Option D} (hh : ∀ n d v, h n = some d → DR K β' ι' H' (.obj n) v → DR K β ι H' d v) : ∀ (l l' : List (Str × D)) (ws : List (Str × V)), mapFs h l = some l' → FR K β' ι' H' l ws → FR K β ι H' l' ws
  | [], l', ws, e, q => by unfold mapFs at e; cases e; unfold FR at q ⊢; exact q
  | p :: l, l', ws, e, q => by
    unfold mapFs at e
    cases z1 : mapO h p.2 with
    | none => rw [z1] at e; cases e
    | some x =>
      cases z2 : mapFs h l with
      | none => rw [z1, z2] at e; cases e
      | some xs =>
        rw [z1, z2] at e
        cases e
        unfold FR at q ⊢
        obtain ⟨v, us, ev, q1, q2⟩ := q
        exact ⟨v, us, ev, mapO_r b hh _ x v z1 q1, mapFs_r b hh l xs us z2 q2⟩
/-- the caller's objects stand, the callee's were none of them -/
theorem Ex.apart {ι' : List Addr} {H' : Hp} (x : Ex [] H ι' H') : Ex ι H ι H' := ⟨⟨[], by simp, by simp⟩, fun a o h _ => x.fr a o h (by simp), x.dom⟩
theorem Rl.back {ι' : List Addr} {H' : Hp} (r : Rl K β ι g H) (x : Ex [] H ι' H') : Rl K β ι g H' := by
  refine ⟨r.len, r.nd, fun n a o h1 h2 => ?_, fun b hb => ⟨(r.bt b hb).1, x.dom b (r.bt b hb).2⟩⟩
  obtain ⟨ho, e, q⟩ := r.at_ n a o h1 h2
  exact ⟨ho, x.fr a ho e (by simp), q.keep r (Ex.apart x)⟩
theorem back_of {ι' : List Addr} {H' : Hp} (r : Rl K β ι g H) (x : Ex [] H ι' H') : Back K (β ++ ι) ι' H' β ι := by
  have new : ∀ a ∈ ι', H a = none := fun a ha => by
    obtain ⟨nw, e, p⟩ := x.pre
    rw [List.nil_append] at e
    exact p a (e ▸ ha)
  refine ⟨fun a vs ⟨h1, h2, h3⟩ => ⟨fun z => h2 (List.mem_append_right _ z), fun z => h2 (List.mem_append_left _ z), h3⟩, fun a vs h => h.elim (fun ⟨h1, o, h2⟩ => .inl ⟨fun z => ?_, o, h2⟩) .inr, fun a vs ha hv => ⟨fun z => ?_, fun z => (r.bt a z).2 (new a ha), hv⟩⟩
  · obtain ⟨n, ob, ho, e1, e2, e3, q⟩ := r.mem z
    have e4 := x.fr a ho e3 (by simp)
    rw [h2] at e4
    cases e4
    cases ob with
    | lst l => obtain ⟨_, y, _⟩ := q; cases y
    | dct l => obtain ⟨_, y, _⟩ := q; cases y
  · obtain ⟨n, ob, ho, e1, e2, e3, q⟩ := r.mem z
    rw [new a ha] at e3; cases e3
theorem spM_pure {n : Nat} {m : FM} {vs : List V} {Q : VK} {E : XK} (h : spM K ca n (pureF m) vs H Q E) : spM K ca n m vs H Q E := by
  obtain ⟨hl, β, ι, ds, g, r, dvs, p⟩ := h
  unfold pureF at p
  split at p
  · rename_i hp
    have r0 : Rl K (β ++ ι) [] [] H := ⟨rfl, List.nodup_nil, fun n a o h => by simp at h, fun b hb => ⟨by simp, by
      rcases List.mem_append.mp hb with z | z
      · exact (r.bt b z).2
      · obtain ⟨_, _, ho, _, _, e, _⟩ := r.mem z
        rw [e]; simp⟩⟩
    have d0 : DRs K (β ++ ι) [] H ds vs := pures_chg (fun a vs ⟨h1, h2, h3⟩ => ⟨by simp, fun z => (List.mem_append.mp z).elim h2 h1, h3⟩) (fun a vs h => h.elim (fun ⟨h1, o, h2⟩ => .inl ⟨by simp, o, h2⟩) .inr) ds vs hp dvs
    refine ⟨hl, β ++ ι, [], ds, [], r0, d0, ?_⟩
    cases q : m ds [] with
    | no => simp only [q] at p; exact p.elim
    | ok d g' =>
      simp only [q] at p
      intro ι' v H' x r' dv
      cases q2 : frzD g' d with
      | none => simp only [q2] at p; exact p.elim
      | some d' =>
        simp only [q2] at p
        have b := back_of r x
        exact p ι v H' (Ex.apart x) (r.back x) (mapO_r b (fun n d v => hndO_r r' b 6 n d v) d d' v q2 dv)
    | exc c fs ρ' g' =>
      simp only [q] at p
      intro ι' H' y x r' xa
      cases q2 : mapFs (hndO 6 g') fs with
      | none => simp only [q2] at p; exact p.elim
      | some fs' =>
        simp only [q2] at p
        have b := back_of r x
        obtain ⟨ws, hw, fr⟩ := xa
        exact p ι H' y (Ex.apart x) (r.back x) ⟨ws, hw, mapFs_r b (fun n d v => hndO_r r' b 6 n d v) fs fs' ws q2 fr⟩
  · exact p.elim
end

/-! ### a def of the text, run where nothing is being shown -/
structure FnG (P : Program) (w : World) (K : Fg) (mg : Str → Option Value) (base : Heap) (k : Nat) (f : Addr) (fd : FuncData) (ps : List Str) (sp : Sp) : Prop where
  len : ∀ vs H Q E, sp vs H Q E → vs.length = ps.length
  run : ∀ (A : Around) (outer : List Env) (s : Shared) (H : Hp) (args : Args) (us : List Value) (vs : List V) (Q : VK) (E : XK), Room k A → A.guards = some [] → Env0 P w K mg base A outer s H → BindsTo s fd args (ps.zip us) → Vals vs us → sp vs H Q E →
    codeAny (model P w) A (.call (.ref f) args) (CR (L2.CX P w) outer P w H s Q E) s
section
variable {P : Program} {w : World} {K : Fg} {mg : Str → Option Value} {base : Heap} {ca : Str → Addr}
theorem FnG.of {k : Nat} {f : Addr} {fd : FuncData} {ps : List Str} {sp : Sp} (F : FnOk P w K mg base (L2.CX P w) k f fd ps sp) : FnG P w K mg base k f fd ps sp := ⟨F.len, fun A outer s H args us vs Q E hr _ => F.run A outer s H args us vs Q E hr⟩
theorem FnG.up {j k : Nat} {f : Addr} {fd : FuncData} {ps : List Str} {sp : Sp} (F : FnG P w K mg base j f fd ps sp) (h : j ≤ k) : FnG P w K mg base k f fd ps sp := ⟨F.len, fun A outer s H args us vs Q E hr => F.run A outer s H args us vs Q E (hr.mono h)⟩
theorem FnG.imp {k : Nat} {f : Addr} {fd : FuncData} {ps : List Str} {sp sp' : Sp} (F : FnG P w K mg base k f fd ps sp) (h : ∀ vs H Q E, sp' vs H Q E → sp vs H Q E) : FnG P w K mg base k f fd ps sp' :=
  ⟨fun vs H Q E q => F.len vs H Q E (h _ _ _ _ q), fun A outer s H args us vs Q E hr hg he hb hv hs => F.run A outer s H args us vs Q E hr hg he hb hv (h _ _ _ _ hs)⟩
theorem FnG.apart {k n : Nat} {f : Addr} {fd : FuncData} {ps : List Str} {m : FM} (F : FnG P w K mg base k f fd ps (spM K ca n m)) : FnG P w K mg base k f fd ps (spM K ca n (pureF m)) := F.imp fun _ _ _ _ h => spM_pure h
/-- the start's slots -/
def start0 (n : Nat) (ds : List D) : Rho := ds.map some ++ List.replicate (n - ds.length) none
theorem SR.start {β ι : List Addr} {H : Hp} {N : List Str} {ds : List D} {vs : List V} (h : DRs K β ι H ds vs) : SR K β ι H (start0 N.length ds) (L2.start N vs) := by
  unfold start0 L2.start
  rw [h.length]
  refine ⟨by simp [h.length], fun i d e => ?_⟩
  by_cases hi : i < ds.length
  · rw [List.getElem?_append_left (by simpa using hi), List.getElem?_map] at e
    cases q : ds[i]? with
    | none => rw [q] at e; cases e
    | some d' =>
      rw [q] at e
      cases e
      obtain ⟨v, hv, dv⟩ := h.get q
      refine ⟨v, ?_, dv⟩
      rw [List.getElem?_append_left (by rw [List.length_map, h.length]; exact hi), List.getElem?_map, hv]
      rfl
  · rw [List.getElem?_append_right (by simpa using hi), List.getElem?_replicate] at e
    split at e <;> cases e
/-- a def's mirror out of its body's -/
def defM (n : Nat) (b : SM) : FM := fun ds g => match b (start0 n ds) g with
  | .ok (.nx _) g' => .ok .non g'
  | .ok (.rt d) g' => .ok d g'
  | .ok _ _ => .no
  | .exc c fs ρ g' => .exc c fs ρ g'
  | .no => .no
theorem body_reads {N : List Str} {n : Nat} {b : SM} {vs : List V} {H : Hp} {Q : VK} {E : XK} (h : spM K ca n (defM N.length b) vs H Q E) : tS K ca (fun cls d _ H => E cls d H) b { nx := fun _ H' => Q .non H', rt := Q } (L2.start N vs) H := by
  obtain ⟨_, β, ι, ds, g, r, dvs, p⟩ := h
  refine ⟨β, ι, start0 N.length ds, g, r, SR.start dvs, ?_⟩
  unfold defM at p
  cases q : b (start0 N.length ds) g with
  | no => simp only [q] at p; exact p.elim
  | exc c fs ρ g' =>
    simp only [q] at p
    exact fun ι' σ' H' x e r' _ xa => p ι' H' x e r' xa
  | ok f g' =>
    simp only [q] at p
    cases f with
    | nx ρ => exact fun ι' σ' H' e r' _ => p ι' .non H' e r' (by unfold DR; rfl)
    | rt d => exact p
    | bk ρ => exact p.elim
    | ct ρ => exact p.elim
theorem guards_deeper {A : Around} (h : A.guards = some []) (env : Env) : (A.deeper env).guards = some [] := by
  first | exact h | (simpa [Around.deeper] using h)
/-- the rule for a def, by its body's derivation -/
theorem fnM {x qual : Str} {st : Stmt} {f : Addr} {fd : FuncData} {N ps : List Str} {k : Nat} {b : SM} (F : Fun K x qual st f fd) (S : FnScope N ps (defScope st))
    (hbody : ∀ (cdv : Value) (A : Around) (outer : List Env) (s : Shared) (H : Hp) (E : XK), Room k (A.deeper (envOfC qual (defScope st) s.heap.objs.size f cdv)) → (A.deeper (envOfC qual (defScope st) s.heap.objs.size f cdv)).guards = some [] →
      PSs (cxOf (L2.CX P w) P w K mg base N qual (defScope st) f cdv A outer s H E) (defBody st) (tS K ca (fun cls d _ H => E cls d H) b)) : FnG P w K mg base (k + 1) f fd ps (spM K ca ps.length (defM N.length b)) := by
  obtain ⟨oc, od, kV, doc, pm, an, cdv, ct, osl, rfl, lk, hcd⟩ := F.ex
  refine ⟨fun vs H Q E h => h.1, fun A outer s H args us vs Q E hr hgu e0 hb rel hsp => ?_⟩
  have hin : K.In s.heap := e0.mod.kin.keeps fun b o e => (e0.bs b o e).1
  have hli : s.heap.NoLimit := e0.mod.nolimit.keeps fun b o e => (e0.bs b o e).1
  refine codeAny_call_function hr.depth (hin _ _ lk) rfl S.co S.gen rfl (PySem.W.codeRec_of hin hcd) (hb _ _ _ _ ?_)
  refine wpAny_newFunctionEnv_cells S.kind (fun y hy => ?_) fun env he s1 xx => ?_
  · have hp := S.par y.1 (List.of_mem_zip (show (y.1, y.2) ∈ _ from hy)).1
    rcases hp with q | q
    · exact .inl q
    · exact .inr ⟨q, PySem.W.cellsFrom_some _ _ _ (.inl q)⟩
  subst he
  refine ⟨hli.keeps xx.toInCall.keep, codeAny_func ?_⟩
  have I := inv_start (CX := L2.CX P w) (P := P) (w := w) (E := E) S hr.hd e0 hsp.1 rel xx
  refine wpAny_mono ((hbody cdv A outer s H E (hr.deeper _) (guards_deeper hgu _)).run [] s1 (L2.start N vs) H _ I (body_reads hsp)) (fun fl s' hs => ?_) fun _ _ hs => hs
  cases fl with
  | ret u =>
    obtain ⟨v, σ', H', J, rv, q⟩ := hs
    exact ⟨v, H', J.os, J.bare, J.base, J.hok, rv, q⟩
  | next =>
    obtain ⟨σ', H', J, q⟩ := hs
    exact ⟨.non, H', J.os, J.bare, J.base, J.hok, rfl, q⟩
  | brk => obtain ⟨_, _, _, q⟩ := hs; exact q.elim
  | cont => obtain ⟨_, _, _, q⟩ := hs; exact q.elim
end

/-! ### calls -/
def callM (n : Nat) (f : FM) (na : AM) : EM := bindA na fun ds => fun ρ g => if ds.length = n then
    match f ds g with
    | .ok d g' => .ok d g'
    | .exc c fs _ g' => .exc c fs ρ g'
    | .no => .no
  else .no
section
variable {X : Cx} {ca : Str → Addr} {W : WX} {e : Expr} {es : List Expr} {pos : Pos} {na : AM}
def tCG (sp : Sp) (W : WX) (t : TA) : TE := fun σ H Q => t σ H fun vs H1 => sp vs H1 Q fun cls d H' => W cls d σ H'
theorem pe_callG {k : Nat} {x : Str} {p : Pos} {f : Addr} {fd : FuncData} {ps : List Str} {sp : Sp} {t : TA} (F : FnG X.prog X.w X.K X.mg X.base k f fd ps sp) (hr : Room k X.A) (hgu : X.A.guards = some []) (hg : Gl X x) (hm : X.mg x = some (.ref f)) (hk : PySem.W.keepIn X.K (.ref f) = true)
    (hb : Binds X.K fd ps []) (tk : Takes X W) (ha : PA X (e :: es) t) (hdb : (x == ("__debug__" : Str)) = false := by decide) (he : starEach (e :: es) X.env = (false, eval e X.env) :: starEach es X.env := by rfl) (hpl : (backTo pos (starEach es X.env)).any (·.1) = false := by rfl) :
    PE X (.Call (.Name x p) (e :: es) [] pos) (tCG sp W t) := by
  refine ⟨fun pins s σ H Q I h => wpAny_Call_Name_kw (ld_glob I hg hm (PySem.W.callWith_K (h₀ := X.base) I.ok.mod.kin hk (thn (ha.run pos pins s σ H _ I h) ?_) he hpl) hdb)⟩
  rintro us s1 ⟨vs, H1, I1, rel, q⟩
  refine ⟨I1.kIn, ?_⟩
  have hn : (us ++ []).length = ps.length := by
    rw [List.append_nil, ← rel.length]; exact F.len _ _ _ _ q
  have hbb := hb s1 us I1.kIn hn
  rw [List.append_nil] at hbb
  refine wpAny_call (codeAny_mono (F.run X.A X.stack s1 H1 ⟨us, []⟩ us vs Q _ hr hgu I1.env0 hbb rel q) fun res s' hq => ?_)
  cases res with
  | error er => exact tk er s' (XE.of_call I1 (fun _ _ _ z => z) hq)
  | ok fl =>
    cases fl with
    | ret u => exact I1.after hq
    | next => exact hq.elim
    | brk => exact hq.elim
    | cont => exact hq.elim
theorem call_reads {f : FM} {n : Nat} {σ : Sg} {H : Hp} {Q : VK} (h : tE X.K ca W (callM n f na) σ H Q) : tCG (spM X.K ca n f) W (tA X.K ca W na) σ H Q := by
  obtain ⟨β, ι, ρ, g, r, s, h⟩ := h
  refine (tA_bind r s h).mono fun vs H1 ⟨ι1, ds, g1, x1, r1, s1, dvs, h1⟩ => ?_
  by_cases c : ds.length = n
  · rw [if_pos c] at h1
    refine ⟨dvs.length.trans c, β, ι1, ds, g1, r1, dvs, ?_⟩
    cases q : f ds g1 with
    | no => simp only [q] at h1; exact h1
    | ok d g' => simp only [q] at h1; exact h1
    | exc cc fs ρ' g' =>
      simp only [q] at h1
      exact fun ι' H' x e' r' xa => h1 ι' σ H' x e' r' (s1.keep r1 e') xa
  · rw [if_neg c] at h1
    exact h1.elim
/-- f(e, ..) -/
theorem me_callG {k n : Nat} {x : Str} {p : Pos} {f : Addr} {fd : FuncData} {ps : List Str} {m : FM} (F : FnG X.prog X.w X.K X.mg X.base k f fd ps (spM X.K ca n m)) (hr : Room k X.A) (hgu : X.A.guards = some []) (hg : Gl X x) (hm : X.mg x = some (.ref f)) (hk : PySem.W.keepIn X.K (.ref f) = true)
    (hb : Binds X.K fd ps []) (tk : Takes X W) (ha : PA X (e :: es) (tA X.K ca W na)) (hdb : (x == ("__debug__" : Str)) = false := by decide) (he : starEach (e :: es) X.env = (false, eval e X.env) :: starEach es X.env := by rfl) (hpl : (backTo pos (starEach es X.env)).any (·.1) = false := by rfl) :
    PE X (.Call (.Name x p) (e :: es) [] pos) (tE X.K ca W (callM n m na)) := peOf (pe_callG F hr hgu hg hm hk hb tk ha hdb he hpl) fun _ _ _ h => call_reads h
end
end Mn

set_option Elab.async false
set_option linter.all false
set_option maxRecDepth 100000
set_option maxHeartbeats 4000000
/-! Exceptions. -/
namespace Mn
open PySem PySem.Spec PyProof.Rows L2

/-! ### defs called by FnOk -/
section
variable {P : Program} {w : World} {K : Fg} {mg : Str → Option Value} {base : Heap} {ca : Str → Addr}
theorem okM {x qual : Str} {st : Stmt} {f : Addr} {fd : FuncData} {N ps : List Str} {k : Nat} {b : SM} (F : Fun K x qual st f fd) (S : FnScope N ps (defScope st))
    (hbody : ∀ (cdv : Value) (A : Around) (outer : List Env) (s : Shared) (H : Hp) (E : XK), Room k (A.deeper (envOfC qual (defScope st) s.heap.objs.size f cdv)) →
      PSs (cxOf (L2.CX P w) P w K mg base N qual (defScope st) f cdv A outer s H E) (defBody st) (tS K ca (fun cls d _ H => E cls d H) b)) : FnOk P w K mg base (L2.CX P w) (k + 1) f fd ps (spM K ca ps.length (defM N.length b)) :=
  F.okX S (fun vs H Q E h => h.1) fun cdv A outer s H vs Q E hr hsp => ⟨_, hbody cdv A outer s H E hr, body_reads hsp⟩
end
section
variable {X : Cx} {ca : Str → Addr} {W : WX} {e : Expr} {es : List Expr} {pos : Pos} {na : AM}
theorem me_callO {k n : Nat} {x : Str} {p : Pos} {f : Addr} {fd : FuncData} {ps : List Str} {m : FM} (F : FnOk X.prog X.w X.K X.mg X.base (L2.CX X.prog X.w) k f fd ps (spM X.K ca n m)) (hr : Room k X.A) (hg : Gl X x) (hm : X.mg x = some (.ref f)) (hk : PySem.W.keepIn X.K (.ref f) = true)
    (hb : Binds X.K fd ps []) (tk : Takes X W) (ha : PA X (e :: es) (tA X.K ca W na)) (hdb : (x == ("__debug__" : Str)) = false := by decide) (he : starEach (e :: es) X.env = (false, eval e X.env) :: starEach es X.env := by rfl) (hpl : (backTo pos (starEach es X.env)).any (·.1) = false := by rfl) :
    PE X (.Call (.Name x p) (e :: es) [] pos) (tE X.K ca W (callM n m na)) := peOf (pe_callS F hr hg hm hk hb (fun σ => passAt tk σ) ha hdb he hpl) fun _ _ _ h => call_reads h
end

/-! ### an own error: class C: def __init__(self, at): self.at = told_plainly(at) -/
section
variable {K : Fg} {ca : Str → Addr}
def spI (K : Fg) (tm : FM) : Sp := fun vs H Q _ => ∃ a C x β ι g dd, vs = [.ref a, x] ∧ H a = some (exo a C none) ∧ OexC K C ∧ PySem.W.findIn K (.ref C) "at" = some none ∧ Rl K β ι g H ∧ DR K β ι H dd x ∧
  ∃ d' g', tm [dd] g = .ok d' g' ∧ ∀ ι' H' v dx, Ex ι H ι' H' → Rl K β ι' g' H' → DR K β ι' H' d' v → H' dx = none → dx ≠ a → Q .non (upd (upd H' dx (exd dx [(("at" : Str), v)])) a (exo a C (some dx)))
theorem ok_init {P : Program} {w : World} {mg : Str → Option Value} {base : Heap} {qual : Str} {st : Stmt} {f fT : Addr} {fd fdT : FuncData} {k : Nat} {tm : FM} {p1 p2 p3 p4 p5 p6 : Pos} (F : Fun K "__init__" qual st f fd) (S : FnScope ["self", "at"] ["self", "at"] (defScope st))
    (hb : defBody st = [.Assign [.Attribute (.Name "self" p1) "at" p2] (.Call (.Name "told_plainly" p3) [.Name "at" p4] [] p5) p6]) (hv1 : Vis (defScope st) "self") (hv2 : Vis (defScope st) "at") (hgl : (defScope st).names.lookup ("told_plainly" : Str) = some NameKind.globalImplicit)
    (FT : FnOk P w K mg base (L2.CX P w) k fT fdT ["thing"] (spM K ca 1 tm)) (gT : mg "told_plainly" = some (.ref fT)) (kT : PySem.W.keepIn K (.ref fT) = true) (bT : Binds K fdT ["thing"] []) :
    FnOk P w K mg base (L2.CX P w) (k + 1) f fd ["self", "at"] (spI K tm) := by
  refine F.okX S (fun vs H Q E h => ?_) fun cdv A outer s H vs Q E hr h => ?_
  · obtain ⟨a, C, x, _, _, _, _, rfl, _⟩ := h
    rfl
  · rw [hb]
    refine ⟨_, pss_one (ps_ost (pe_var (i := 0) rfl hv1) (pe_call FT hr hgl gT kT bT .nil passL (pa_cons (pe_var (i := 1) rfl hv2) pa_nil)) rfl), ?_⟩
    obtain ⟨a, C, x, β, ι, g, dd, rfl, ha, T, hno, r, dv, d', g', e, q⟩ := h
    refine ⟨x, rfl, rfl, β, ι, [dd], g, r, DRs.cons' dv DRs.nil', ?_⟩
    rw [e]
    intro ι' v H' xx r' dv'
    refine ⟨.ref a, rfl, a, C, rfl, T, hno, .inl ⟨?_, fun dx n1 n2 => q ι' H' v dx xx r' dv' n1 n2⟩⟩
    refine xx.fr a _ ha fun hm => ?_
    obtain ⟨_, o, ho, _, _, e1, e2⟩ := r.mem hm
    rw [ha] at e1
    cases e1
    cases o with
    | lst l => obtain ⟨_, z, _⟩ := e2; cases (show HO.ext _ = HO.lst _ from z)
    | dct l => obtain ⟨_, z, _⟩ := e2; cases (show HO.ext _ = HO.dK _ from z)
end
def raiseM (c : Str) (tm : FM) (na : AM) : SM := bindA na fun ds => fun ρ g => match ds with
  | [d] => match tm [d] g with
    | .ok d' g' => .exc c [("at", d')] ρ g'
    | _ => .no
  | _ => .no
section
variable {X : Cx} {ca : Str → Addr} {W : WX} {e : Expr} {pos : Pos} {na : AM}
/-- what the written part says of such a class -/
structure ErrC (K : Fg) (mg : Str → Option Value) (ca : Str → Addr) (c : Str) (fI : Addr) : Prop where
  g : mg c = some (.ref (ca c))
  ox : OexC K (ca c)
  no : PySem.W.findIn K (.ref (ca c)) "at" = some none
  ini : PySem.W.findIn K (.ref (ca c)) "__init__" = some (some (.ref fI))
  ty : PySem.W.typeIn K (.ref fI) = some (.type "function")
theorem ms_raise {k : Nat} {c : Str} {fI : Addr} {fd : FuncData} {tm : FM} {p p2 : Pos} (hc : X.calm = true) (tk : Takes X W) (T : ErrC X.K X.mg ca c fI) (F : FnOk X.prog X.w X.K X.mg X.base (L2.CX X.prog X.w) k fI fd ["self", "at"] (spI X.K tm)) (hr : Room (k + 1) X.A) (hb : Binds X.K fd ["self", "at"] [])
    (hg : Gl X c) (ha : PA X [e] (tA X.K ca W na)) (hdb : (c == ("__debug__" : Str)) = false := by decide) (he : starEach [e] X.env = (false, eval e X.env) :: starEach [] X.env := by rfl) (hpl : (backTo p2 (starEach [] X.env)).any (·.1) = false := by rfl) :
    PS X (.Raise (some (.Call (.Name c p) [e] [] p2)) none pos) (tS X.K ca W (raiseM c tm na)) :=
  psOf (ps_raise hc tk (pmk_oex T.ox T.ini T.ty F hr hb .nil passL hg T.g ha hdb he hpl)) fun E σ H ⟨β, ι, ρ, g, r, s, h⟩ => by
    refine (tA_bindS r s h).mono fun vs H1 ⟨ι1, ds, g1, x1, r1, s1, dvs, h1⟩ => ?_
    match ds, dvs, h1 with
    | [], _, h1 => exact h1.elim
    | _ :: _ :: _, _, h1 => exact h1.elim
    | [d], dvs, h1 =>
      obtain ⟨x, ev, dv⟩ := dvs.one
      subst ev
      refine ⟨by show 1 ≤ 1000; decide, fun a na' => ?_⟩
      cases q : tm [d] g1 with
      | no => simp only [q] at h1; exact h1.elim
      | exc cc fs ρ' g' => simp only [q] at h1; exact h1.elim
      | ok d' g' =>
        simp only [q] at h1
        have hxa : Ex ι1 H1 ι1 (upd H1 a (exo a (ca c) none)) := Ex.laid na'
        refine ⟨a, ca c, x, β, ι1, g1, d, rfl, upd_same, T.ox, T.no, r1.laid na', DR.keep r1 hxa _ _ dv, d', g', q, fun ι' H' v dx xx r' dv' n1 n2 => ⟨rfl, dx, [(("at" : Str), v)], upd_same, ?_, ?_, ?_⟩⟩
        · rw [upd_ne n2, upd_same]
        · cases z : H1 dx with
          | none => rfl
          | some o => exact absurd n1 (xx.dom dx (by rw [upd_ne n2, z]; simp))
        · -- the heap behind it all
          have hai : a ∉ ι1 := (r1.free na').1
          have ha' : H' a = some (exo a (ca c) none) := xx.fr a _ upd_same hai
          have hai' : a ∉ ι' := fun hm => by
            obtain ⟨_, o, ho, _, _, e1, e2⟩ := r'.mem hm
            rw [ha'] at e1
            cases e1
            cases o with
            | lst l => obtain ⟨_, y, _⟩ := e2; cases (show HO.ext _ = HO.lst _ from y)
            | dct l => obtain ⟨_, y, _⟩ := e2; cases (show HO.ext _ = HO.dK _ from y)
          have same : ∀ b, b ≠ a → b ≠ dx → upd (del (upd (upd H' dx (exd dx [(("at" : Str), v)])) a (exo a (ca c) (some dx))) a) dx (.xd [(("at" : Str), v)]) b = H' b := fun b h1 h2 => by
            rw [upd_ne h2, del_ne h1, upd_ne h1, upd_ne h2]
          have neA : ∀ {b : Addr} {o : HO}, H' b = some o → o ≠ exo a (ca c) none → b ≠ a := fun {b o} e1 e2 z => by
            subst z
            rw [ha'] at e1
            exact e2 (Option.some.inj e1).symm
          have neX : ∀ {b : Addr} {o : HO}, H' b = some o → b ≠ dx := fun e1 => ne_of_none e1 n1
          have ch : Chg X.K β ι' H' β ι' (upd (del (upd (upd H' dx (exd dx [(("at" : Str), v)])) a (exo a (ca c) (some dx))) a) dx (.xd [(("at" : Str), v)])) :=
            ⟨fun b ws hh => hh.elim (fun hh => .inl (by rw [same b (neA hh (by intro z; cases (show HO.tup _ = HO.ext _ from z))) (neX hh)]; exact hh)) .inr,
             fun b ws ⟨z1, z2, z3⟩ => ⟨z1, z2, by rw [same b (neA z3 (by intro z; cases (show HO.lst _ = HO.ext _ from z))) (neX z3)]; exact z3⟩,
             fun b ws hh => hh.elim (fun ⟨z1, o, z2⟩ => .inl ⟨z1, o, by rw [same b (neA z2 (by intro z; cases (show HO.frz _ _ = HO.ext _ from z))) (neX z2)]; exact z2⟩) .inr,
             fun _ _ z => z⟩
          have hset : ∀ b ∈ ι', upd (del (upd (upd H' dx (exd dx [(("at" : Str), v)])) a (exo a (ca c) (some dx))) a) dx (.xd [(("at" : Str), v)]) b = H' b := fun b hb => by
            refine same b (by rintro rfl; exact hai' hb) ?_
            rintro rfl
            obtain ⟨_, _, _, _, _, e1, _⟩ := r'.mem hb
            rw [n1] at e1; cases e1
          have xf : Ex ι1 H1 ι' (upd (del (upd (upd H' dx (exd dx [(("at" : Str), v)])) a (exo a (ca c) (some dx))) a) dx (.xd [(("at" : Str), v)])) := by
            refine ⟨?_, fun b o z1 z2 => ?_, fun b z1 => ?_⟩
            · obtain ⟨nw, e1, e2⟩ := xx.pre
              refine ⟨nw, e1, fun b hb => ?_⟩
              have z := e2 b hb
              by_cases y : b = a
              · rw [y]; exact na'
              · rw [upd_ne y] at z; exact z
            · have y : b ≠ a := ne_of_none z1 na'
              have z3 := xx.fr b o (by rw [upd_ne y]; exact z1) z2
              rw [same b y (neX z3)]
              exact z3
            · have y : b ≠ a := by rintro rfl; exact z1 na'
              have z3 := xx.dom b (by rw [upd_ne y]; exact z1)
              have y2 : b ≠ dx := by rintro rfl; exact z3 n1
              rw [same b y y2]
              exact z3
          refine h1 ι' σ _ dx xf (r'.chg ch hset fun b hb => ⟨(r'.bt b hb).1, ?_⟩) ((s1.keep r1 (hxa.trans xx)).chg ch) ⟨_, upd_same, ?_⟩
          · have y : b ≠ a := by
              rintro rfl
              exact (r1.bt _ hb).2 na'
            have y2 : b ≠ dx := by rintro rfl; exact (r'.bt _ hb).2 n1
            rw [same b y y2]
            exact (r'.bt b hb).2
          · unfold FR
            exact ⟨v, [], rfl, DR.chg ch _ _ dv', by unfold FR; rfl⟩
end

/-! ### try: several clauses, each with or without a name -/
/-- behind a suite its name's slot is empty -/
def Ends.cut (E : Ends) (i : Nat) : Ends := { nx := fun σ H => E.nx (σ.set i none) H, rt := E.rt, bk := fun σ H => E.bk (σ.set i none) H, ct := fun σ H => E.ct (σ.set i none) H }
structure Cl where
  c : Value
  slot : Option Nat
  ts : Addr → Value → Option Addr → TS
def Cl.goes (h : Cl) (a : Addr) (cls : Value) (d : Option Addr) (E : Ends) (σ : Sg) (H : Hp) : Prop := match h.slot with
  | none => h.ts a cls d E σ H
  | some i => h.ts a cls d (Ends.cut E i) (σ.set i (some (.ref a))) H
def wCls (K : Fg) (Wo : WX) (E : Ends) : List Cl → WX
  | [] => Wo
  | h :: r => fun cls d σ H => ∃ b, PySem.W.exmOne K cls h.c = some b ∧ (b = true → ∀ a, H a = none → h.goes a cls d E σ H) ∧ (b = false → wCls K Wo E r cls d σ H)
inductive ClsOk (X : Cx) : List ExceptHandler → List Cl → Prop
  | nil : ClsOk X [] []
  | bare {x : Str} {c : Value} {ts : Addr → Value → Option Addr → TS} {b₀ : Stmt} {suite : List Stmt} {np pos' : Pos} {hds : List ExceptHandler} {l : List Cl} (hc : Names X x c)
      (hsu : ∀ (a : Addr) (oe : Obj) (cls : Value) (d : Option Addr) (pn : List (Addr × Obj)), Zc cls d oe → (∃ vs, oe.data = .fields vs) → PSs (X.suite a ((a, oe) :: pn)) (b₀ :: suite) (ts a cls d)) (r : ClsOk X hds l) :
      ClsOk X (.ExceptHandler (some (.Name x np)) none (b₀ :: suite) pos' :: hds) (⟨c, none, ts⟩ :: l)
  | named {x n : Str} {i : Nat} {c : Value} {ts : Addr → Value → Option Addr → TS} {b₀ : Stmt} {suite : List Stmt} {np pos' : Pos} {hds : List ExceptHandler} {l : List Cl} (hc : Names X x c) (hi : X.N[i]? = some n) (hln : X.env.kindOf n = some .local)
      (hsu : ∀ (a : Addr) (oe : Obj) (cls : Value) (d : Option Addr) (pn : List (Addr × Obj)), Zc cls d oe → (∃ vs, oe.data = .fields vs) → PSs (X.suite a ((a, oe) :: pn)) (b₀ :: suite) (ts a cls d)) (r : ClsOk X hds l) :
      ClsOk X (.ExceptHandler (some (.Name x np)) (some n) (b₀ :: suite) pos' :: hds) (⟨c, some i, ts⟩ :: l)
section
variable {X : Cx} {body : List Stmt} {h₀ : ExceptHandler} {hds : List ExceptHandler} {l : List Cl} {pos : Pos} {tb : WX → TS} {Wo : WX}
/-- what is wanted of an exception that comes out of the body -/
def caught (X : Cx) (pins : List (Addr × Obj)) (E : Ends) (hds : List ExceptHandler) (u : Value) (s1 : Shared) : Prop :=
  wpAny (model X.prog X.w) X.A (noteFrame u X.env)
    (fun _ s2 => wpAny (model X.prog X.w) X.A (setFlight u none)
      (fun _ s3 => wpAny (model X.prog X.w) X.A (handleBy u X.env hds) (SP X pins E) X.xe s3) X.xe s2) X.xe s1
theorem ps_tryC (hs : X.stack = X.env :: X.outer) (hf : X.env.frame = some X.env.locals) (hN : X.N.Nodup) (tk : Takes X Wo)
    (hb : ∀ (W : WX) (pn : List (Addr × Obj)) (xe : Value → Shared → Prop), Takes (X.tr pn xe) W → PassesOwn (model X.prog X.w) X.A X.env xe → PSs (X.tr pn xe) body (tb W))
    (hh : ClsOk X (h₀ :: hds) l) : PS X (.Try body (h₀ :: hds) [] [] pos) (fun E σ H => tb (wCls X.K Wo E l) E σ H) := by
  constructor
  intro pins s σ H E I h
  have okX := I.ok
  have frX : X.A.frames = some (X.env :: X.outer) := by rw [okX.frames, hs]
  have bodyR := (hb (wCls X.K Wo E l) (X.pn ++ pins) (caught X pins E (h₀ :: hds)) (fun u s' xx => ?taken) PassesOwn.looking).run [] s σ H E (I.toTry _) h
  case taken =>
    obtain ⟨a, B, sI, pins', σ', H', cls, d, rfl, J', nb, up, sky, na, os, ag, w⟩ := xx
    have J : Inv X pins σ' H' sI := J'.ofTry okX
    unfold caught
    have skyX : Sky B (X.env :: X.outer) a (Zc cls d) X.env.locals s'.heap := hs ▸ sky
    refine Sky.land Zc.steady frX hf skyX fun h3 fl3 up3 => ?_
    have J3 : Inv X pins σ' H' { s' with heap := h3 } := J.landed nb fl3.1 (up.trans up3) os ag
    obtain ⟨oe3, vs3, he3, hz3, hd3⟩ := fl3.there
    have offStack : a ∉ frs (X.env :: X.outer) := fun hm => by
      obtain ⟨_, o', e', hnf⟩ := fl3.2.2.1.mem hm
      rw [he3] at e'
      cases e'
      exact hnf _ hd3
    have nL : a ≠ X.env.locals := fun z => offStack (List.mem_filterMap.mpr ⟨X.env, List.mem_cons_self, by rw [hf, z]⟩)
    have nF : a ∉ X.fs := fun hm => by
      obtain ⟨e, he, q⟩ := List.mem_filterMap.mp hm
      exact offStack (List.mem_filterMap.mpr ⟨e, List.mem_cons_of_mem _ he, q⟩)
    have S3 := J3.suite he3 hd3 na nL nF
    have LT : PySem.W.Looks (model X.prog X.w) h3 (typeOf (.ref a)) cls := fun A Q E s k q => wpAny_typeOf_ref (k _ _ he3) (by rw [hz3.1]; exact q)
    have clause : ∀ {x : Str} {np : Pos} {c : Value} {Q E : Value → Shared → Prop}, Names X x c → Q c { s' with heap := h3 } → wpAny (model X.prog X.w) (X.A.mark (some (.ref a))) (eval (.Name x np) X.env) Q E { s' with heap := h3 } := by
      rintro x np c Q E ⟨hg, hdbg, hm | ⟨hm, hv, hnn⟩⟩ q
      · exact ld_glob (X := X.suite a ((a, oe3) :: (X.pn ++ pins))) S3 hg hm q hdbg
      · exact ld_blt (X := X.suite a ((a, oe3) :: (X.pn ++ pins))) S3 hg hm hv q hnn hdbg
    have go : ∀ {hds' : List ExceptHandler} {l' : List Cl}, ClsOk X hds' l' → wCls X.K Wo E l' cls d σ' H' → wpAny (model X.prog X.w) X.A (handleBy (.ref a) X.env hds') (SP X pins E) X.xe { s' with heap := h3 } := by
      intro hds' l' hk
      induction hk with
      | nil =>
        intro w
        refine wpAny_handleBy_nil ?_
        obtain ⟨k1, k2, k3, oe, vs, T, oT, ts', he, hz, hd, h1, hr⟩ := id fl3
        unfold PySem.passOn
        refine wpAny_bind (wpAny_field he hd h1 ?_)
        rw [if_neg (by simp)]
        have out : wpAny (model X.prog X.w) X.A (setFlight (.ref a) X.env.frame) (fun _ s4 => wpAny (model X.prog X.w) X.A (throw (.ref a) : Sem Flow) (SP X pins E) X.xe s4) X.xe { s' with heap := h3 } := by
          rw [hf]
          exact HandSPX.setFlight_upZ fl3 fun h4 hh4 up4 => wpAny_throw (tk _ _ ⟨a, B, sI, pins, σ', H', cls, d, rfl, J, nb, (up.trans up3).trans up4, .inr (.inr (hs ▸ hh4)), na, os, ag, w⟩)
        first
          | exact wpAny_bind (wpAny_pure (wpAny_bind out))
          | exact wpAny_bind out
      | @bare x c ts b₀ suite np pos' hds2 l2 hc hsu r ih =>
        rintro ⟨b, hb1, hyes, hno⟩
        refine wpAny_handleBy_cons (codeAny_handlers_test ?_) nofun
        refine clause hc ((PySem.W.exm_one (M := model X.prog X.w) J3.kIn LT hb1).here ?_)
        cases b with
        | false => exact ih (hno rfl)
        | true =>
          refine codeAny_handlers_suite (HandSPX.lands_againZ fl3 fun h4 fl4 up4 => ?_)
          have J4 : Inv X pins σ' H' { s' with heap := h4 } := J.landed nb fl4.1 ((up.trans up3).trans up4) os ag
          obtain ⟨oe4, vs4, he4, hz4, hd4⟩ := fl4.there
          have hyes' : ts a cls d E σ' H' := hyes rfl a na
          refine wpAny_mono ((hsu a oe4 cls d (X.pn ++ pins) hz4 ⟨_, hd4⟩).run [] _ _ H' _ (J4.suite he4 hd4 na nL nF) hyes') (fun f s6 hsp => ?_) (fun _ _ z => z.elim)
          cases f with
          | next => obtain ⟨_, _, S6, q6⟩ := hsp; exact ⟨_, _, S6.unsuite okX, q6⟩
          | brk => obtain ⟨_, _, S6, q6⟩ := hsp; exact ⟨_, _, S6.unsuite okX, q6⟩
          | cont => obtain ⟨_, _, S6, q6⟩ := hsp; exact ⟨_, _, S6.unsuite okX, q6⟩
          | ret u => obtain ⟨_, _, _, S6, r6, q6⟩ := hsp; exact ⟨_, _, _, S6.unsuite okX, r6, q6⟩
      | @named x n i c ts b₀ suite np pos' hds2 l2 hc hi hln hsu r ih =>
        rintro ⟨b, hb1, hyes, hno⟩
        refine wpAny_handleBy_cons (codeAny_handlers_test ?_) nofun
        refine clause hc ((PySem.W.exm_one (M := model X.prog X.w) J3.kIn LT hb1).here ?_)
        cases b with
        | false => exact ih (hno rfl)
        | true =>
          refine codeAny_handlers_suite_as (HandSPX.lands_againZ fl3 fun h4 fl4 up4 => ?_)
          have J4 : Inv X pins σ' H' { s' with heap := h4 } := J.landed nb fl4.1 ((up.trans up3).trans up4) os ag
          obtain ⟨oe4, vs4, he4, hz4, hd4⟩ := fl4.there
          refine store_ok (X := X.suite a ((a, oe4) :: (X.pn ++ pins))) (v := .ref a) (J4.suite he4 hd4 na nL nF) hN hi (.inl hln) rfl (fun s5 S5 => ?_) (.inr hln)
          have hyes' : ts a cls d (Ends.cut E i) (σ'.set i (some (.ref a))) H' := hyes rfl a na
          refine wpAny_mono ((hsu a oe4 cls d (X.pn ++ pins) hz4 ⟨_, hd4⟩).run [] s5 _ H' _ S5 hyes') (fun f s6 hsp => ?_) (fun _ _ z => z.elim)
          cases f with
          | next => obtain ⟨_, _, S6, q6⟩ := hsp; exact gone_ok (S6.unsuite okX) hN hi hln fun s7 J7 => ⟨_, _, J7, q6⟩
          | brk => obtain ⟨_, _, S6, q6⟩ := hsp; exact gone_ok (S6.unsuite okX) hN hi hln fun s7 J7 => ⟨_, _, J7, q6⟩
          | cont => obtain ⟨_, _, S6, q6⟩ := hsp; exact gone_ok (S6.unsuite okX) hN hi hln fun s7 J7 => ⟨_, _, J7, q6⟩
          | ret u => obtain ⟨_, _, _, S6, r6, q6⟩ := hsp; exact gone_ok (S6.unsuite okX) hN hi hln fun s7 J7 => ⟨_, _, _, J7, r6, q6⟩
    exact go hh w
  refine wpAny_Try_except (wpAny_mono bodyR (fun f s1 hsp => ?_) fun e s1 he => he)
  cases f with
  | next => obtain ⟨_, _, J', q⟩ := hsp; exact wpAny_execs_nil ⟨_, _, J'.ofTry okX, q⟩
  | brk => obtain ⟨_, _, J', q⟩ := hsp; exact ⟨_, _, J'.ofTry okX, q⟩
  | cont => obtain ⟨_, _, J', q⟩ := hsp; exact ⟨_, _, J'.ofTry okX, q⟩
  | ret u => obtain ⟨_, _, _, J', r, q⟩ := hsp; exact ⟨_, _, _, J'.ofTry okX, r, q⟩
end
end Mn

set_option Elab.async false
set_option linter.all false
set_option maxRecDepth 100000
set_option maxHeartbeats 4000000
/-! isinstance of an exception that has its own dict; try by the mirror; suites. -/
namespace Mn
open PySem PySem.Spec PyProof.Rows L2
open PySem.W in
section
variable {prog : Program} {w : World} {A : Around} {E : Value → Shared → Prop} {K : Fg} {x D : Addr} {ox : Obj} {od : Option Obj}
/-- __class__ of an exception: found on the class, ahead of the own dict -/
theorem fo_class {C : Addr} {nm : Str} {a gt : Value} (h1 : (clsIn K C).isSome = true) (h2 : findIn K (.ref C) nm = some (some a)) (h3 : specialIn K a "__get__" = some (some gt)) (h4 : takesIn K a = some true) :
    findObj K C od nm = some (.bind gt a) := by
  cases q : clsIn K C with
  | none => rw [q] at h1; cases h1
  | some cd =>
    show (clsIn K C).bind _ = _
    rw [q]; show (findIn K (.ref C) nm).bind _ = _
    rw [h2]; show Option.bind _ _ = _
    simp [h3, h4]
theorem exc_class {Q : Option Value → Shared → Prop} {s : Shared} (T : ExcC K D) (hin : K.In s.heap) (I : InstAt s.heap x ox D od)
    (q : Q (some (.ref D)) { s with toks := s.toks + 1 }) : wpAny (model prog w) A (getAttr? (.ref x) "__class__") Q E s := by
  have some1 : (clsIn K D).isSome = true := by obtain ⟨cd, e, _⟩ := any_some T.hd; rw [e]; rfl
  have hfo := fo_class (od := od) some1 T.ha T.hn T.ht
  obtain ⟨hp, gg, dr, tt, os⟩ := s
  have t0 := I.type (M := model prog w); have t1 := looks_findIn (M := model prog w) hin T.hg
  have t2 := looks_findIn (M := model prog w) hin T.hk; have t3 := looks_find (M := model prog w) hin I hfo
  have below : Looks (model prog w) hp (isInstance (.ref x) (.type "BaseException")) true := t0.andThen (looks_subIn hin T.hs)
  have k2 : (Value.builtin "BaseException.__getattribute__" == .builtin "object.__getattribute__") = false := by decide +kernel
  have k1 : (onTheHeap (.ref D) && Value.builtin "BaseException.__getattribute__" == .builtin "object.__getattribute__") = false := by rw [k2]; rfl
  have k0 : (false && onTheHeap (.builtin "BaseException.__getattribute__")) = false := rfl
  unfold getAttr?; unfold getAttrBy?; unfold getAttrBy
  refine wpAny_bind (wpAny_mkText (wpAny_bind (wpAny_attempt (wpAny_holding (wpAny_bind (t0.at (wpAny_bind (t1.at ?start))))))))
  case start =>
    show wpAny _ _ (if (onTheHeap (.ref D) && Value.builtin "BaseException.__getattribute__" == .builtin "object.__getattribute__") = true then _ else _) _ _ _
    rw [if_neg (by rw [k1]; decide)]
    unfold getAttrByItsOwn; unfold hookBefore
    refine wpAny_bind ?_
    rw [if_pos (by rfl : onTheHeap (.ref D) = true)]
    refine t2.at (wpAny_bind (wpAny_attempt (wpAny_holding ?_)))
    unfold callGetattribute; rw [if_neg (by rw [k0]; decide)]
    unfold boundAndCalled; rw [PySem.F.excAttr_ValueError.ga.bind (.ref x)]
    refine wpAny_bind (wpAny_pure ?_)
    show wpAny _ _ (call (.builtin "BaseException.__getattribute__") [.ref x, .str "__class__" tt]) _ _ _
    refine wpAny_call (codeAny_call_builtin PySem.F.excAttr_ValueError.ga.plain PySem.F.entry_bexc_ga (@check_slot (model prog w) _ _ ⟨hp, gg, dr, tt + 1, os⟩ "BaseException.__getattribute__" "BaseException" "__getattribute__" (.ref x) [.str "__class__" tt] [] _ (by decide +kernel) (by decide +kernel) below (PySem.F.args_bexc_ga (.ref x) (.str "__class__" tt)) ?_))
    unfold Builtin.«object.__getattribute__»
    refine wpAny_bind (wpAny_of_eq (a := ((Value.ref x : Value), [Value.str "__class__" tt])) (by first | rfl | (simp only [slotArgs]; rfl)) (wpAny_bind (wpAny_pure (wpAny_bind (t0.at (wpAny_bind (t3.at ?_)))))))
    show wpAny _ _ (holding [Value.builtin "object.__class__"] (call (.builtin "getset_descriptor.__get__") [.builtin "object.__class__", .ref x, .ref D]) >>= ret) _ _ _
    refine wpAny_bind (wpAny_holding (wpAny_call (class_get (s := ⟨hp, gg, dr, tt + 1, os⟩) (ox := ox) (od := od) hin I T.hm (wpAny_pure ?_))))
    show wpAny _ _ (handedOut (.ref D)) _ _ _
    rw [show handedOut (.ref D) = _ from handedOut_of (v := .ref D) rfl]
    first
      | exact wpAny_pure (wpAny_pure q)
      | exact wpAny_pure q
      | exact wpAny_pure (wpAny_bind (wpAny_pure (wpAny_pure q)))
theorem kitx_err (T : ExcC K D) : KitX K (.ref x) (.ref D) fun h => InstAt h x ox D od := by
  obtain ⟨cdD, hcD, _⟩ := any_some T.hd
  refine ⟨fun _ _ _ I => I.type, fun M h hin _ => ?_, fun h tp dd its n sl hin htp => ?_, fun hin I q => exc_class T hin I q⟩
  · unfold clsIn at hcD
    split at hcD
    · rename_i ho
      intro A' Q' E' s' k q; unfold isType; unfold loadHead
      exact wpAny_bind (wpAny_loadPart (k _ _ (hin _ _ ho)) (wpAny_pure q))
    · cases hcD
  · refine Bool.eq_false_iff.mpr fun q => ?_
    have e : D = tp := Value.ref.inj (beq_iff_eq.mp q)
    subst e
    unfold clsIn at hcD
    split at hcD
    · rename_i ho
      have z := (hin _ _ ho).symm.trans htp
      cases z
    · cases hcD
end

/-! ### what a suite's parts read: the exception's class c, its fields fs, in slot i -/
def tEx (K : Fg) (ca : Str → Addr) (i : Nat) (a x : Addr) (fs : List (Str × D)) (m : EM) : TE := fun σ H Q => ∃ β ι ρ g, Rl K β ι g H ∧ SR K β ι H ρ σ ∧ σ[i]? = some (some (.ref a)) ∧ XAt K β ι H x fs ∧ Post K β ca W0 (fun ι' H' d v => DR K β ι' H' d v) ι H (m ρ g) Q
def tAx (K : Fg) (ca : Str → Addr) (i : Nat) (a x : Addr) (fs : List (Str × D)) (m : AM) : TA := fun σ H Q => ∃ β ι ρ g, Rl K β ι g H ∧ SR K β ι H ρ σ ∧ σ[i]? = some (some (.ref a)) ∧ XAt K β ι H x fs ∧ Post K β ca W0 (fun ι' H' ds vs => DRs K β ι' H' ds vs) ι H (m ρ g) Q
def tSx (K : Fg) (ca : Str → Addr) (i : Nat) (a x : Addr) (fs : List (Str × D)) (m : SM) : TS := fun E σ H => ∃ β ι ρ g, Rl K β ι g H ∧ SR K β ι H ρ σ ∧ σ[i]? = some (some (.ref a)) ∧ XAt K β ι H x fs ∧ PostS K β ca W0 ι H (m ρ g) E
section
variable {K : Fg} {ca : Str → Addr} {β ι ι' : List Addr} {g : G} {H H' : Hp} {i : Nat} {a x : Addr} {fs : List (Str × D)}
theorem XAt.keep (r : Rl K β ι g H) (e : Ex ι H ι' H') (h : XAt K β ι H x fs) : XAt K β ι' H' x fs := by
  obtain ⟨ws, hw, fr⟩ := h
  refine ⟨ws, e.fr x _ hw fun hm => ?_, FR.keep r e _ _ fr⟩
  obtain ⟨_, o, ho, _, _, e1, e2⟩ := r.mem hm
  rw [hw] at e1
  cases e1
  cases o with
  | lst l => obtain ⟨_, y, _⟩ := e2; cases y
  | dct l => obtain ⟨_, y, _⟩ := e2; cases y
theorem FR.look : ∀ {l : List (Str × D)} {ws : List (Str × V)} (f : Str), FR K β ι H l ws → (l.lookup f = none ∧ ws.lookup f = none) ∨ ∃ d v, l.lookup f = some d ∧ ws.lookup f = some v ∧ DR K β ι H d v
  | [], ws, f, h => by unfold FR at h; subst h; exact .inl ⟨rfl, rfl⟩
  | p :: l, ws, f, h => by
    unfold FR at h
    obtain ⟨v, us, e, q1, q2⟩ := h
    subst e
    obtain ⟨n, d⟩ := p
    by_cases c : f = n
    · subst c
      exact .inr ⟨d, v, by simp [List.lookup], by simp [List.lookup], q1⟩
    · have e1 : (f == n) = false := by simpa using c
      have e2 : List.lookup f ((n, d) :: l) = List.lookup f l := by simp [List.lookup, e1]
      have e3 : List.lookup f ((n, v) :: us) = List.lookup f us := by simp [List.lookup, e1]
      rw [e2]
      show (_ ∧ List.lookup f ((n, v) :: us) = none) ∨ ∃ d' v', _ ∧ List.lookup f ((n, v) :: us) = some v' ∧ _
      rw [e3]
      exact FR.look f q2
end
section
variable {X : Cx} {ca : Str → Addr} {i : Nat} {a x : Addr} {fs : List (Str × D)} {e : Expr} {es : List Expr} {pos : Pos} {m : EM} {n : AM}
theorem mx_of (h : PE X e (tE X.K ca W0 m)) : PE X e (tEx X.K ca i a x fs m) := peOf h fun σ H Q ⟨β, ι, ρ, g, r, s, _, _, p⟩ => ⟨β, ι, ρ, g, r, s, p⟩
theorem mx_nil : PA X [] (tAx X.K ca i a x fs nilA) := paOf pa_nil fun σ H Q ⟨β, ι, ρ, g, r, s, _, _, h⟩ => h ι [] H (Ex.refl _ _) r DRs.nil'
theorem tEx_bind {K : Fg} {α γ : Type} {R : List Addr → Hp → α → γ → Prop} {m : EM} {f : D → Rho → G → Res α} {σ : Sg} {β ι : List Addr} {ρ : Rho} {g : G} {H : Hp} {Q : γ → Hp → Prop} {T : V → Hp → Prop} (r : Rl K β ι g H) (s : SR K β ι H ρ σ) (sl : σ[i]? = some (some (.ref a))) (xa : XAt K β ι H x fs)
    (h : Post K β ca W0 R ι H (bindE m f ρ g) Q) (hT : ∀ v H1 ι1 d g1, Ex ι H ι1 H1 → Rl K β ι1 g1 H1 → SR K β ι1 H1 ρ σ → XAt K β ι1 H1 x fs → DR K β ι1 H1 d v → Post K β ca W0 R ι1 H1 (f d ρ g1) Q → T v H1) : tEx K ca i a x fs m σ H T := by
  refine ⟨β, ι, ρ, g, r, s, sl, xa, ?_⟩
  unfold bindE at h
  cases q : m ρ g with
  | ok d g1 => rw [q] at h; exact fun ι1 v H1 x1 r1 dv => hT v H1 ι1 d g1 x1 r1 (s.keep r x1) (xa.keep r x1) dv (Post.from x1 h)
  | exc c fs' ρ' g1 => rw [q] at h; exact h
  | no => rw [q] at h; exact h
theorem tAx_bind {K : Fg} {α γ : Type} {R : List Addr → Hp → α → γ → Prop} {m : AM} {f : List D → Rho → G → Res α} {σ : Sg} {β ι : List Addr} {ρ : Rho} {g : G} {H : Hp} {Q : γ → Hp → Prop} {T : List V → Hp → Prop} (r : Rl K β ι g H) (s : SR K β ι H ρ σ) (sl : σ[i]? = some (some (.ref a))) (xa : XAt K β ι H x fs)
    (h : Post K β ca W0 R ι H (bindA m f ρ g) Q) (hT : ∀ v H1 ι1 d g1, Ex ι H ι1 H1 → Rl K β ι1 g1 H1 → SR K β ι1 H1 ρ σ → XAt K β ι1 H1 x fs → DRs K β ι1 H1 d v → Post K β ca W0 R ι1 H1 (f d ρ g1) Q → T v H1) : tAx K ca i a x fs m σ H T := by
  refine ⟨β, ι, ρ, g, r, s, sl, xa, ?_⟩
  unfold bindA at h
  cases q : m ρ g with
  | ok d g1 => rw [q] at h; exact fun ι1 v H1 x1 r1 dv => hT v H1 ι1 d g1 x1 r1 (s.keep r x1) (xa.keep r x1) dv (Post.from x1 h)
  | exc c fs' ρ' g1 => rw [q] at h; exact h
  | no => rw [q] at h; exact h
theorem mx_cons (h1 : PE X e (tEx X.K ca i a x fs m)) (h2 : PA X es (tAx X.K ca i a x fs n)) (hs : starEach (e :: es) X.env = (false, eval e X.env) :: starEach es X.env := by rfl) : PA X (e :: es) (tAx X.K ca i a x fs (consA m n)) :=
  paOf (pa_cons h1 h2 hs) fun σ H Q ⟨β, ι, ρ, g, r, s, sl, xa, h⟩ => tEx_bind r s sl xa h fun v H1 ι1 d g1 x1 r1 s1 xa1 dv h1 => tAx_bind r1 s1 sl xa1 h1 fun vs H2 ι2 ds g2 x2 r2 s2 xa2 dvs h2 =>
    h2 ι2 _ H2 (Ex.refl _ _) r2 (DRs.cons' (dv.keep r1 x2 _ _) dvs)
theorem mx_tup {k : Nat} (h : PA X es (tAx X.K ca i a x fs n)) : PE X (.Tuple es k pos) (tEx X.K ca i a x fs (tupM n)) := peOf (pe_tup h) fun σ H Q ⟨β, ι, ρ, g, r, s, sl, xa, h⟩ => tAx_bind r s sl xa h fun vs H1 ι1 ds g1 x1 r1 s1 xa1 dvs h1 => by
  by_cases c : ds.length ≤ LIM
  · rw [if_pos c] at h1
    exact ⟨by rw [dvs.length]; exact Nat.le_trans c lim_line, fin_t (own := false) r1 dvs h1⟩
  · rw [if_neg c] at h1
    exact h1.elim
theorem mxs_set {j : Nat} {nm : Str} {pos' : Pos} (hN : X.N.Nodup) (hi : X.N[j]? = some nm) (hx : Loc X.env.scope nm) (he : PE X e (tEx X.K ca i a x fs m)) (hs : swapsWith e (some (.Name nm pos')) pos.line X.env = pure false := by rfl)
    (hf : X.fn nm = true ∨ X.env.scope.names.lookup nm = some .local := by first | exact .inl rfl | exact .inr rfl | assumption) : PS X (.Assign [.Name nm pos'] e pos) (tSx X.K ca i a x fs (setM j m)) := psOf (ps_set hN hi hx he hs hf) fun E σ H ⟨β, ι, ρ, g, r, s, sl, xa, h⟩ => by
  refine ⟨β, ι, ρ, g, r, s, sl, xa, ?_⟩
  unfold setM bindE at h
  cases q : m ρ g with
  | ok d g1 =>
    rw [q] at h
    exact fun ι1 v H1 x1 r1 dv => h ι1 _ H1 x1 r1 ((s.keep r x1).set dv j)
  | exc c fs' ρ' g1 => rw [q] at h; exact h
  | no => rw [q] at h; exact h
/-- error.f -/
def fldX (fs : List (Str × D)) (f : Str) : EM := fun _ g => match fs.lookup f with
  | some d => .ok d g
  | none => .no
end
section
variable {X : Cx} {ca : Str → Addr} {i : Nat} {a x : Addr} {c : Str} {fs : List (Str × D)} {e : Expr} {pos : Pos} {oe : Obj} {pn : List (Addr × Obj)}
theorem mx_fld {f nm : Str} {p : Pos} (T : XfC X.K (ca c)) (hno : PySem.W.findIn X.K (.ref (ca c)) f = some none) (hz : Zc (.ref (ca c)) (some x) oe) (hf : ∃ vs, oe.data = .fields vs) (hi : X.N[i]? = some nm) (hv : Vis X.env.scope nm)
    (hb : attributeBase (.Name nm p) f X.env (eval (.Name nm p) X.env) = eval (.Name nm p) X.env := by rfl) (hd : (nm == ("__debug__" : Str)) = false := by decide) (hcd : (nm == ("__classdict__" : Str)) = false := by decide) :
    PE (X.suite a ((a, oe) :: pn)) (.Attribute (.Name nm p) f pos) (tEx X.K ca i a x fs (fldX fs f)) :=
  peOf (pe_xf (X := X) T hno hz hf (pe_var (X := X.suite a ((a, oe) :: pn)) (i := i) hi hv hd hcd) hb) fun σ H Q ⟨β, ι, ρ, g, r, s, sl, ⟨ws, hw, fr⟩, h⟩ => by
    unfold fldX at h
    rcases fr.look f with ⟨e1, _⟩ | ⟨d, v, e1, e2, dv⟩
    · simp only [e1] at h; exact h.elim
    · simp only [e1] at h
      exact ⟨_, sl, rfl, rfl, x, ws, v, rfl, hw, e2, h ι v H (Ex.refl _ _) r dv⟩
/-- isinstance(error, C), isinstance(error, (C, ..)): the answer b is the classes' own -/
theorem callE {b : Bool} (T : ExcC X.K (ca c)) (hz : Zc (.ref (ca c)) (some x) oe) (hf : ∃ vs, oe.data = .fields vs) {cv : Value} {cw : V} (hcv : RelV cw cv) (hu : ∀ u, RelV cw u → u = cv) (hk : PySem.W.kitOne X.K (.ref (ca c)) cv = some b) :
    CallR (X.suite a ((a, oe) :: pn)) (.builtin "isinstance") (fun xs H Q => xs = [.ref a, cw] ∧ (∃ ws, H x = some (.xd ws)) ∧ Q (.bl b) H) := by
  intro pins s σ H xs us Q I rel h
  obtain ⟨rfl, ⟨ws, hw⟩, q⟩ := h
  cases rel with
  | cons rx rr =>
    cases rr with
    | cons rt rr =>
      cases rr
      cases rx
      have e0 := hu _ rt
      subst e0
      obtain ⟨hget, _⟩ := I.pin (a, oe) (List.mem_append.mpr (.inl List.mem_cons_self))
      obtain ⟨vs, hv⟩ := hf
      have hx : ObjOk X.prog X.w H s.heap x (.xd ws) := I.hok x _ hw
      obtain ⟨mA, hns, _⟩ := hx
      obtain ⟨od, ho, _⟩ := lookIn_ns hns
      have J : PySem.W.InstAt s.heap a oe (ca c) (some od) := ⟨hget, hz.1, by unfold PySem.W.notCls; rw [hv] <;> rfl, by rw [hz.2]; exact ho⟩
      exact PySem.W.kia_one (kitx_err T) I.kIn J hk nofun fun tk => ⟨.bl b, H, I.kept (t' := tk) fun _ _ z => z, rfl, q⟩
theorem callEs {b : Bool} (T : ExcC X.K (ca c)) (hz : Zc (.ref (ca c)) (some x) oe) (hf : ∃ vs, oe.data = .fields vs) {cws : List V} {cvs : List Value} (hp : Paired ClsV cws cvs) (hk : PySem.W.kitAny X.K (.ref (ca c)) cvs = some b) :
    CallR (X.suite a ((a, oe) :: pn)) (.builtin "isinstance") (fun xs H Q => ∃ tp, xs = [.ref a, .ref tp] ∧ H tp = some (.tup cws) ∧ (∃ ws, H x = some (.xd ws)) ∧ Q (.bl b) H) := by
  intro pins s σ H xs us Q I rel h
  obtain ⟨tp, rfl, ht, ⟨ws, hw⟩, q⟩ := h
  obtain ⟨u1, u2, rfl, rx, rt⟩ := rel.two
  cases rx
  cases rt
  obtain ⟨hget, _⟩ := I.pin (a, oe) (List.mem_append.mpr (.inl List.mem_cons_self))
  obtain ⟨vs, hv⟩ := hf
  have hx : ObjOk X.prog X.w H s.heap x (.xd ws) := I.hok x _ hw
  obtain ⟨mA, hns, _⟩ := hx
  obtain ⟨od, ho, _⟩ := lookIn_ns hns
  have J : PySem.W.InstAt s.heap a oe (ca c) (some od) := ⟨hget, hz.1, by unfold PySem.W.notCls; rw [hv] <;> rfl, by rw [hz.2]; exact ho⟩
  have hT : ObjOk X.prog X.w H s.heap tp (.tup cws) := I.hok tp _ ht
  obtain ⟨_, its, rv, o, g1, g2, n, g3⟩ := hT
  have e3 := ClsV.all hp rv
  subst e3
  obtain ⟨oc, od', dt, sl⟩ := o
  simp only at g2 g3
  subst g2 g3
  exact PySem.W.kia_tup (kitx_err T) I.kIn J g1 hk nofun fun tk => ⟨.bl b, H, I.kept (t' := tk) fun _ _ z => z, rfl, q⟩
theorem mx_isi1 {b : Bool} {nm : Str} {p pq : Pos} {cn : Expr} {C2 : Addr} (T : ExcC X.K (ca c)) (hz : Zc (.ref (ca c)) (some x) oe) (hf : ∃ vs, oe.data = .fields vs) (hi : X.N[i]? = some nm) (hv : Vis X.env.scope nm) (hg : Gl X "isinstance") (hm : X.mg "isinstance" = none)
    (hx : PE (X.suite a ((a, oe) :: pn)) cn (tC (.ref C2))) (hk : PySem.W.kitOne X.K (.ref (ca c)) (.ref C2) = some b) (hs : starEach [.Name nm p, cn] X.env = (false, eval (.Name nm p) X.env) :: starEach [cn] X.env := by rfl)
    (hs2 : starEach [cn] X.env = (false, eval cn X.env) :: starEach [] X.env := by rfl) (hpl : (backTo pos (starEach [cn] X.env)).any (·.1) = false := by rfl) (hbt : bootBuiltins "isinstance" = some (.builtin "isinstance") := by decide +kernel) (hd : (nm == ("__debug__" : Str)) = false := by decide) (hcd : (nm == ("__classdict__" : Str)) = false := by decide) :
    PE (X.suite a ((a, oe) :: pn)) (.Call (.Name "isinstance" pq) [.Name nm p, cn] [] pos) (tEx X.K ca i a x fs (cM (.bl b))) :=
  peOf (pe_callB (X := X.suite a ((a, oe) :: pn)) (callE T hz hf (cw := .ref C2) rfl (fun _ z => z) hk) hg hm hbt (pa_cons (X := X.suite a ((a, oe) :: pn)) (pe_var (X := X.suite a ((a, oe) :: pn)) (i := i) hi hv hd hcd) (pa_cons hx pa_nil hs2) hs) (by decide) (by decide) hs hpl)
    fun σ H Q ⟨β, ι, ρ, g, r, s, sl, ⟨ws, hw, fr⟩, h⟩ => ⟨_, sl, rfl, ⟨ws, hw⟩, h ι _ H (Ex.refl _ _) r (by unfold DR; rfl)⟩
theorem mx_isiN {b : Bool} {nm : Str} {p pq pt2 : Pos} {k : Nat} {cns : List Expr} {cws : List V} {cvs : List Value} (T : ExcC X.K (ca c)) (hz : Zc (.ref (ca c)) (some x) oe) (hf : ∃ vs, oe.data = .fields vs) (hi : X.N[i]? = some nm) (hv : Vis X.env.scope nm) (hg : Gl X "isinstance") (hm : X.mg "isinstance" = none)
    (hx : PA (X.suite a ((a, oe) :: pn)) cns (tCs cws)) (hlen : cws.length ≤ LIM) (hp : Paired ClsV cws cvs) (hk : PySem.W.kitAny X.K (.ref (ca c)) cvs = some b) (hs : starEach [.Name nm p, .Tuple cns k pt2] X.env = (false, eval (.Name nm p) X.env) :: starEach [.Tuple cns k pt2] X.env := by rfl)
    (hs2 : starEach [.Tuple cns k pt2] X.env = (false, eval (.Tuple cns k pt2) X.env) :: starEach [] X.env := by rfl) (hpl : (backTo pos (starEach [.Tuple cns k pt2] X.env)).any (·.1) = false := by rfl) (hbt : bootBuiltins "isinstance" = some (.builtin "isinstance") := by decide +kernel) (hd : (nm == ("__debug__" : Str)) = false := by decide) (hcd : (nm == ("__classdict__" : Str)) = false := by decide) :
    PE (X.suite a ((a, oe) :: pn)) (.Call (.Name "isinstance" pq) [.Name nm p, .Tuple cns k pt2] [] pos) (tEx X.K ca i a x fs (cM (.bl b))) :=
  peOf (pe_callB (X := X.suite a ((a, oe) :: pn)) (callEs T hz hf hp hk) hg hm hbt (pa_cons (X := X.suite a ((a, oe) :: pn)) (pe_var (X := X.suite a ((a, oe) :: pn)) (i := i) hi hv hd hcd) (pa_cons (pe_tup hx) pa_nil hs2) hs) (by decide) (by decide) hs hpl)
    fun σ H Q ⟨β, ι, ρ, g, r, s, sl, ⟨ws, hw, fr⟩, h⟩ => by
      refine ⟨_, sl, Nat.le_trans hlen lim_line, fun q hq => ⟨q, rfl, upd_same, ⟨ws, ?_⟩, ?_⟩⟩
      · rw [upd_ne (ne_of_none hw hq)]; exact hw
      · exact h ι _ _ (Ex.laid hq) (r.laid hq) (by unfold DR; rfl)
end

/-! ### try by the mirror -/
/-- a clause: the class that it names, its slot, its suite by class and fields of what came -/
structure ClM where
  c : Str
  slot : Option Nat
  m : Str → List (Str × D) → SM
/-- behind a suite its name's slot is empty; it lets nothing out -/
def unslot (o : Option Nat) : Res Fl → Res Fl
  | .ok (.nx ρ) g => .ok (.nx (match o with
    | none => ρ
    | some i => ρ.set i none)) g
  | .ok (.bk ρ) g => .ok (.bk (match o with
    | none => ρ
    | some i => ρ.set i none)) g
  | .ok (.ct ρ) g => .ok (.ct (match o with
    | none => ρ
    | some i => ρ.set i none)) g
  | .ok (.rt d) g => .ok (.rt d) g
  | _ => .no
def inSlot (o : Option Nat) (ρ : Rho) : Option Rho := match o with
  | none => some ρ
  | some i => if i < ρ.length then some (ρ.set i none) else none
def pickC (sub : Str → Str → Option Bool) (c : Str) (fs : List (Str × D)) (ρ : Rho) (g : G) : List ClM → Res Fl
  | [] => .exc c fs ρ g
  | h :: r => match sub c h.c with
    | some true => match inSlot h.slot ρ with
      | some ρ' => unslot h.slot (h.m c fs ρ' g)
      | none => .no
    | some false => pickC sub c fs ρ g r
    | none => .no
def tryM (sub : Str → Str → Option Bool) (b : SM) (hs : List ClM) : SM := fun ρ g => match b ρ g with
  | .exc c fs ρ' g' => pickC sub c fs ρ' g' hs
  | r => r
/-- a suite's reading, whatever comes -/
def sxM (K : Fg) (ca : Str → Addr) (o : Option Nat) (m : Str → List (Str × D) → SM) (a : Addr) (cls : Value) (d : Option Addr) : TS := fun E σ H => ∃ c x fs, cls = .ref (ca c) ∧ d = some x ∧ match o with
  | none => tS K ca W0 (m c fs) E σ H
  | some i => tSx K ca i a x fs (m c fs) E σ H
def ClM.cl (K : Fg) (ca : Str → Addr) (h : ClM) : Cl := ⟨.ref (ca h.c), h.slot, sxM K ca h.slot h.m⟩
section
variable {X : Cx} {ca : Str → Addr} {W : WX} {body : List Stmt} {h₀ : ExceptHandler} {hds : List ExceptHandler} {pos : Pos} {b : SM} {sub : Str → Str → Option Bool}
theorem pick_r {K : Fg} (hsub : ∀ c C r, sub c C = some r → PySem.W.exmOne K (.ref (ca c)) (.ref (ca C)) = some r) {E : Ends} {c : Str} {fs : List (Str × D)} {ρ : Rho} {g : G} {β ι : List Addr} {H : Hp} {x : Addr} {σ : Sg} (r : Rl K β ι g H) (s : SR K β ι H ρ σ) (xa : XAt K β ι H x fs) :
    ∀ hs : List ClM, PostS K β ca W ι H (pickC sub c fs ρ g hs) E → wCls K W E (hs.map (ClM.cl K ca)) (.ref (ca c)) (some x) σ H
  | [], h => h ι σ H x (Ex.refl _ _) r s xa
  | hd :: tl, h => by
    unfold pickC at h
    cases q : sub c hd.c with
    | none => simp only [q] at h; exact h.elim
    | some t =>
      simp only [q] at h
      refine ⟨t, hsub _ _ _ q, fun e a na => ?_, fun e => ?_⟩
      · subst e
        simp only at h
        obtain ⟨C, o, m⟩ := hd
        cases o with
        | none =>
          have h' : PostS K β ca W ι H (unslot none (m c fs ρ g)) E := h
          refine ⟨c, x, fs, rfl, rfl, β, ι, ρ, g, r, s, ?_⟩
          show PostS K β ca W0 ι H (m c fs ρ g) E
          cases z : m c fs ρ g with
          | ok f g' => rw [z] at h'; cases f <;> exact h'
          | exc c' fs' ρ' g' => rw [z] at h'; exact h'.elim
          | no => rw [z] at h'; exact h'
        | some i =>
          have h0 : PostS K β ca W ι H (match inSlot (some i) ρ with
            | some ρ' => unslot (some i) (m c fs ρ' g)
            | none => .no) E := h
          unfold inSlot at h0
          simp only at h0
          by_cases hl : i < ρ.length
          · rw [if_pos hl] at h0
            have h' : PostS K β ca W ι H (unslot (some i) (m c fs (ρ.set i none) g)) E := h0
            have hl2 : i < σ.length := by rw [← s.1]; exact hl
            refine ⟨c, x, fs, rfl, rfl, β, ι, ρ.set i none, g, r, ?_, by rw [List.getElem?_set_self hl2], xa, ?_⟩
            · refine ⟨by simp [s.1], fun j e hj => ?_⟩
              by_cases hij : i = j
              · subst hij
                rw [List.getElem?_set_self hl] at hj; cases hj
              · rw [List.getElem?_set_ne hij] at hj ⊢
                exact s.2 j e hj
            · show PostS K β ca W0 ι H (m c fs (ρ.set i none) g) (Ends.cut E i)
              cases z : m c fs (ρ.set i none) g with
              | ok f g' =>
                rw [z] at h'
                cases f with
                | nx ρ' => exact fun ι' σ' H' x' r' s' => h' ι' _ H' x' r' (s'.none i)
                | rt d => exact h'
                | bk ρ' => exact fun ι' σ' H' x' r' s' => h' ι' _ H' x' r' (s'.none i)
                | ct ρ' => exact fun ι' σ' H' x' r' s' => h' ι' _ H' x' r' (s'.none i)
              | exc c' fs' ρ' g' => rw [z] at h'; exact h'.elim
              | no => rw [z] at h'; exact h'
          · rw [if_neg hl] at h0
            exact h0.elim
      · subst e
        exact pick_r hsub r s xa tl h
theorem ms_try {hs : List ClM} (hst : X.stack = X.env :: X.outer) (hf : X.env.frame = some X.env.locals) (hN : X.N.Nodup) (tk : Takes X W) (hsub : ∀ c C r, sub c C = some r → PySem.W.exmOne X.K (.ref (ca c)) (.ref (ca C)) = some r)
    (hb : ∀ (W' : WX) (pn : List (Addr × Obj)) (xe : Value → Shared → Prop), Takes (X.tr pn xe) W' → PassesOwn (model X.prog X.w) X.A X.env xe → PSs (X.tr pn xe) body (tS X.K ca W' b))
    (hh : ClsOk X (h₀ :: hds) (hs.map (ClM.cl X.K ca))) : PS X (.Try body (h₀ :: hds) [] [] pos) (tS X.K ca W (tryM sub b hs)) :=
  psOf (ps_tryC (tb := fun W' => tS X.K ca W' b) hst hf hN tk hb hh) fun E σ H ⟨β, ι, ρ, g, r, s, h⟩ => by
    refine ⟨β, ι, ρ, g, r, s, ?_⟩
    unfold tryM at h
    cases z : b ρ g with
    | ok f g' => rw [z] at h; cases f <;> exact h
    | no => rw [z] at h; exact h
    | exc c fs ρ' g' =>
      rw [z] at h
      exact fun ι' σ' H' x e r' s' xa => pick_r hsub r' s' xa hs (PostS.from e h)
end
end Mn

set_option Elab.async false
set_option linter.all false
set_option maxRecDepth 100000
set_option maxHeartbeats 4000000
/-! sorted; math.gcd; repr. -/
namespace Mn
open PySem PySem.Spec PyProof.Rows L2

/-! ### insertion, stable -/
section
variable {α : Type}
def insS (lt : α → α → Bool) (x : α) : List α → List α
  | [] => [x]
  | y :: l => if lt y x = true then y :: insS lt x l else x :: y :: l
def srtS (lt : α → α → Bool) : List α → List α
  | [] => []
  | x :: l => insS lt x (srtS lt l)
variable {lt : α → α → Bool}
theorem insS_perm (x : α) : ∀ l : List α, (insS lt x l).Perm (x :: l)
  | [] => List.Perm.refl _
  | y :: l => by
    unfold insS
    split
    · exact (List.Perm.cons y (insS_perm x l)).trans (List.Perm.swap x y l)
    · exact List.Perm.refl _
theorem srtS_perm : ∀ l : List α, (srtS lt l).Perm l
  | [] => List.Perm.refl _
  | x :: l => (insS_perm x _).trans (List.Perm.cons x (srtS_perm l))
theorem insS_srtd (O : SrtO.Swo lt) (x : α) : ∀ l : List α, SrtO.Srtd lt l → SrtO.Srtd lt (insS lt x l)
  | [], _ => SrtO.srtd_one x
  | y :: l, h => by
    unfold insS
    split
    · rename_i c
      refine List.pairwise_cons.mpr ⟨fun z hz => ?_, insS_srtd O x l (List.pairwise_cons.mp h).2⟩
      rcases List.mem_cons.mp ((insS_perm x l).mem_iff.mp hz) with e | hz
      · rw [e]; exact O.asym _ _ c
      · exact SrtO.srtd_head h z hz
    · rename_i c
      have c' : lt y x = false := by simpa using c
      exact List.pairwise_cons.mpr ⟨fun z hz => O.le_all h c' z hz, h⟩
theorem srtS_srtd (O : SrtO.Swo lt) : ∀ l : List α, SrtO.Srtd lt (srtS lt l)
  | [] => List.Pairwise.nil
  | x :: l => insS_srtd O x _ (srtS_srtd O l)
theorem eqv_sep (O : SrtO.Swo lt) {x y z : α} (h : lt y x = true) (hx : SrtO.eqv lt z x = true) (hy : SrtO.eqv lt z y = true) : False := by
  obtain ⟨a1, a2⟩ := SrtO.eqv_iff.mp hx
  obtain ⟨b1, b2⟩ := SrtO.eqv_iff.mp hy
  have q := O.tr x z y a1 b2
  rw [h] at q; cases q
theorem insS_cls (O : SrtO.Swo lt) (x z : α) : ∀ l : List α, (insS lt x l).filter (SrtO.eqv lt z) = (x :: l).filter (SrtO.eqv lt z)
  | [] => rfl
  | y :: l => by
    unfold insS
    split
    · rename_i c
      have ih := insS_cls O x z l
      rw [List.filter_cons, ih]
      by_cases hx : SrtO.eqv lt z x = true
      · have hy : ¬ SrtO.eqv lt z y = true := fun hy => eqv_sep O c hx hy
        rw [if_neg hy, List.filter_cons_of_pos hx, List.filter_cons_of_pos hx, List.filter_cons_of_neg hy]
      · rw [List.filter_cons_of_neg hx, List.filter_cons_of_neg hx, List.filter_cons]
    · rfl
theorem srtS_stb (O : SrtO.Swo lt) : ∀ l : List α, SrtO.Stb lt (srtS lt l) l
  | [] => SrtO.Stb.refl _
  | x :: l => by
    have ih := srtS_stb O l
    refine ⟨srtS_perm (x :: l), fun z => ?_⟩
    show (insS lt x (srtS lt l)).filter _ = _
    rw [insS_cls O x z, List.filter_cons, List.filter_cons, ih.cls z]
theorem srt_is (O : SrtO.Swo lt) {out l : List α} (h : SrtO.Srtd lt out) (s : SrtO.Stb lt out l) : out = srtS lt l :=
  SrtO.stb_uniq O h (srtS_srtd O l) ⟨s.perm.trans (srtS_perm l).symm, fun x => (s.cls x).trans ((srtS_stb O l).cls x).symm⟩
/-- two lists that go side by side are sorted side by side -/
theorem insS_two {γ : Type} {R : α → γ → Prop} {lt' : γ → γ → Bool} (hl : ∀ a b c d, R a c → R b d → lt a b = lt' c d) {x : α} {y : γ} (hx : R x y) : ∀ {l : List α} {m : List γ}, Paired R l m → Paired R (insS lt x l) (insS lt' y m)
  | _, _, .nil => .cons hx .nil
  | a :: l, c :: m, .cons h t => by
    unfold insS
    rw [hl _ _ _ _ h hx]
    by_cases q : lt' c y = true
    · rw [if_pos q, if_pos q]
      exact .cons h (insS_two hl hx t)
    · rw [if_neg q, if_neg q]
      exact .cons hx (.cons h t)
theorem srtS_two {γ : Type} {R : α → γ → Prop} {lt' : γ → γ → Bool} (hl : ∀ a b c d, R a c → R b d → lt a b = lt' c d) : ∀ {l : List α} {m : List γ}, Paired R l m → Paired R (srtS lt l) (srtS lt' m)
  | _, _, .nil => .nil
  | _ :: _, _ :: _, .cons h t => insS_two hl h (srtS_two hl t)
end
/-! ### ints -/
def ltI (x y : Int) : Bool := decide (x < y)
theorem swoI : SrtO.Swo ltI := ⟨fun x y h => by unfold ltI at *; simp at *; omega, fun x y z h k => by unfold ltI at *; simp at *; omega⟩
theorem srtI_is {ns ms : List Int} (p : ns.Perm ms) (h : ns.Pairwise (· ≤ ·)) : ns = srtS ltI ms := by
  have hs : SrtO.Srtd ltI ns := h.imp fun {a b} q => by unfold ltI; simp; omega
  have ht := srtS_srtd swoI ms
  have hp : ns.Perm (srtS ltI ms) := p.trans (srtS_perm ms).symm
  refine SrtO.stb_uniq swoI hs ht ⟨hp, fun x => ?_⟩
  have e : ∀ l : List Int, l.filter (SrtO.eqv ltI x) = List.replicate (l.count x) x := fun l => by
    rw [← List.filter_beq]
    refine List.filter_congr fun y _ => ?_
    by_cases c : y = x
    · subst c
      rw [beq_self_eq_true]
      exact SrtO.eqv_iff.mpr ⟨swoI.refl _, swoI.refl _⟩
    · have : ¬ SrtO.eqv ltI x y = true := fun q => by
        obtain ⟨q1, q2⟩ := SrtO.eqv_iff.mp q
        unfold ltI at q1 q2
        simp at q1 q2
        omega
      rw [Bool.eq_false_iff.mpr this]
      exact (beq_eq_false_iff_ne.mpr c).symm
  rw [e, e, hp.count_eq]
/-! ### tuples of ints, as the language orders them -/
def lexI : List Int → List Int → Bool
  | [], [] => false
  | [], _ :: _ => true
  | _ :: _, [] => false
  | x :: l, y :: m => if x = y then lexI l m else decide (x < y)
theorem lexI_asym : ∀ l m : List Int, lexI l m = true → lexI m l = false
  | [], [], h => by cases h
  | [], _ :: _, _ => rfl
  | _ :: _, [], h => by cases h
  | x :: l, y :: m, h => by
    unfold lexI at h ⊢
    by_cases e : x = y
    · rw [if_pos e] at h
      rw [if_pos e.symm]
      exact lexI_asym l m h
    · rw [if_neg e] at h
      rw [if_neg (Ne.symm e)]
      have := of_decide_eq_true h
      exact decide_eq_false (by omega)
theorem lexI_tr : ∀ x y z : List Int, lexI y x = false → lexI z y = false → lexI z x = false
  | [], y, [], _, _ => rfl
  | [], y, _ :: _, h1, h2 => by unfold lexI; rfl
  | a :: x, [], z, h1, h2 => by unfold lexI at h1; cases h1
  | a :: x, b :: y, [], h1, h2 => by unfold lexI at h2; cases h2
  | a :: x, b :: y, c :: z, h1, h2 => by
    unfold lexI at h1 h2 ⊢
    by_cases e1 : b = a
    · rw [if_pos e1] at h1
      by_cases e2 : c = b
      · rw [if_pos e2] at h2
        rw [if_pos (e2.trans e1)]
        exact lexI_tr x y z h1 h2
      · rw [if_neg e2] at h2
        rw [if_neg (fun q => e2 (q.trans e1.symm))]
        have := of_decide_eq_false h2
        exact decide_eq_false (by omega)
    · rw [if_neg e1] at h1
      have d1 := of_decide_eq_false h1
      by_cases e2 : c = b
      · rw [if_neg (fun q => e1 (e2.symm.trans q))]
        exact decide_eq_false (by omega)
      · rw [if_neg e2] at h2
        have d2 := of_decide_eq_false h2
        rw [if_neg (by omega)]
        exact decide_eq_false (by omega)
theorem swoL : SrtO.Swo lexI := ⟨lexI_asym, lexI_tr⟩
theorem swoK {α : Type} (k : α → List Int) : SrtO.Swo fun v u => lexI (k v) (k u) := ⟨fun x y => lexI_asym _ _, fun x y z => lexI_tr _ _ _⟩
section
variable {prog : Program} {w : World} {A : Around} {E : Value → Shared → Prop} {s : Shared}
theorem kat_ints (b : Bool) : ∀ {xs ys : List Value} {ns ms : List Int} (i : Nat) (Q : Bool → Shared → Prop), IntsAre xs ns → IntsAre ys ms → Q (lexI ns ms) s → PySem.W.KatLex prog w A b (decide (xs.length < ys.length)) Q (xs.zip ys) i s
  | _, _, _, _, i, Q, .nil, .nil, q => PySem.W.kat_nil q
  | _, _, _, _, i, Q, .nil, .cons m u t, q => by
    refine PySem.W.kat_nil ?_
    rw [show decide (([] : List Value).length < (Value.int m u :: _).length) = true by simp]
    exact q
  | _, _, _, _, i, Q, .cons n u t, .nil, q => by
    refine PySem.W.kat_nil ?_
    rw [show decide ((Value.int n u :: _).length < ([] : List Value).length) = false by simp]
    exact q
  | _, _, _, _, i, Q, .cons n t1 h1, .cons m t2 h2, q => by
    refine PySem.W.kat_cons (SeqAt.EqAt.int_int n t1 m t2 prog w _ _ ?_)
    refine PySem.W.kat_go (fun e => PySem.W.kat_yes ?_) fun e => PySem.W.kat_no (TS.oneLt_ints _ ?_)
    · have en : n = m := by simpa using e
      have q' : Q (lexI _ _) s := q
      unfold lexI at q'
      rw [if_pos en] at q'
      have ih := kat_ints b (i + 1) Q h1 h2 q'
      refine Eq.mp ?_ ih
      congr 1
      simp
    · have en : ¬ n = m := by simpa using e
      have q' : Q (lexI _ _) s := q
      unfold lexI at q'
      rw [if_neg en] at q'
      exact q'
theorem tup_cmp {vs : List Value} {k : Value → List Int} (hp : ∀ v ∈ vs, TS.TupInts s.heap v (k v)) : SrtO.Cmp prog w A s (tuples' true) (fun p => p.1 ∈ vs) (SrtO.lt2 fun v u => lexI (k v) (k u)) := by
  intro p q hm hm'
  obtain ⟨a, xs, e, ⟨o, ho, hc, n, hd⟩, hi⟩ := hp _ hm
  obtain ⟨a', ys, e', ⟨o', ho', hc', n', hd'⟩, hi'⟩ := hp _ hm'
  show wpAny (model prog w) A (keyLt' (tuples' true) p.1 q.1) (fun r s' => s' = s ∧ r = lexI (k p.1) (k q.1)) (fun _ _ => False) s
  generalize k p.1 = u at hi ⊢
  generalize k q.1 = u' at hi' ⊢
  rw [e, e']
  refine PySem.W.kat_lt ho hd ho' hd' ?_
  have z := kat_ints (prog := prog) (w := w) (A := A) (s := s) true 0 (fun r s' => s' = s ∧ r = lexI u u') hi hi' ⟨rfl, rfl⟩
  simpa using z
theorem firsts_k {h : Heap} {k : Value → List Int} : ∀ {vs : List Value}, (∀ v ∈ vs, TS.TupInts h v (k v) ∧ k v ≠ []) → ∃ fs, PySem.W.KatTups h vs fs ∧ fs.length = vs.length ∧ ∀ f ∈ fs, ∃ x t, f = Value.int x t
  | [], _ => ⟨[], PySem.W.KatTups.nil, rfl, fun _ hm => by simp at hm⟩
  | v :: vs, hv => by
    obtain ⟨fs, h1, h2, h3⟩ := firsts_k (vs := vs) fun u hu => hv u (List.mem_cons_of_mem _ hu)
    obtain ⟨⟨a, xs, e, ⟨o, ho, hc, n, hd⟩, hi⟩, hne⟩ := hv v List.mem_cons_self
    generalize k v = ns at hi hne
    cases el : xs.toList with
    | nil => rw [el] at hi; cases hi; exact absurd rfl hne
    | cons y ys =>
      rw [el] at hi
      cases hi with
      | cons m t r =>
        have h0 : xs[0]? = some (Value.int m t) := by rw [← Array.getElem?_toList, el]; rfl
        subst e
        exact ⟨Value.int m t :: fs, PySem.W.KatTups.cons ho hc hd h0 h1, by simp [h2], fun f hm => by
          rcases List.mem_cons.mp hm with q | q
          · exact ⟨m, t, q⟩
          · exact h3 f q⟩
theorem tups_sortableO {a : Addr} {vs : List Value} {k : Value → List Int} (h0 : 0 < vs.length) (hp : ∀ v ∈ vs, TS.TupInts s.heap v (k v) ∧ k v ≠ []) (ha : ∀ o, s.heap.get? a = some o → o.cls ≠ .type "tuple") : SrtO.SortableO prog w A s a vs fun v u => lexI (k v) (k u) := by
  intro h' keep
  have hp' : ∀ v ∈ vs, TS.TupInts h' v (k v) ∧ k v ≠ [] := fun v hm => ⟨(hp v hm).1.keeps fun b o e c => keep b o (fun z => by subst z; exact ha o e c) e, (hp v hm).2⟩
  obtain ⟨fs, h1, h2, h3⟩ := firsts_k hp'
  refine ⟨tuples' true, fun Q E hq => ?_, tup_cmp (s := { s with heap := h' }) fun v hv => (hp' v hv).1⟩
  refine PySem.W.kat_kind (T := .type "int") h1 (by omega) (fun f hm => ?_) (by rfl) ?_
  · obtain ⟨x, t, rfl⟩ := h3 f hm
    exact PySem.W.Looks.now
  · have e : (Value.type "int" != Value.type "tuple") = true := by first | decide +kernel | rfl | decide
    rw [e]
    exact hq
end
/-! ### as calls of the mirror -/
def intOf : D → Option Int
  | .int i => some i
  | _ => none
def intsD : D → Option (List Int)
  | .tup l => l.mapM intOf
  | _ => none
def keyD (d : D) : List Int := (intsD d).getD []
def lexD (x y : D) : Bool := lexI (keyD x) (keyD y)
/-- sorted(x): ints, or tuples of ints; or the keys of a dict, ints -/
def srtC (g : G) : List D → Option Nv
  | [.obj n] => match dctAt g n with
    | some l => (l.mapM (fun (p : Key × D) => match p.1 with | .inl i => some i | .inr _ => none)).bind fun ks => if ks.length < 64 then some (.n ((srtS ltI ks).map .int)) else none
    | none => (lstAt g n).bind sl
  | [d] => (lisOf g d).bind sl
  | _ => none
where sl (l : List D) : Option Nv :=
  match l.mapM intOf with
  | some ns => some (.n ((srtS ltI ns).map .int))
  | none => if l.all (fun d => match intsD d with | some (_ :: _) => true | _ => false) then some (.n (srtS lexD l)) else none
section
variable {K : Fg} {ca : Str → Addr} {W : WX} {β ι : List Addr} {g : G} {H : Hp} {Q : VK}
theorem ints_of_mapM : ∀ {l : List D} {ns : List Int}, l.mapM intOf = some ns → l = ns.map .int
  | [], ns, e => by cases e; rfl
  | d :: l, ns, e => by
    rw [List.mapM_cons] at e
    cases d with
    | int i =>
      cases q : l.mapM intOf with
      | none => rw [q] at e; cases e
      | some ms =>
        rw [q] at e
        cases e
        rw [ints_of_mapM q]; rfl
    | _ => cases e
/-- what a value is of: by its V -/
def Bk (K : Fg) (β ι : List Addr) (H : Hp) (k : Value → List Int) (u : Value) (d : D) : Prop := (∃ a, u = .ref a) ∧ DR K β ι H d (backV u) ∧ k u = keyD d
theorem paired_drs {k : Value → List Int} : ∀ {us : List Value} {ds : List D}, Paired (Bk K β ι H k) us ds → DRs K β ι H ds (us.map backV) ∧ ∀ u ∈ us, ∃ a, u = .ref a
  | _, _, .nil => ⟨rfl, fun _ h => absurd h (by simp)⟩
  | _, _, .cons h t => ⟨⟨_, _, rfl, h.2.1, (paired_drs t).1⟩, fun u hu => by
      rcases List.mem_cons.mp hu with e | hu
      · rw [e]; exact h.1
      · exact (paired_drs t).2 u hu⟩
end
section
variable {X : Cx} {ca : Str → Addr} {W : WX} {β ι : List Addr} {g : G} {H : Hp} {Q : VK} {pins : List (Addr × Obj)} {σ : Sg} {s : Shared}
theorem tups_of (I : L2.Inv X pins σ H s) : ∀ {l : List D} {vs : List V} {its : List Value}, (l.all fun d => match intsD d with | some (_ :: _) => true | _ => false) = true → DRs X.K β ι H l vs → Vals vs its →
    Paired (Bk X.K β ι H (TS.intsOf s.heap)) its l ∧ ∀ v ∈ its, TS.TupInts s.heap v (TS.intsOf s.heap v) ∧ TS.intsOf s.heap v ≠ []
  | [], vs, its, _, h, r => by
    cases (show vs = [] from h)
    cases r
    exact ⟨.nil, fun _ h => absurd h (by simp)⟩
  | d :: l, vs, its, hl, h, r => by
    obtain ⟨v, ws, e, h1, h2⟩ := h
    subst e
    cases r with
    | cons rv rt =>
      rw [List.all_cons, Bool.and_eq_true] at hl
      obtain ⟨i1, i2⟩ := tups_of I hl.2 h2 rt
      cases d with
      | tup es =>
        have h1' := h1
        obtain ⟨a, xs, ea, t, w⟩ := h1
        subst ea
        cases q : es.mapM intOf with
        | none =>
          have := hl.1
          simp only [intsD, q] at this
          cases this
        | some ns =>
          cases rv
          obtain ⟨its', rv', ht, _⟩ := I.tuple t.sq
          have e1 := ints_of_mapM q
          subst e1
          have e2 := DRs.ints w
          subst e2
          have ti : TS.TupInts s.heap (.ref a) ns := ⟨a, _, rfl, ht, by simpa using rv'.ints⟩
          have tk : TS.intsOf s.heap (.ref a) = ns := ti.ints
          have hne : ns ≠ [] := fun z => by
            subst z
            have := hl.1
            simp only [intsD, q] at this
            cases this
          refine ⟨.cons ⟨⟨a, rfl⟩, h1', by rw [tk]; show ns = (List.mapM intOf (List.map D.int ns)).getD []; rw [q]; rfl⟩ i1, fun v hv => ?_⟩
          rcases List.mem_cons.mp hv with e | hv
          · subst e; rw [tk]; exact ⟨ti, hne⟩
          · exact i2 v hv
      | _ => cases hl.1
/-- sorted of tuples of ints -/
def rSrtT (K : Fg) : List V → Hp → VK → Prop := fun vs H Q => ∃ (β ι : List Addr) (a : Addr) (xs : List V) (l : List D), vs = [.ref a] ∧ SqL K H a xs ∧ DRs K β ι H l xs ∧ (l.all fun d => match intsD d with | some (_ :: _) => true | _ => false) = true ∧
  ∀ ys p, DRs K β ι H (srtS lexD l) ys → H p = none → Q (.ref p) (upd H p (.lst ys))
theorem cr_srtT : CallR X (.builtin "sorted") (rSrtT X.K) := by
  intro pins s σ H vs us Q I r h
  obtain ⟨β, ι, a, xs, l, rfl, hs, hd, hl, q⟩ := h
  obtain ⟨its, rv, hpl, hz⟩ := I.list hs
  rw [Vals.ref1 r]
  obtain ⟨h1, h2⟩ := tups_of I hl hd rv
  refine SrtO.sorted_ord (swoK (TS.intsOf s.heap)) hpl.isList (by rw [← rv.length]; exact hz) (fun k2 h₁ a' ha kk => tups_sortableO (s := { s with heap := h₁ }) (by omega) (fun v hm => ⟨(h2 v hm).1.keeps fun b o e _ => (kk b o e).2, (h2 v hm).2⟩) fun o e => ?_) fun out g1 g2 => ?_
  · have e' : some o = some (seqObj "list" its.toArray 0) := e.symm.trans ha
    cases e'
    intro c
    exact absurd (Value.type.inj c) (by decide)
  · have eo := srt_is (swoK (TS.intsOf s.heap)) g1 g2
    have pr := srtS_two (lt' := lexD) (fun a b c d x y => by unfold lexD; rw [← x.2.2, ← y.2.2]) h1
    rw [← eo] at pr
    obtain ⟨p1, p2⟩ := paired_drs pr
    obtain ⟨ep, he'⟩ := PyProof.Rows.sortedAll_at s.heap its out.toArray
    have hlen : (out.map backV).length ≤ sizeLine := by
      rw [List.length_map, g2.len, ← rv.length]
      exact hz
    exact ⟨.ref _, upd H (s.heap.objs.size + 1) (.lst (out.map backV)), I.laid (t' := s.toks) (fun _ _ => PyProof.Rows.sortedAll_old) (Nat.le_succ _) ⟨hlen, out, ep, vals_back p2, he'⟩, rfl, q _ _ p1 (I.hok.fresh (Nat.le_succ _))⟩
end
section
variable {X : Cx} {ca : Str → Addr} {W : WX}
theorem dkeys_r {K : Fg} {β ι : List Addr} {H : Hp} : ∀ {l : List (Key × D)} {ks : List Int} {ws : List (Key × V)}, (l.mapM (fun (p : Key × D) => match p.1 with | .inl i => some i | .inr _ => none)) = some ks → KR K β ι H l ws → ws.map (·.1) = ks.map Sum.inl
  | [], ks, ws, e, h => by
    cases e
    unfold KR at h
    rw [h]; rfl
  | (k, d) :: l, ks, ws, e, h => by
    unfold KR at h
    obtain ⟨v, us, e1, h1, h2⟩ := h
    rw [List.mapM_cons] at e
    cases k with
    | inr z => cases e
    | inl i =>
      cases q : l.mapM (fun (p : Key × D) => match p.1 with | .inl i => some i | .inr _ => none) with
      | none => rw [q] at e; cases e
      | some ms =>
        rw [q] at e
        cases e
        rw [e1, List.map_cons, dkeys_r q h2]; rfl
theorem cd_sorted {own : Bool} (hcalm : X.calm = true) : CallR X (.builtin "sorted") (rC X.K ca W own srtC) := by
  refine calOr (call_sortedDI hcalm) (r2 := fun vs H Q => rSortedI X.K vs H Q ∨ rSrtT X.K vs H Q) (calOr cr_sortedI cr_srtT fun _ _ _ h => h) ?_
  rintro xs H Q ⟨β, ι, g, ds, r, h, p⟩
  have sq : ∀ {d : D} {l : List D} {a : Addr} {vs : List V}, xs = [V.ref a] → SqL X.K H a vs → DRs X.K β ι H l vs → PostD X.K β ca W ι H (fin own (srtC.sl l) g) Q → rSortedI X.K xs H Q ∨ rSrtT X.K xs H Q := by
    intro d l a vs ex hs hd p
    unfold srtC.sl at p
    split at p
    · rename_i ns e
      have e1 := ints_of_mapM e
      subst e1
      have e2 := DRs.ints hd
      subst e2
      refine .inl ⟨a, ns, ex, hs, fun ns' p' hp hs hn => ?_⟩
      rw [srtI_is hp hs]
      exact fin_n r (DRs.ofInts _) p p' hn
    · split at p
      · rename_i c
        exact .inr ⟨β, ι, a, vs, l, ex, hs, hd, c, fun ys p' d' hn => fin_n r d' p p' hn⟩
      · exact p.elim
  unfold srtC at p
  split at p
  · rename_i n
    split at p
    · rename_i l ek
      obtain ⟨v, ev, dv⟩ := h.one
      unfold DR at dv
      obtain ⟨a, rfl, hn⟩ := dv
      obtain ⟨ws, hw, kr⟩ := dctAt_r r ek hn
      cases em : l.mapM (fun (p : Key × D) => match p.1 with | .inl i => some i | .inr _ => none) with
      | none => rw [em] at p; exact p.elim
      | some ks =>
        rw [em] at p
        change PostD X.K β ca W ι H (fin own (if ks.length < 64 then some (.n ((srtS ltI ks).map .int)) else none) g) Q at p
        split at p
        · rename_i c
          refine .inl ⟨a, ws, ks, ev, .inl hw, dkeys_r em kr, c, fun ys p' hp hs hn => ?_⟩
          rw [srtI_is hp hs]
          exact fin_n r (DRs.ofInts _) p p' hn
        · exact p.elim
    · obtain ⟨v, ev, dv⟩ := h.one
      cases e : lisOf g (.obj n) with
      | none =>
        have e' : lstAt g n = none := e
        rw [e'] at p; exact p.elim
      | some l =>
        have e' : lstAt g n = some l := e
        rw [e'] at p
        obtain ⟨a, vs, h3, h4, h5⟩ := lisOf_r r e dv
        subst h3
        exact .inr (sq (d := .non) ev h4 h5 p)
  · rename_i d _
    obtain ⟨v, ev, dv⟩ := h.one
    cases e : lisOf g d with
    | none => rw [e] at p; exact p.elim
    | some l =>
      rw [e] at p
      obtain ⟨a, vs, h3, h4, h5⟩ := lisOf_r r e dv
      subst h3
      exact .inr (sq (d := .non) ev h4 h5 p)
  · exact p.elim
end
end Mn

set_option Elab.async false
set_option linter.all false
set_option maxRecDepth 100000
set_option maxHeartbeats 4000000
/-! gcd; repr; dict displays; two comparisons in one. -/
namespace Mn
open PySem PySem.Spec PyProof.Rows L2

theorem cd_gcd {X : Cx} {ca : Str → Addr} {W : WX} {own : Bool} : CallR X (.builtin "math.gcd") (rC X.K ca W own gcdC) := by
  refine calOf cr_gcd ?_
  rintro xs H Q ⟨β, ι, g, ds, r, h, p⟩
  unfold gcdC at p
  split at p
  · rename_i i j
    obtain ⟨v, u, ev, d1, d2⟩ := h.two
    unfold DR at d1 d2
    subst d1; subst d2
    exact ⟨i, j, ev, fin_v r (by unfold DR; rfl) p⟩
  · exact p.elim
section
variable {X : Cx} {ca : Str → Addr} {W : WX} {e : Expr} {es : List Expr} {pos : Pos} {na : AM}
theorem me_callM {own : Bool} {x : Str} {p : Pos} {id : String} {fd : G → List D → Option Nv} (hc : CallR X (.builtin id) (rC X.K ca W own fd)) (hg : Gl X x) (hm : X.mg x = some (.builtin id)) (ha : PA X (e :: es) (tA X.K ca W na))
    (hdb : (x == ("__debug__" : Str)) = false := by decide) (he : starEach (e :: es) X.env = (false, eval e X.env) :: starEach es X.env := by rfl) (hpl : (backTo pos (starEach es X.env)).any (·.1) = false := by rfl) :
    PE X (.Call (.Name x p) (e :: es) [] pos) (tE X.K ca W (calM own fd na)) := peOf (pe_callBfun hc hg hm ha hdb he hpl) fun _ _ _ h => tCB_of h
end
/-! ### repr -/
mutual
def smP : PyData → Bool
  | .none | .bool _ => true
  | .int i => decide (i.natAbs < 10 ^ 60)
  | .str x => x.cps.toList.all fun c => decide (c < 16 ^ 8)
  | .list l => smPs l
  | .tuple l => smPs l
  | .dict _ => false
def smPs : List PyData → Bool
  | [] => true
  | p :: l => smP p && smPs l
end
mutual
theorem smP_l : ∀ p : PyData, smP p = true → p.leavesShort 64 = true ∧ p.showable = true ∧ p.hasDict = false
  | .none, _ => ⟨rfl, rfl, rfl⟩
  | .bool _, _ => ⟨rfl, rfl, rfl⟩
  | .int i, h => by
    have h' : i.natAbs < 10 ^ 60 := of_decide_eq_true (by unfold smP at h; exact h)
    refine ⟨?_, ?_, rfl⟩
    · have e := int_text_length_le10 (k := 60) (by decide) h'
      unfold PyData.leavesShort
      refine decide_eq_true ?_
      show (Str.ofString (toString i)).length ≤ 64
      rw [PySem.ofString_length]; omega
    · unfold PyData.showable
      refine decide_eq_true ?_
      by_cases z : i.natAbs = 0
      · rw [z]; decide
      · exact (Nat.log2_lt z).mpr (Nat.lt_trans h' (by decide +kernel))
  | .str x, h => ⟨by unfold smP at h; unfold PyData.leavesShort; exact h, rfl, rfl⟩
  | .list l, h => by
    unfold smP at h
    have := smPs_l l h
    exact ⟨by unfold PyData.leavesShort; exact this.1, by unfold PyData.showable; exact this.2.1, by unfold PyData.hasDict; exact this.2.2⟩
  | .tuple l, h => by
    unfold smP at h
    have := smPs_l l h
    exact ⟨by unfold PyData.leavesShort; exact this.1, by unfold PyData.showable; exact this.2.1, by unfold PyData.hasDict; exact this.2.2⟩
  | .dict _, h => by unfold smP at h; cases h
theorem smPs_l : ∀ l : List PyData, smPs l = true → PyData.leavesShortAll 64 l = true ∧ PyData.showableAll l = true ∧ PyData.hasDictAll l = false
  | [], _ => ⟨rfl, rfl, rfl⟩
  | p :: l, h => by
    unfold smPs at h
    rw [Bool.and_eq_true] at h
    obtain ⟨a1, a2, a3⟩ := smP_l p h.1
    obtain ⟨b1, b2, b3⟩ := smPs_l l h.2
    exact ⟨by unfold PyData.leavesShortAll; rw [a1, b1]; rfl, by unfold PyData.showableAll; rw [a2, b2]; rfl, by unfold PyData.hasDictAll; rw [a3, b3]; rfl⟩
end
def fitP (p : PyData) : Bool := isDisplay p && smP p && decide (p.bulk ≤ 200000) && decide (p.depth ≤ 40)
theorem fitP_len {p : PyData} (h1 : smP p = true) (h2 : p.bulk ≤ 200000) : p.shown.length ≤ sizeLine := by
  have h := PyData.shown_le_bulk 64 (by decide) p (smP_l p h1).1
  rw [sizeLine_eq]
  omega
/-- repr(x) of a list or a tuple -/
def repC (g : G) : List D → Option Nv
  | [d] => match pyG g d with
    | some p => if fitP p = true then some (.v (.str p.shown)) else none
    | none => none
  | _ => none
theorem cd_repr {X : Cx} {ca : Str → Addr} {W : WX} {own : Bool} (hg : X.A.guards = some []) (hu : X.A.units + 64 < cLine) : CallR X (.builtin "repr") (rC X.K ca W own repC) := by
  intro pins s σ H vs us Q I rv ⟨β, ι, g, ds, r, h, p⟩
  unfold repC at p
  split at p
  · rename_i d
    split at p
    · rename_i pd e
      split at p
      · rename_i c
        unfold fitP at c
        simp only [Bool.and_eq_true, decide_eq_true_eq] at c
        obtain ⟨⟨⟨c1, c2⟩, c3⟩, c4⟩ := c
        obtain ⟨v, ev, dv⟩ := h.one
        subst ev
        obtain ⟨u, eu, ru⟩ := vals1 rv
        subst eu
        obtain ⟨as, rd⟩ := Dp.reads I pd v u (pyG_r r e dv) ru
        obtain ⟨a, ea⟩ := isRef_of_reads rd c1
        subst ea
        obtain ⟨s1, s2, s3⟩ := smP_l pd c2
        refine repr_of_reads' rd s2 (fun z => by rw [s3] at z; cases z) hg (by omega) (fun _ _ z => z) (fun h' u tk hk => ?_) (fitP_len c2 c3)
        exact ⟨.str pd.shown, H, I.kept hk, ⟨_, rfl⟩, fin_v r (by unfold DR; rfl) p⟩
      · exact p.elim
    · exact p.elim
  · exact p.elim

/-! ### dict displays -/
section
variable {K : Fg} {β ι ι' : List Addr} {g : G} {H H' : Hp}
def PR (K : Fg) (β ι : List Addr) (H : Hp) : List (D × D) → List (V × V) → Prop
  | [], vs => vs = []
  | p :: r, vs => ∃ a b us, vs = (a, b) :: us ∧ DR K β ι H p.1 a ∧ DR K β ι H p.2 b ∧ PR K β ι H r us
theorem PR.keys : ∀ {ps : List (D × D)} {vs : List (V × V)} {kvs : List (Key × D)}, keysOf ps = some kvs → PR K β ι H ps vs → ∃ ws, vs = ws.map (fun kv => (kV kv.1, kv.2)) ∧ KR K β ι H kvs ws
  | [], vs, kvs, e, h => by
    cases e
    exact ⟨[], h, by unfold KR; rfl⟩
  | p :: r, vs, kvs, e, h => by
    obtain ⟨a, b, us, e1, h1, h2, h3⟩ := h
    unfold keysOf at e
    cases q1 : keyOf p.1 with
    | none => rw [q1] at e; cases e
    | some k =>
      cases q2 : keysOf r with
      | none => rw [q1, q2] at e; cases e
      | some l =>
        rw [q1, q2] at e
        cases e
        obtain ⟨ws, e2, h4⟩ := PR.keys q2 h3
        exact ⟨(k, b) :: ws, by rw [e1, e2, keyOf_r q1 h1]; rfl, by unfold KR; exact ⟨b, ws, rfl, h2, h4⟩⟩
theorem KR.merge : ∀ {m : List (Key × D)} {ms : List (Key × V)} {l : List (Key × D)} {ws : List (Key × V)}, KR K β ι H m ms → KR K β ι H l ws → KR K β ι H (mrg l m) (mergeK ws ms)
  | [], ms, l, ws, h, q => by unfold KR at h; subst h; exact q
  | p :: m, ms, l, ws, h, q => by
    unfold KR at h
    obtain ⟨v, us, e, h1, h2⟩ := h
    subst e
    exact KR.merge (l := putD l p.1 p.2) (ws := putK ws p.1 v) h2 (KR.put q h1)
theorem Chg.bookD {p : Addr} {o : HO} (hp : H p = none) : Chg K β ι H (p :: β) ι (upd H p o) where
  tp := fun a ws h => h.elim (fun h => .inl (by rw [upd_ne (ne_of_none h hp)]; exact h)) .inr
  fl := fun a ws ⟨h1, h2, h3⟩ => ⟨h1, by
    intro z
    rcases List.mem_cons.mp z with e | e
    · exact ne_of_none h3 hp e
    · exact h2 e, by rw [upd_ne (ne_of_none h3 hp)]; exact h3⟩
  fz := fun a ws h => h.elim (fun ⟨h1, o, h2⟩ => .inl ⟨h1, o, by rw [upd_ne (ne_of_none h2 hp)]; exact h2⟩) .inr
  ob := fun _ _ h => h
theorem Chg.penD {p : Addr} {us vs : List (Key × V)} (hp : H p = some (.dK us)) : Chg K (p :: β) ι H (p :: β) ι (upd H p (.dK vs)) where
  tp := fun a ws h => h.elim (fun h => .inl (by rw [upd_ne (ne_of h hp (by intro z; cases z))]; exact h)) .inr
  fl := fun a ws ⟨h1, h2, h3⟩ => ⟨h1, h2, by rw [upd_ne (by rintro rfl; exact h2 List.mem_cons_self)]; exact h3⟩
  fz := fun a ws h => h.elim (fun ⟨h1, o, h2⟩ => .inl ⟨h1, o, by rw [upd_ne (ne_of h2 hp (by intro z; cases z))]; exact h2⟩) .inr
  ob := fun _ _ h => h
theorem Chg.adoptD {p : Addr} {us : List (Key × V)} (hp : H p = some (.dK us)) : Chg K (p :: β) ι H β (ι ++ [p]) H where
  tp := fun _ _ h => h
  fl := fun a ws ⟨h1, h2, h3⟩ => ⟨by
    intro z
    rcases List.mem_append.mp z with e | e
    · exact h1 e
    · exact h2 (by rw [show a = p by simpa using e]; exact List.mem_cons_self), fun z => h2 (List.mem_cons_of_mem _ z), h3⟩
  fz := fun a ws h => h.elim (fun ⟨h1, o, h2⟩ => .inl ⟨by
    intro z
    rcases List.mem_append.mp z with e | e
    · exact h1 e
    · exact ne_of h2 hp (by intro z; cases z) (by simpa using e), o, h2⟩) .inr
  ob := fun n a h => by rw [List.getElem?_append_left (List.getElem?_eq_some_iff.mp h).1]; exact h
theorem Rl.bookD (r : Rl K β ι g H) {p : Addr} {o : HO} (hp : H p = none) : Rl K (p :: β) ι g (upd H p o) :=
  r.chg (Chg.bookD hp) (fun a ha => upd_ne (fun e => (r.free hp).1 (e ▸ ha))) fun b hb => by
    rcases List.mem_cons.mp hb with e | e
    · subst e; exact ⟨(r.free hp).1, by rw [upd_same]; simp⟩
    · exact ⟨(r.bt b e).1, by rw [upd_ne (by rintro rfl; exact (r.bt _ e).2 hp)]; exact (r.bt b e).2⟩
theorem Rl.penD (r : Rl K (p :: β) ι g H) {us vs : List (Key × V)} (hp : H p = some (.dK us)) : Rl K (p :: β) ι g (upd H p (.dK vs)) :=
  r.chg (Chg.penD hp) (fun a ha => upd_ne (fun e => (r.bt p List.mem_cons_self).1 (e ▸ ha))) fun b hb => ⟨(r.bt b hb).1, by
    by_cases e : b = p
    · rw [e, upd_same]; simp
    · rw [upd_ne e]; exact (r.bt b hb).2⟩
theorem Rl.adoptD {p : Addr} (r : Rl K (p :: β) ι g H) (hpb : p ∉ β) {us : List (Key × V)} {l : List (Key × D)} (hp : H p = some (.dK us)) (h : KR K (p :: β) ι H l us) : Rl K β (ι ++ [p]) (g ++ [.dct l]) H := by
  have hpi := (r.bt p List.mem_cons_self).1
  refine ⟨by simp [r.len], ?_, fun n a o h1 h2 => ?_, fun b hb => ⟨fun hm => ?_, (r.bt b (List.mem_cons_of_mem _ hb)).2⟩⟩
  · rw [List.nodup_append]
    refine ⟨r.nd, by simp, fun a ha b hb => ?_⟩
    have : b = p := by simpa using hb
    subst this
    intro e; subst e; exact hpi ha
  · by_cases hn : n < ι.length
    · rw [List.getElem?_append_left hn] at h1
      rw [List.getElem?_append_left (by rw [← r.len]; exact hn)] at h2
      obtain ⟨ho, e, q⟩ := r.at_ n a o h1 h2
      exact ⟨ho, e, q.chg (Chg.adoptD hp)⟩
    · rw [List.getElem?_append_right (by omega)] at h1
      rw [List.getElem?_append_right (by rw [← r.len]; omega)] at h2
      have e0 : n - ι.length = 0 := by
        have h3 := (List.getElem?_eq_some_iff.mp h1).1
        simp only [List.length_cons, List.length_nil] at h3
        omega
      rw [e0] at h1
      rw [← r.len, e0] at h2
      simp at h1 h2
      subst h1; subst h2
      exact ⟨_, hp, us, rfl, KR.chg (Chg.adoptD hp) _ _ h⟩
  · rcases List.mem_append.mp hm with z | z
    · exact (r.bt b (List.mem_cons_of_mem _ hb)).1 z
    · exact hpb (by rw [← show b = p by simpa using z]; exact hb)
end
section
variable {X : Cx} {ca : Str → Addr} {W : WX}
abbrev trM (K : Fg) (ca : Str → Addr) (W : WX) (l : List (EM × EM)) : List (TE × TE) := l.map fun p => (tE K ca W p.1, tE K ca W p.2)
theorem dit_of {K : Fg} : ∀ (l : List (EM × EM)) {β ι : List Addr} {ρ : Rho} {g : G} {σ : Sg} {H : Hp} {Q : List (V × V) → Hp → Prop}, Rl K β ι g H → SR K β ι H ρ σ → Post K β ca W (fun ι' H' ds vs => PR K β ι' H' ds vs) ι H (ditM l ρ g) Q → tPairs (trM K ca W l) σ H Q
  | [], β, ι, ρ, g, σ, H, Q, r, s, h => h ι _ H (Ex.refl _ _) r rfl
  | (mk, mv) :: l, β, ι, ρ, g, σ, H, Q, r, s, h => by
    refine (tE_bind r s h).mono fun v H1 ⟨ι1, d, g1, x1, r1, s1, dv, h1⟩ => ?_
    refine (tE_bind r1 s1 h1).mono fun u H2 ⟨ι2, e, g2, x2, r2, s2, du, h2⟩ => ?_
    refine dit_of l r2 s2 ?_
    cases q : ditM l ρ g2 with
    | ok ps g3 =>
      rw [q] at h2
      intro ι' vs H' x' r' p'
      exact h2 ι' ((v, u) :: vs) H' x' r' ⟨v, u, vs, rfl, dv.keep r1 (x2.trans x') _ _, du.keep r2 x' _ _, p'⟩
    | exc c fs ρ' g' => rw [q] at h2; exact h2
    | no => rw [q] at h2; exact h2.elim
theorem me_disp {keys : List (Option Expr)} {values : List Expr} {pos : Pos} {l : List (EM × EM)} (h : PPs X pos keys values (trM X.K ca W l)) (hall : keys.all (·.isSome) = true) (hl : keys.length = values.length) (h0 : keys ≠ []) (h15 : keys.length ≤ 15) :
    PE X (.Dict keys values pos) (tE X.K ca W (dicM l)) := peOf (pe_disp h hall hl h0 h15) fun σ H Q ⟨β, ι, ρ, g, r, s, q⟩ p hp => by
  have rb : Rl X.K (p :: β) ι g (upd H p (.dK [])) := r.bookD hp
  have sb : SR X.K (p :: β) ι (upd H p (.dK [])) ρ σ := s.chg (Chg.bookD hp)
  have hpi : p ∉ ι := (r.free hp).1
  have hpb : p ∉ β := (r.free hp).2
  refine dit_of l rb sb ?_
  unfold dicM at q
  cases e : ditM l ρ g with
  | ok ps g2 =>
    rw [e] at q
    intro ι2 vs H2 x2 r2 pr
    have hH2 : H2 p = some (.dK []) := x2.fr p _ upd_same hpi
    refine ⟨hH2, ?_⟩
    simp only [Res.bind] at q
    cases ek : keysOf ps with
    | none => rw [ek] at q; exact q.elim
    | some kvs =>
      rw [ek] at q
      simp only [] at q
      split at q
      · rename_i c
        obtain ⟨ws, ew, kr⟩ := PR.keys ek pr
        refine ⟨ws, ew, by rw [kr.length]; exact c, ?_⟩
        have r3 : Rl X.K (p :: β) ι2 g2 (upd H2 p (.dK (mergeK [] ws))) := r2.penD hH2
        have k3 := KR.chg (Chg.penD (K := X.K) (β := β) (ι := ι2) (vs := mergeK [] ws) hH2) _ _ (KR.merge kr (l := []) (ws := []) (by unfold KR; rfl))
        have r4 := r3.adoptD hpb upd_same k3
        refine q (ι2 ++ [p]) (.ref p) _ ?_ r4 ?_
        · obtain ⟨nw, en, pn⟩ := x2.pre
          refine ⟨⟨nw ++ [p], by rw [en, List.append_assoc], fun a ha => ?_⟩, fun a o ho hn => ?_, fun a ha => ?_⟩
          · rcases List.mem_append.mp ha with z | z
            · have := pn a z
              by_cases ea : a = p
              · rw [ea]; exact hp
              · rw [upd_ne ea] at this; exact this
            · rw [show a = p by simpa using z]; exact hp
          · have ea : a ≠ p := ne_of_none ho hp
            rw [upd_ne ea]
            exact x2.fr a o (by rw [upd_ne ea]; exact ho) hn
          · by_cases ea : a = p
            · rw [ea, upd_same]; simp
            · rw [upd_ne ea]; exact x2.dom a (by rw [upd_ne ea]; exact ha)
        · unfold DR
          exact ⟨p, rfl, by rw [← r2.len]; simp⟩
      · exact q.elim
  | exc c fs ρ' g' =>
    rw [e] at q
    intro ι' σ' H' x xx rr ss xa
    refine q ι' σ' H' x ?_ rr.let_go (ss.chg Chg.free) ?_
    · obtain ⟨nw, en, pn⟩ := xx.pre
      refine ⟨⟨nw, en, fun a ha => ?_⟩, fun a o ho hn => xx.fr a o (by rw [upd_ne (ne_of_none ho hp)]; exact ho) hn, fun a ha => xx.dom a ?_⟩
      · have := pn a ha
        by_cases ea : a = p
        · rw [ea]; exact hp
        · rw [upd_ne ea] at this; exact this
      · by_cases ea : a = p
        · rw [ea, upd_same]; simp
        · rw [upd_ne ea]; exact ha
    · obtain ⟨ws, h1, h2⟩ := xa
      exact ⟨ws, h1, FR.chg Chg.free _ _ h2⟩
  | no => rw [e] at q; exact q.elim
theorem mp_nil {pos : Pos} : PPs X pos [] [] (trM X.K ca W []) := pps_nil
theorem mp_cons {pos : Pos} {k v : Expr} {ks : List (Option Expr)} {vs : List Expr} {mk mv : EM} {l : List (EM × EM)} (hk : PE X k (tE X.K ca W mk)) (hv : PE X v (tE X.K ca W mv)) (hr : PPs X pos ks vs (trM X.K ca W l)) : PPs X pos (some k :: ks) (v :: vs) (trM X.K ca W ((mk, mv) :: l)) := pps_cons hk hv hr
/-! ### a < b < c -/
def chM (fd fd' : G → D → D → Option Nv) (ma mb mc : EM) : EM := bindE ma fun d1 => bindE mb fun d2 => fun ρ g => match fd g d1 d2 with
  | some (.v (.bl true)) => bindE mc (fun d3 => fun _ g' => fin false (fd' g' d2 d3) g') ρ g
  | some (.v (.bl false)) => .ok (.bl false) g
  | _ => .no
theorem tChain_of {K : Fg} {fd fd' : G → D → D → Option Nv} {ma mb mc : EM} {σ : Sg} {H : Hp} {Q : VK} (h : tE K ca W (chM fd fd' ma mb mc) σ H Q) : tChain (rD K ca W false fd) (rD K ca W false fd') (tE K ca W ma) (tE K ca W mb) (tE K ca W mc) σ H Q := by
  obtain ⟨β, ι, ρ, g, r, s, h⟩ := h
  refine (tE_bind r s h).mono fun v H1 ⟨ι1, d1, g1, x1, r1, s1, dv1, h1⟩ => ?_
  refine (tE_bind r1 s1 h1).mono fun v2 H2 ⟨ι2, d2, g2, x2, r2, s2, dv2, h2⟩ => ?_
  refine ⟨β, ι2, g2, d1, d2, r2, dv1.keep r1 x2 _ _, dv2, ?_⟩
  split at h2
  · rename_i e
    rw [e]
    intro ι3 v3 H3 x3 r3 dv3
    refine ⟨true, by unfold DR at dv3; exact dv3, ?_⟩
    rw [if_pos rfl]
    refine (tE_bind r3 (s2.keep r2 x3) (h2.from x3)).mono fun v4 H4 ⟨ι4, d4, g4, x4, r4, s4, dv4, h4⟩ => ?_
    exact ⟨β, ι4, g4, d2, d4, r4, (dv2.keep r2 x3 _ _).keep r3 x4 _ _, dv4, h4⟩
  · rename_i e
    rw [e]
    intro ι3 v3 H3 x3 r3 dv3
    refine ⟨false, by unfold DR at dv3; exact dv3, ?_⟩
    rw [if_neg (by decide)]
    exact h2 ι3 _ H3 x3 r3 (by unfold DR; rfl)
  · exact h2.elim
variable {op op' : CmpOp} {fd fd' : G → D → D → Option Nv} {ma mb mc : EM} {a b c : Expr} {pos : Pos}
theorem me_chain (ho : OpR X (compareOp op) (rD X.K ca W false fd)) (ho' : OpR X (compareOp op') (rD X.K ca W false fd')) (ha : PE X a (tE X.K ca W ma)) (hb : PE X b (tE X.K ca W mb)) (hc : PE X c (tE X.K ca W mc))
    (hm : lastMarks [op, op'] [b, c] = false := by with_unfolding_all rfl) : PE X (.Compare a [op, op'] [b, c] pos) (tE X.K ca W (chM fd fd' ma mb mc)) := peOf (pe_chain ho ho' ha hb hc hm) fun _ _ _ h => tChain_of h
theorem mt_chain (ho : OpR X (compareOp op) (rD X.K ca W false fd)) (ho' : OpR X (compareOp op') (rD X.K ca W false fd')) (ha : PE X a (tE X.K ca W ma)) (hb : PE X b (tE X.K ca W mb)) (hc : PE X c (tE X.K ca W mc))
    (hm : lastMarks [op, op'] [b, c] = false := by with_unfolding_all rfl) : PT X (.Compare a [op, op'] [b, c] pos) (tT X.K ca W (tst (chM fd fd' ma mb mc))) := ptOf (pt_chain ho ho' ha hb hc hm) fun _ _ _ h => tst_of (fun _ _ _ z => tChain_of z) h
end
end Mn

set_option Elab.async false
set_option linter.all false
set_option maxRecDepth 100000
set_option maxHeartbeats 4000000
/-! range of three; a module's ints; suites by the class that came; the end of a law. -/
namespace Mn
open PySem PySem.Spec PyProof.Rows L2

/-! ### range(i, j, c) -/
def rngC (i j c : Int) : List D := (List.range (Builtin.Range.rangeSize i j c).toNat).map fun (k : Nat) => .int (i + (k : Int) * c)
def rngA3 : List D → Option (List D)
  | [.int i, .int j, .int c] => if (decide (c ≠ 0) && decide (c.natAbs < 1073741824) && Builtin.Range.small i j c && decide (0 ≤ Builtin.Range.rangeSize i j c)) = true then some (rngC i j c) else none
  | _ => none
theorem rngA3_inv {ds l : List D} (h : rngA3 ds = some l) : ∃ i j c, ds = [.int i, .int j, .int c] ∧ RgC i j c (Builtin.Range.rangeSize i j c).toNat ∧ l = rngC i j c := by
  unfold rngA3 at h
  split at h
  · rename_i i j c
    split at h
    · rename_i q
      simp only [Bool.and_eq_true, decide_eq_true_eq] at q
      obtain ⟨⟨⟨q1, q2⟩, q3⟩, q4⟩ := q
      exact ⟨i, j, c, rfl, ⟨q1, q2, q3, by omega⟩, by cases h; rfl⟩
    · cases h
  · cases h
theorem rngC_get {i j c : Int} {k : Nat} {d : D} (h : (rngC i j c)[k]? = some d) : k < (Builtin.Range.rangeSize i j c).toNat ∧ d = .int (i + (k : Int) * c) := by
  unfold rngC at h
  rw [List.getElem?_map] at h
  obtain ⟨k', h1, h2⟩ := Option.map_eq_some_iff.mp h
  obtain ⟨h3, h4⟩ := List.getElem?_eq_some_iff.mp h1
  rw [List.getElem_range] at h4
  subst h4
  exact ⟨by simpa using h3, h2.symm⟩
theorem rngC_end {i j c : Int} {k : Nat} (h : (rngC i j c).length ≤ k) : (Builtin.Range.rangeSize i j c).toNat ≤ k := by
  unfold rngC at h
  rw [List.length_map, List.length_range] at h
  exact h
theorem DRs.three {K : Fg} {β ι : List Addr} {H : Hp} {a b c : D} {xs : List V} (h : DRs K β ι H [a, b, c] xs) : ∃ x y z, xs = [x, y, z] ∧ DR K β ι H a x ∧ DR K β ι H b y ∧ DR K β ι H c z := by
  unfold DRs at h
  obtain ⟨x, r, e, h1, h2⟩ := h
  obtain ⟨y, z, e2, h3, h4⟩ := h2.two
  exact ⟨x, y, z, by rw [e, e2], h1, h3, h4⟩
section
variable {X : Cx} {ca : Str → Addr} {W : WX} {a b c : Expr} {pos : Pos} {na : AM} {p : SM}
theorem ms_for3 {tg : Expr} {p1 p2 : Pos} {body : List Stmt} {pt : Pt} (hp : PassesOwn (model X.prog X.w) X.A X.env X.xe) (hc : X.calm = true) (hgl : Gl X "range") (hm : X.mg "range" = none) (ha : PA X [a, b, c] (tA X.K ca W na)) (hg : PG X tg (tG X.K pt)) (hb : PSs X body (tS X.K ca W p))
    (hsa : starEach [a, b, c] X.env = (false, eval a X.env) :: starEach [b, c] X.env := by rfl) (hpl : (backTo p2 (starEach [b, c] X.env)).any (·.1) = false := by rfl) (hs : ∀ x, foldedSetIterable (.Call (.Name "range" p1) [a, b, c] [] p2) X.env x = pure x := by intro _; rfl) :
    PS X (.For tg (.Call (.Name "range" p1) [a, b, c] [] p2) body [] pos) (tS X.K ca W (forR rngA3 pt na p)) := psOf (ps_for hp hc (pi_range3 hgl hm ha hsa hpl) hg hb hs) fun E σ H ⟨β, ι, ρ, g, r, s, h⟩ =>
  (tA_bindS r s h).mono fun vs H1 ⟨ι1, ds, g1, x1, r1, s1, dvs, h1⟩ => by
    cases q : rngA3 ds with
    | none => rw [q] at h1; exact h1.elim
    | some l =>
      rw [q] at h1
      obtain ⟨i, j, k, e1, hR, e2⟩ := rngA3_inv q
      subst e1 e2
      obtain ⟨v, u, z, ev, dv, du, dz⟩ := dvs.three
      unfold DR at dv du dz
      subst dv du dz
      exact ⟨i, j, k, _, ev, hR, for_items (l := rngC i j k) (fun _ _ => True) (fun _ _ _ _ _ _ _ _ => trivial) (fun n H ι hl _ => rngC_end hl) (fun n H ι d hd _ => (rngC_get hd).1) (fun n H ι g d x H' r hd _ y => by
        obtain ⟨y1, y2⟩ := y
        refine ⟨y1, ?_⟩
        rw [(rngC_get hd).2, y2]
        unfold DR
        rfl) r1 s1 trivial h1⟩
variable {tg : Expr} {pt : Pt} {ifs : List Expr} {ct : TM} {elt : Expr} {e : EM} {scope : Scope} {own : List (Str × Nat)}
theorem lc_src3 {vs : List Nat} {o : Bool} (hpt : ∀ j ∈ pt.slots, j ∈ vs) {σ : Sg} {H : Hp} {Q : VK} (h : tE X.K ca W (lcR rngA3 o na pt ct e vs) σ H Q) : tLc (iRng3 (tA X.K ca W na)) (tG X.K pt) (tT X.K ca W0 ct) (tE X.K ca W0 e) vs σ H Q := by
  obtain ⟨β, ι, ρ, g, r, s, h⟩ := h
  refine (tA_bind r s h).mono fun ws H1 ⟨ι1, ds, g1, x1, r1, s1, dvs, h1⟩ => ?_
  cases q : rngA3 ds with
  | none => rw [q] at h1; exact h1.elim
  | some l =>
    rw [q] at h1
    obtain ⟨i, j, k, e1, hR, e2⟩ := rngA3_inv q
    subst e1 e2
    obtain ⟨v, u, z, ev, dv, du, dz⟩ := dvs.three
    unfold DR at dv du dz
    subst dv du dz
    refine ⟨i, j, k, _, ev, hR, fun p hp => ?_⟩
    exact lc_turns (fun _ _ => True) hpt (fun _ _ _ _ _ _ _ _ => trivial) (fun _ _ _ _ _ _ => trivial) (fun n H ι g r hn _ => rngC_end (List.getElem?_eq_none_iff.mp (Option.some.inj hn)))
      (fun n H ι g d r hn _ => (rngC_get (Option.some.inj hn)).1) (fun n H ι g d x H' r hn _ y => by
        obtain ⟨y1, y2⟩ := y
        refine ⟨y1, ?_⟩
        rw [(rngC_get (Option.some.inj hn)).2, y2]
        unfold DR
        rfl) hp (r1.free hp).2 r1 s1 trivial h1
theorem me_lc3 (o : Bool) {p1 p2 : Pos} (hc : X.calm = true) (hN : X.N.Nodup) (hgl : Gl X "range") (hm : X.mg "range" = none) (ha : PA X [a, b, c] (tA X.K ca W na)) (B : Blk X ca scope own tg pt ifs ct elt e) (hsa : starEach [a, b, c] X.env = (false, eval a X.env) :: starEach [b, c] X.env := by rfl) (hpl : (backTo p2 (starEach [b, c] X.env)).any (·.1) = false := by rfl)
    (hs : ∀ x, foldedSetIterable (.Call (.Name "range" p1) [a, b, c] [] p2) X.env x = pure x := by intro _; rfl) :
    PE X (.ListComp elt [⟨tg, .Call (.Name "range" p1) [a, b, c] [] p2, ifs, 0⟩] scope pos) (tE X.K ca W (lcR rngA3 o na pt ct e (own.map (·.2)))) := peOf (pe_lc hc hN (pi_range3 hgl hm ha hsa hpl) B.ok B.g B.t B.e hs) fun _ _ _ h => lc_src3 B.sl h
theorem ms_setLc3 (o : Bool) {i : Nat} {y : Str} {p1 p2 py spos : Pos} (hc : X.calm = true) (hN : X.N.Nodup) (hy : X.N[i]? = some y) (hyl : X.env.scope.names.lookup y = some .local)
    (hsw : swapsWith (.ListComp elt [⟨tg, .Call (.Name "range" p1) [a, b, c] [] p2, ifs, 0⟩] scope pos) (some (.Name y py)) spos.line X.env = pure true) (hgl : Gl X "range") (hm : X.mg "range" = none) (ha : PA X [a, b, c] (tA X.K ca W na)) (B : Blk X ca scope own tg pt ifs ct elt e)
    (hsa : starEach [a, b, c] X.env = (false, eval a X.env) :: starEach [b, c] X.env := by rfl) (hpl : (backTo p2 (starEach [b, c] X.env)).any (·.1) = false := by rfl) (hs : ∀ x, foldedSetIterable (.Call (.Name "range" p1) [a, b, c] [] p2) X.env x = pure x := by intro _; rfl) :
    PS X (.Assign [.Name y py] (.ListComp elt [⟨tg, .Call (.Name "range" p1) [a, b, c] [] p2, ifs, 0⟩] scope pos) spos) (tS X.K ca W (setM i (lcR rngA3 o na pt ct e (own.map (·.2))))) :=
  psOf (ps_setLc hc hN hy hyl hsw (pi_range3 hgl hm ha hsa hpl) B.ok B.g B.t B.e hs) fun _ _ _ h => set_lc (fun _ _ _ z => lc_src3 B.sl z) h

/-! ### a module's int -/
theorem me_gint {x : Str} {i : Int} (hg : Gl X x) (hm : ∃ t, X.mg x = some (.int i t)) (hd : (x == ("__debug__" : Str)) = false := by decide) : PE X (.Name x pos) (tE X.K ca W (cM (.int i))) := by
  obtain ⟨t, hm⟩ := hm
  exact me_c (pe_glob (v := .int i) hg hm ⟨t, rfl⟩ hd) fun _ _ _ => by unfold DR; rfl
end
/-! ### suites -/
/-- what a suite does, by the class that came: none where the class isn't in the list -/
def byC {α : Type} : List (Str × α) → Str → α → α
  | [], _, d => d
  | p :: r, c, d => if c = p.1 then p.2 else byC r c d
abbrev noS : List (Str × D) → SM := fun _ _ _ => .no
def suM (l : List (Str × (List (Str × D) → SM))) : Str → List (Str × D) → SM := fun c fs => byC l c noS fs
section
variable {Y : Cx} {ca : Str → Addr} {i : Nat} {a : Addr} {cls : Value} {d : Option Addr} {suite : List Stmt}
theorem suite_as {l : List (Str × (List (Str × D) → SM))} (h : ∀ p ∈ l, ∀ x fs, cls = .ref (ca p.1) → d = some x → PSs Y suite (tSx Y.K ca i a x fs (p.2 fs))) : PSs Y suite (sxM Y.K ca (some i) (suM l) a cls d) := by
  refine ⟨fun pins s σ H E I ⟨c, x, fs, e1, e2, q⟩ => ?_⟩
  have key : ∀ l' : List (Str × (List (Str × D) → SM)), (∀ p ∈ l', p ∈ l) → tSx Y.K ca i a x fs (byC l' c noS fs) E σ H → ∃ p ∈ l, p.1 = c ∧ tSx Y.K ca i a x fs (p.2 fs) E σ H := by
    intro l'
    induction l' with
    | nil => intro _ ⟨_, _, _, _, _, _, _, _, z⟩; exact z.elim
    | cons p r ih =>
      intro hm z
      unfold byC at z
      by_cases hc : c = p.1
      · rw [if_pos hc] at z
        exact ⟨p, hm p List.mem_cons_self, hc.symm, z⟩
      · rw [if_neg hc] at z
        exact ih (fun y hy => hm y (List.mem_cons_of_mem _ hy)) z
  obtain ⟨p, hp, e3, z⟩ := key l (fun _ h => h) q
  subst e3
  exact (h p hp x fs e1 e2).run pins s σ H E I z
theorem suite_no {m : SM} (h : PSs Y suite (tS Y.K ca W0 m)) : PSs Y suite (sxM Y.K ca none (fun _ _ => m) a cls d) :=
  ⟨fun pins s σ H E I ⟨_, _, _, _, _, q⟩ => h.run pins s σ H E I q⟩
end
end Mn

set_option Elab.async false
set_option linter.all false
set_option maxRecDepth 100000
set_option maxHeartbeats 4000000
/-! What the printed terms lean on. -/
namespace Mn
open PySem PySem.Spec PyProof.Rows L2
section
variable {X : Cx} {ca : Str → Addr} {hds : List ExceptHandler} {l : List ClM}
theorem mc_nil : ClsOk X [] (List.map (ClM.cl X.K ca) []) := .nil
theorem mc_named {x n c : Str} {i : Nat} {m : Str → List (Str × D) → SM} {b₀ : Stmt} {suite : List Stmt} {np pos' : Pos} (hc : Names X x (.ref (ca c))) (hi : X.N[i]? = some n) (hln : X.env.kindOf n = some .local)
    (hsu : ∀ (a : Addr) (oe : Obj) (cls : Value) (d : Option Addr) (pn : List (Addr × Obj)), Zc cls d oe → (∃ vs, oe.data = .fields vs) → PSs (X.suite a ((a, oe) :: pn)) (b₀ :: suite) (sxM X.K ca (some i) m a cls d)) (r : ClsOk X hds (List.map (ClM.cl X.K ca) l)) :
    ClsOk X (.ExceptHandler (some (.Name x np)) (some n) (b₀ :: suite) pos' :: hds) (List.map (ClM.cl X.K ca) (⟨c, some i, m⟩ :: l)) := ClsOk.named hc hi hln hsu r
theorem mc_bare {x c : Str} {m : Str → List (Str × D) → SM} {b₀ : Stmt} {suite : List Stmt} {np pos' : Pos} (hc : Names X x (.ref (ca c)))
    (hsu : ∀ (a : Addr) (oe : Obj) (cls : Value) (d : Option Addr) (pn : List (Addr × Obj)), Zc cls d oe → (∃ vs, oe.data = .fields vs) → PSs (X.suite a ((a, oe) :: pn)) (b₀ :: suite) (sxM X.K ca none m a cls d)) (r : ClsOk X hds (List.map (ClM.cl X.K ca) l)) :
    ClsOk X (.ExceptHandler (some (.Name x np)) none (b₀ :: suite) pos' :: hds) (List.map (ClM.cl X.K ca) (⟨c, none, m⟩ :: l)) := ClsOk.bare hc hsu r
def SuA (Y : Cx) (ca : Str → Addr) (i : Nat) (a : Addr) (cls : Value) (d : Option Addr) (suite : List Stmt) (l : List (Str × (List (Str × D) → SM))) : Prop := ∀ p ∈ l, ∀ x fs, cls = .ref (ca p.1) → d = some x → PSs Y suite (tSx Y.K ca i a x fs (p.2 fs))
theorem su_nil {Y : Cx} {i : Nat} {a : Addr} {cls : Value} {d : Option Addr} {suite : List Stmt} : SuA Y ca i a cls d suite [] := List.forall_mem_nil _
theorem su_cons {Y : Cx} {i : Nat} {a : Addr} {cls : Value} {d : Option Addr} {st : Stmt} {c : Str} {m : List (Str × D) → SM} {l : List (Str × (List (Str × D) → SM))} (h : ∀ x fs, cls = .ref (ca c) → d = some x → PS Y st (tSx Y.K ca i a x fs (m fs))) (r : SuA Y ca i a cls d [st] l) : SuA Y ca i a cls d [st] ((c, m) :: l) :=
  List.forall_mem_cons.mpr ⟨fun x fs e1 e2 => pss_one (h x fs e1 e2), r⟩
theorem clsV_ref (a : Addr) : ClsV (.ref a) (.ref a) := .own a
end
end Mn

set_option Elab.async false
set_option linter.all false
set_option maxRecDepth 100000
set_option maxHeartbeats 4000000
/-! The end of a law: its def is called with the script, by the mirror. -/
namespace Mn
open PySem PySem.Spec PyProof.Rows L2

/-- the script alone may be tracked, and only where the written part doesn't know it -/
structure Alone (K : Fg) (H : Hp) (a : Addr) (xs : List V) : Prop where
  at_ : ∀ b u, H b = some u → b = a ∧ K.lookup a = none ∧ ∃ ob, u = .frz ob (.lst xs)
  sq : (∃ o, H a = some (.frz o (.lst xs))) ∨ SqL K hp0 a xs
section
variable {P : Program} {w : World} {K : Fg} {mg mb : Str → Option Value} {k : Nat} {fa a : Addr} {fd : FuncData} {x : Str} {ca : Str → Addr} {m : FM} {S : Shared} {vs : List Value} {ns : List Int}
theorem law_run {H : Hp}
    (KX : K.In S.heap) (N1 : S.heap.Ns mainGlobals mg) (N2 : S.heap.Ns builtinsNs mb) (NB : ∀ y : Str, y ≠ "__name__" → mb y = bootBuiltins y)
    (NL : S.heap.NoLimit) (gens : S.gens = #[])
    (script : S.heap.get? a = some { cls := .type "list", data := .seq vs.toArray })
    (room : Room k callerA) (F : ∀ base : Heap, K.In base → base.Ns mainGlobals mg → FnG P w K mg base k fa fd [x] (spM K ca 1 m))
    (bind : ∀ (s : Shared) (u : Value), BindsTo s fd ⟨[u], []⟩ [(x, u)])
    (hm : ∃ g, m [.fz (ns.map D.int)] [] = .ok (.bl true) g) (al : Alone K H a (ns.map V.int)) (ok : HOk P w H S.heap) :
    codeAny (model P w) callerA (.call (.ref fa) ⟨[.ref a], []⟩)
      (fun r s' => r = .ok (.ret (.bool true)) ∧ OldK S.heap s'.heap ∧ s'.os = S.os ∧ AllBare s'.gens) S := by
  have free : ∀ {b : Addr} {o : Obj}, S.heap.get? b = some o → o.data ≠ .seq vs.toArray 0 → H b = none := by
    intro b o e d
    cases q : H b with
    | none => rfl
    | some u =>
      obtain ⟨rfl, _, _⟩ := al.at_ b u q
      rw [script] at e
      exact absurd (congrArg Obj.data (Option.some.inj e)).symm d
  have dictFree : ∀ {b : Addr} {f : Str → Option Value}, S.heap.Ns b f → (hidT S.heap H).Ns b f := by
    rintro b f ⟨o, es, ep, e, d, r⟩
    exact ⟨o, es, ep, hidT_get e (free e (by rw [d]; exact fun z => Data.noConfusion z)), d, r⟩
  have KB : K.In (hidT S.heap H) := by
    intro b o e
    refine hidT_get (KX b o e) ?_
    cases q : H b with
    | none => rfl
    | some u =>
      obtain ⟨rfl, z, _⟩ := al.at_ b u q
      rw [z] at e
      cases e
  obtain ⟨mc, c1, c2⟩ := NL
  have env : Env0 P w K mg (hidT S.heap H) callerA [] S H :=
    { frames := rfl, mod := ⟨KB, dictFree N1, ⟨mb, dictFree N2, NB⟩, ⟨mc, dictFree c1, c2⟩⟩, bs := fun b o e => of_hidT e, bsz := Nat.le_of_eq (hidT_size _ _),
      funs := trivial, frf := fun b hb => absurd (show b ∈ ([] : List Addr) from hb) (by simp), hok := ok, bare := .of_eq gens }
  obtain ⟨g, hg⟩ := hm
  have sp : spM K ca 1 m [.ref a] H (fun v _ => v = .bl true) fun _ _ _ => False := by
    refine ⟨rfl, [], [], [.fz (ns.map D.int)], [], ⟨rfl, List.nodup_nil, fun n a' o h => by simp at h, fun b hb => by simp at hb⟩, ?_, ?_⟩
    · refine DRs.cons' ?_ DRs.nil'
      unfold DR
      refine ⟨a, ns.map V.int, rfl, ?_, DRs.ofInts ns⟩
      rcases al.sq with h | h
      · exact .inl ⟨by simp, h⟩
      · exact .inr h
    · rw [hg]
      intro ι' v H' _ _ dv
      unfold DR at dv
      exact dv
  refine codeAny_mono ((F _ KB (dictFree N1)).run callerA [] S H ⟨[.ref a], []⟩ [.ref a] [.ref a] _ _ room rfl env (bind S (.ref a)) (.cons rfl .nil) sp) fun r s' h => ?_
  match r, h with
  | .error e, h =>
    obtain ⟨_, _, _, _, _, _, _, _, _, _, _, _, z⟩ := h
    exact z.elim
  | .ok .next, h => exact False.elim h
  | .ok .brk, h => exact False.elim h
  | .ok .cont, h => exact False.elim h
  | .ok (.ret u), h =>
    obtain ⟨v, H', os, bare, un, hok', r', q⟩ := h
    cases (show v = .bl true from q)
    cases (show u = Value.bool true from r')
    refine ⟨rfl, OldK.of_keep fun b o e => ?_, os, bare⟩
    cases q : H b with
    | none => exact un.keep b o e q (fun z => absurd (show b ∈ ([] : List Addr) from z) (by simp)) (by simp)
    | some u =>
      obtain ⟨rfl, _, ob, rfl⟩ := al.at_ b u q
      obtain ⟨e1, _⟩ := ok b _ q
      obtain ⟨e2, _⟩ := hok' b _ (un.frzs b ob _ q)
      rw [e] at e1
      cases e1
      exact e2
theorem law_meets
    (KX : K.In S.heap) (N1 : S.heap.Ns mainGlobals mg) (N2 : S.heap.Ns builtinsNs mb) (NB : ∀ y : Str, y ≠ "__name__" → mb y = bootBuiltins y)
    (NL : S.heap.NoLimit) (gens : S.gens = #[])
    (script : S.heap.get? a = some { cls := .type "list", data := .seq vs.toArray }) (intsH : IntsAre vs ns) (few : ns.length ≤ sizeLine)
    (room : Room k callerA) (F : ∀ base : Heap, K.In base → base.Ns mainGlobals mg → FnG P w K mg base k fa fd [x] (spM K ca 1 m))
    (bind : ∀ (s : Shared) (u : Value), BindsTo s fd ⟨[u], []⟩ [(x, u)])
    (hm : ∃ g, m [.fz (ns.map D.int)] [] = .ok (.bl true) g) :
    codeAny (model P w) callerA (.call (.ref fa) ⟨[.ref a], []⟩)
      (fun r s' => r = .ok (.ret (.bool true)) ∧ OldK S.heap s'.heap ∧ s'.os = S.os ∧ AllBare s'.gens) S := by
  have rv := vals_ints intsH
  have few' : (ns.map V.int).length ≤ sizeLine := by rw [List.length_map]; exact few
  cases hk : K.lookup a with
  | some o =>
    have e := KX a o hk
    rw [script] at e
    cases e
    have sq : SqL K hp0 a (ns.map V.int) := .inr ⟨_, vs.toArray, _, hk, rfl, rfl, rfl, by rw [List.size_toArray, ← rv.length]; exact few', by simpa using rv⟩
    exact law_run (H := hp0) KX N1 N2 NB NL gens script room F bind hm (Alone.mk (fun b u z => by have z' : (none : Option HO) = some u := z; cases z') (.inr sq)) fun b u z => by have z' : (none : Option HO) = some u := z; cases z'
  | none =>
    let Hs : Hp := fun b => if b = a then some (.frz { cls := .type "list", data := .seq vs.toArray } (.lst (ns.map V.int))) else none
    have at_a : ∀ b u, Hs b = some u → b = a ∧ u = .frz { cls := .type "list", data := .seq vs.toArray } (.lst (ns.map V.int)) := by
      intro b u z
      by_cases c : b = a
      · have z' := (if_pos c).symm.trans z
        exact ⟨c, (Option.some.inj z').symm⟩
      · have z' := (if_neg c).symm.trans z
        cases z'
    refine law_run (H := Hs) KX N1 N2 NB NL gens script room F bind hm ⟨fun b u z => ⟨(at_a b u z).1, hk, _, (at_a b u z).2⟩, .inl ⟨_, if_pos rfl⟩⟩ fun b u z => ?_
    obtain ⟨rfl, rfl⟩ := at_a b u z
    exact ⟨script, few', vs, _, rv, script⟩
end
/-- a law by its def's mirror -/
theorem walkG {l : PySem.W.OpenLaw} {n k : Nat} {q : Program} {loose : List Str} {XP : (Str → Option Value) → Heap → Prop} {YP : World → Heap → Prop} {d : DefRec} {K : Params → Fg} {x : Str} {m : FM}
    (h1 : l.most = some n) (h2 : n ≤ sizeLine) (h3 : d.params.defaults = []) (room : Room k callerA) (hY : ∀ (w : World) (h : Heap), YP w h → (K w.params).In h)
    (F : ∀ (w : World) (mg : Str → Option Value) (fa : Addr) (h : Heap), (K w.params).In h → h.Ns mainGlobals mg → mg d.name = some (.ref fa) →
      ∃ (fd : FuncData) (ca : Str → Addr), (∀ (s : Shared) (u : Value), BindsTo s fd ⟨[u], []⟩ [(x, u)]) ∧
        ∀ base : Heap, (K w.params).In base → base.Ns mainGlobals mg → FnG l.prog w (K w.params) mg base k fa fd [x] (spM (K w.params) ca 1 m))
    (law : ∀ ns : List Int, ns.length ≤ n → (∀ z ∈ ns, Builtin.Int.intBits z ≤ 1048576) → ∃ g, m [.fz (ns.map D.int)] [] = .ok (.bl true) g) :
    PySem.W.WalkO q loose XP YP l.row.toRowW d [] (fun f vs => PySem.call f vs) := by
  refine Att.attach_callB h1 h3 fun w s₀ S mg mb fa o pm cd doc a vs ns G Y ho hd hcd hmg hobj intsH few bits gens => ?_
  have KX := hY w _ Y
  obtain ⟨fd, ca, bind, hF⟩ := F w mg fa _ KX G.T.g hmg
  exact law_meets KX G.T.g G.T.b G.T.builtins G.T.nolimit gens hobj intsH (Nat.le_trans few h2) room hF bind (law ns few bits)
end Mn

set_option Elab.async false
set_option linter.all false
set_option maxRecDepth 100000
set_option maxHeartbeats 4000000
/-! The mirrors, step by step: plain rows for the simplifier. -/
namespace Mn
open PySem PySem.Spec PyProof.Rows L2
section
variable {α : Type} {ρ : Rho} {g : G} {n i j k : Nat} {m m2 m3 : EM} {na : AM} {t t2 : TM} {s s2 : SM} {ds : List D} {d e : D} {z y : Int} {o : Bool}
@[simp] theorem e_defM : defM n s ds g = match s (start0 n ds) g with
  | .ok (.nx _) g' => .ok .non g'
  | .ok (.rt d) g' => .ok d g'
  | .ok _ _ => .no
  | .exc c fs ρ g' => .exc c fs ρ g'
  | .no => .no := rfl
@[simp] theorem e_start : start0 n ds = ds.map some ++ List.replicate (n - ds.length) none := rfl
@[simp] theorem e_nx : nxM ρ g = .ok (.nx ρ) g := rfl
@[simp] theorem e_seq : seqM s s2 ρ g = match s ρ g with
  | .ok (.nx ρ') g' => s2 ρ' g'
  | r => r := rfl
@[simp] theorem e_bindE {f : D → Rho → G → Res α} : bindE m f ρ g = match m ρ g with
  | .ok d g' => f d ρ g'
  | .exc c fs ρ' g' => .exc c fs ρ' g'
  | .no => .no := by unfold bindE; cases m ρ g <;> rfl
@[simp] theorem e_bindA {f : List D → Rho → G → Res α} : bindA na f ρ g = match na ρ g with
  | .ok d g' => f d ρ g'
  | .exc c fs ρ' g' => .exc c fs ρ' g'
  | .no => .no := by unfold bindA; cases na ρ g <;> rfl
@[simp] theorem e_bindT {f : Bool → Rho → G → Res α} : bindT t f ρ g = match t ρ g with
  | .ok d g' => f d ρ g'
  | .exc c fs ρ' g' => .exc c fs ρ' g'
  | .no => .no := by unfold bindT; cases t ρ g <;> rfl
@[simp] theorem e_set : setM i m ρ g = bindE m (fun d => fun ρ g => .ok (.nx (ρ.set i (some d))) g) ρ g := rfl
@[simp] theorem e_drop : dropM m ρ g = bindE m (fun _ => fun ρ g => .ok (.nx ρ) g) ρ g := rfl
@[simp] theorem e_ret : retM m ρ g = bindE m (fun d => fun _ g => .ok (.rt d) g) ρ g := rfl
@[simp] theorem e_retN : retN ρ g = .ok (.rt .non) g := rfl
@[simp] theorem e_brk : brkM ρ g = .ok (.bk ρ) g := rfl
@[simp] theorem e_cnt : cntM ρ g = .ok (.ct ρ) g := rfl
@[simp] theorem e_if : ifM t s s2 ρ g = bindT t (fun b => match b with | true => s | false => s2) ρ g := rfl
@[simp] theorem e_tst : tst m ρ g = bindE m (fun d => fun _ g => match d with | .bl b => .ok b g | _ => .no) ρ g := rfl
@[simp] theorem e_notM : notM t ρ g = bindT t (fun b => fun _ g => .ok (!b) g) ρ g := rfl
@[simp] theorem e_andM : andM t t2 ρ g = bindT t (fun b => match b with | true => t2 | false => fun _ g => .ok false g) ρ g := rfl
@[simp] theorem e_orM : orM t t2 ρ g = bindT t (fun b => match b with | true => fun _ g => .ok true g | false => t2) ρ g := rfl
@[simp] theorem e_andV : andV m m2 ρ g = bindE m (fun d => match d with | .bl true => m2 | .bl false => fun _ g => .ok (.bl false) g | _ => fun _ _ => .no) ρ g := rfl
@[simp] theorem e_orV : orV m m2 ρ g = bindE m (fun d => match d with | .bl false => m2 | .bl true => fun _ g => .ok (.bl true) g | _ => fun _ _ => .no) ρ g := rfl
@[simp] theorem e_var : varM i ρ g = match ρ[i]? with
  | some (some d) => .ok d g
  | _ => .no := rfl
@[simp] theorem e_c : cM d ρ g = .ok d g := rfl
@[simp] theorem e_bin {fd : G → D → D → Option Nv} : binM o fd m m2 ρ g = bindE m (fun d1 => bindE m2 fun d2 => fun _ g => fin o (fd g d1 d2) g) ρ g := rfl
@[simp] theorem e_un {fd : D → Option D} : unM fd m ρ g = bindE m (fun d => fun _ g => match fd d with | some e => .ok e g | none => .no) ρ g := rfl
@[simp] theorem e_neg : negD (.int z) = some (.int (-z)) := rfl
@[simp] theorem e_ch {fd fd' : G → D → D → Option Nv} : chM fd fd' m m2 m3 ρ g = bindE m (fun d1 => bindE m2 fun d2 => fun ρ g => match fd g d1 d2 with
  | some (.v (.bl true)) => bindE m3 (fun d3 => fun _ g' => fin false (fd' g' d2 d3) g') ρ g
  | some (.v (.bl false)) => .ok (.bl false) g
  | _ => .no) ρ g := rfl
@[simp] theorem e_finv : fin o (some (.v d)) g = .ok d g := rfl
@[simp] theorem e_finn : fin false (some (.n ds)) g = .ok (.fl ds) g := rfl
@[simp] theorem e_fino : fin true (some (.n ds)) g = .ok (.obj g.length) (g ++ [.lst ds]) := rfl
@[simp] theorem e_fin0 : fin o none g = .no := by cases o <;> rfl
@[simp] theorem e_nil : nilA ρ g = .ok [] g := rfl
@[simp] theorem e_cons : consA m na ρ g = bindE m (fun d => bindA na fun ds => fun _ g => .ok (d :: ds) g) ρ g := rfl
@[simp] theorem e_tup : tupM na ρ g = bindA na (fun ds => fun _ g => if ds.length ≤ LIM then .ok (.tup ds) g else .no) ρ g := rfl
@[simp] theorem e_lst : lstM o na ρ g = bindA na (fun ds => fun _ g => if ds.length ≤ LIM then fin o (some (.n ds)) g else .no) ρ g := rfl
@[simp] theorem e_cal {fd : G → List D → Option Nv} : calM o fd na ρ g = bindA na (fun ds => fun _ g => fin o (fd g ds) g) ρ g := rfl
@[simp] theorem e_call {f : FM} : callM n f na ρ g = bindA na (fun ds => fun ρ g => if ds.length = n then
    match f ds g with
    | .ok d g' => .ok d g'
    | .exc c fs _ g' => .exc c fs ρ g'
    | .no => .no
  else .no) ρ g := rfl
@[simp] theorem e_asg {p : Pt} : asgM p m ρ g = bindE m (fun d => fun ρ g => match p.put d ρ with
  | some ρ' => .ok (.nx ρ') g
  | none => .no) ρ g := rfl
@[simp] theorem e_par : parM i j na ρ g = bindA na (fun ds => fun ρ g => match ds with
  | [d, d'] => .ok (.nx ((ρ.set i (some d)).set j (some d'))) g
  | _ => .no) ρ g := rfl
@[simp] theorem e_putn : Pt.put (.nm i) d ρ = some (ρ.set i (some d)) := by unfold Pt.put; rfl
@[simp] theorem e_putt {l : List Pt} : Pt.put (.tp l) (.tup ds) ρ = if l.length = ds.length then Pt.puts l ds ρ else none := by unfold Pt.put; rfl
@[simp] theorem e_puts0 : Pt.puts [] ds ρ = some ρ := by unfold Pt.puts; rfl
@[simp] theorem e_puts {p : Pt} {l : List Pt} : Pt.puts (p :: l) (d :: ds) ρ = match Pt.put p d ρ with
  | some ρ' => Pt.puts l ds ρ'
  | none => none := by cases h : Pt.put p d ρ <;> simp [Pt.puts, h]
@[simp] theorem e_int {c : Int → Int → Bool} {f : Int → Int → D} : intD c f g (.int z) (.int y) = if c z y = true then some (.v (f z y)) else none := rfl
@[simp] theorem e_add : addD g (.int z) (.int y) = some (.v (.int (z + y))) := rfl
@[simp] theorem e_addt {l r : List D} : addD g (.tup l) (.tup r) = if l.length + r.length ≤ LIM then some (.v (.tup (l ++ r))) else none := rfl
@[simp] theorem e_intC : intC g [.int z] = some (.v (.int z)) := rfl
@[simp] theorem e_intB {b : Bool} : intC g [.bl b] = some (.v (.int (if b then 1 else 0))) := rfl
@[simp] theorem e_gcd : gcdC g [.int z, .int y] = some (.v (.int ((Nat.gcd z.natAbs y.natAbs : Nat) : Int))) := rfl
@[simp] theorem e_top2 {f : Int → Int → Bool} : topC f g [.int z, .int y] = some (.v (.int (if f z y = true then y else z))) := rfl
@[simp] theorem e_lenT : lenD g [.tup ds] = some (.v (.int ds.length)) := rfl
@[simp] theorem e_lenF : lenD g [.fl ds] = some (.v (.int ds.length)) := rfl
@[simp] theorem e_lenZ : lenD g [.fz ds] = some (.v (.int ds.length)) := rfl
@[simp] theorem e_ixT : ixD g (.tup ds) (.int z) = (atI ds z).map .v := rfl
@[simp] theorem e_ixF : ixD g (.fl ds) (.int z) = (atI ds z).map .v := rfl
@[simp] theorem e_ixZ : ixD g (.fz ds) (.int z) = (atI ds z).map .v := rfl
@[simp] theorem e_tupT : tupC g [.tup ds] = some (.v (.tup ds)) := rfl
@[simp] theorem e_tupF : tupC g [.fl ds] = some (.v (.tup ds)) := rfl
@[simp] theorem e_lisT : lisC g [.tup ds] = some (.n ds) := rfl
@[simp] theorem e_lim0 : (0 ≤ LIM) = True := by simp
@[simp] theorem e_at0 {l : List D} : atI (d :: l) 0 = some d := by unfold atI L2.ixN; simp
@[simp] theorem e_at1 {a : D} {l : List D} : atI (a :: d :: l) 1 = some d := atI_nat (j := 1) rfl
@[simp] theorem e_at2 {a b : D} {l : List D} : atI (a :: b :: d :: l) 2 = some d := atI_nat (j := 2) rfl
@[simp] theorem e_at3 {a b c : D} {l : List D} : atI (a :: b :: c :: d :: l) 3 = some d := atI_nat (j := 3) rfl
end
theorem limS {n : Nat} (h : n ≤ 1000000) : (n ≤ LIM) = True := eq_true h
end Mn

set_option Elab.async false
set_option linter.all false
set_option maxRecDepth 100000
set_option maxHeartbeats 4000000
/-! The mirrors' loops, plainly. -/
namespace Mn
open PySem PySem.Spec PyProof.Rows L2
/-! ### comprehensions -/
theorem lcN_map {f : D → D} {l : List D} {pt : Pt} {c : TM} {e : EM} {vs : List Nat} {ρ : Rho} {g : G} (h : ∀ d ∈ l, ∃ ρ1, pt.put d (wipeD ρ vs) = some ρ1 ∧ c ρ1 g = .ok true g ∧ e ρ1 g = .ok (f d) g) :
    ∀ k i, i ≤ l.length → l.length < k + i → lcN (fun i _ => some l[i]?) pt c e vs k i ρ g = .ok ((l.drop i).map f) g
  | 0, i, h1, h2 => by omega
  | k + 1, i, h1, h2 => by
    unfold lcN
    by_cases c0 : i < l.length
    · have e0 : l[i]? = some l[i] := List.getElem?_eq_getElem c0
      obtain ⟨ρ1, p1, p2, p3⟩ := h l[i] (List.getElem_mem c0)
      simp only [e0, p1, p2, p3]
      rw [lcN_map h k (i + 1) (by omega) (by omega)]
      simp only
      rw [List.drop_eq_getElem_cons c0, List.map_cons]
    · have e0 : l[i]? = none := List.getElem?_eq_none_iff.mpr (by omega)
      simp only [e0]
      rw [List.drop_eq_nil_of_le (by omega)]
      rfl
section
variable {α : Type} {ρ : Rho} {g : G} {n i j k : Nat} {m : EM} {na : AM} {t : TM} {s : SM} {ds l : List D} {d : D} {o : Bool} {pt : Pt} {e : EM} {vs : List Nat}
theorem lcN_all {f : D → D} (h : ∀ d ∈ l, ∃ ρ1, pt.put d (wipeD ρ vs) = some ρ1 ∧ t ρ1 g = .ok true g ∧ e ρ1 g = .ok (f d) g) (hl : l.length ≤ LIM) : lcN (fun i _ => some l[i]?) pt t e vs LK 0 ρ g = .ok (l.map f) g := by
  have z : l.length < LK + 0 := by have : LIM = 1000000 := rfl; have : LK = 1000001 := rfl; omega
  rw [lcN_map h LK 0 (Nat.zero_le _) z]; rfl
@[simp] theorem e_lcR {f : List D → Option (List D)} : lcR f o na pt t e vs ρ g = bindA na (fun ds => fun ρ g => match f ds with
  | some l => finL o (lcN (fun i _ => some l[i]?) pt t e vs LK 0 ρ g)
  | none => .no) ρ g := rfl
@[simp] theorem e_lcM : lcM o m pt t e vs ρ g = bindE m (fun s => fun ρ g => match srcNx s with
  | some nx => finL o (lcN nx pt t e vs LK 0 ρ g)
  | none => .no) ρ g := rfl
@[simp] theorem e_srcT : srcNx (.tup l) = some fun i _ => some l[i]? := rfl
@[simp] theorem e_srcF : srcNx (.fl l) = some fun i _ => some l[i]? := rfl
@[simp] theorem e_yes : yesT ρ g = .ok true g := rfl
theorem e_finL (h : l.length ≤ LIM) : finL o (.ok l g) = fin o (some (.n l)) g := by unfold finL; simp only [if_pos h]
@[simp] theorem e_wipe0 : wipeD ρ [] = ρ := rfl
@[simp] theorem e_wipe {v : Nat} : wipeD ρ (v :: vs) = (wipeD ρ vs).set v none := rfl
/-! ### for -/
@[simp] theorem e_forM : forM pt m s ρ g = bindE m (fun x => match x with
  | .tup l => forD pt s l
  | .fl l => forD pt s l
  | .fz l => forD pt s l
  | .obj n => forO pt s n LIM 0
  | _ => fun _ _ => .no) ρ g := rfl
@[simp] theorem e_forR {f : List D → Option (List D)} : forR f pt na s ρ g = bindA na (fun ds => match f ds with
  | some l => forD pt s l
  | none => fun _ _ => .no) ρ g := rfl
@[simp] theorem e_for0 : forD pt s [] ρ g = .ok (.nx ρ) g := rfl
theorem e_for : forD pt s (d :: l) ρ g = match pt.put d ρ with
    | some ρ1 => match s ρ1 g with
      | .ok (.nx ρ') g' => forD pt s l ρ' g'
      | .ok (.ct ρ') g' => forD pt s l ρ' g'
      | .ok (.bk ρ') g' => .ok (.nx ρ') g'
      | r => r
    | none => .no := rfl
/-- a loop whose turns go on: by a property of the slots and the heap behind each prefix -/
theorem forD_inv (I : List D → Rho → G → Prop) : ∀ (l pre : List D) (ρ : Rho) (g : G), I pre ρ g → (∀ (d : D) (pre post : List D) (ρ : Rho) (g : G), I pre ρ g → ∃ ρ1 ρ2 g2, pt.put d ρ = some ρ1 ∧ s ρ1 g = .ok (.nx ρ2) g2 ∧ I (pre ++ [d]) ρ2 g2) →
    ∃ ρ2 g2, forD pt s l ρ g = .ok (.nx ρ2) g2 ∧ I (pre ++ l) ρ2 g2
  | [], pre, ρ, g, h, _ => ⟨ρ, g, rfl, by rw [List.append_nil]; exact h⟩
  | d :: l, pre, ρ, g, h, hs => by
    obtain ⟨ρ1, ρ2, g2, e1, e2, h2⟩ := hs d pre l ρ g h
    obtain ⟨ρ3, g3, e3, h3⟩ := forD_inv I l (pre ++ [d]) ρ2 g2 h2 hs
    refine ⟨ρ3, g3, ?_, by rw [List.append_assoc] at h3; exact h3⟩
    rw [e_for, e1]
    simp only [e2]
    exact e3
/-- the same, each item by its place among the items -/
theorem forD_inv2 {l : List D} (I : List D → Rho → G → Prop) (hs : ∀ (d : D) (pre : List D) (ρ : Rho) (g : G), d ∈ l → I pre ρ g → ∃ ρ1 ρ2 g2, pt.put d ρ = some ρ1 ∧ s ρ1 g = .ok (.nx ρ2) g2 ∧ I (pre ++ [d]) ρ2 g2) :
    ∀ (l' pre : List D) (ρ : Rho) (g : G), (∀ d ∈ l', d ∈ l) → I pre ρ g → ∃ ρ2 g2, forD pt s l' ρ g = .ok (.nx ρ2) g2 ∧ I (pre ++ l') ρ2 g2
  | [], pre, ρ, g, _, h => ⟨ρ, g, rfl, by rw [List.append_nil]; exact h⟩
  | d :: l', pre, ρ, g, hm, h => by
    obtain ⟨ρ1, ρ2, g2, e1, e2, h2⟩ := hs d pre ρ g (hm d List.mem_cons_self) h
    obtain ⟨ρ3, g3, e3, h3⟩ := forD_inv2 I hs l' (pre ++ [d]) ρ2 g2 (fun x hx => hm x (List.mem_cons_of_mem _ hx)) h2
    refine ⟨ρ3, g3, ?_, by rw [List.append_assoc] at h3; exact h3⟩
    rw [e_for, e1]
    simp only [e2]
    exact e3
end
/-! ### calls apart -/
mutual
theorem mapO_pure (h : Nat → Option D) : ∀ d : D, pureD d = true → mapO h d = some d
  | .non, _ => by unfold mapO; rfl
  | .bl _, _ => by unfold mapO; rfl
  | .int _, _ => by unfold mapO; rfl
  | .str _, _ => by unfold mapO; rfl
  | .tup l, p => by unfold pureD at p; unfold mapO; rw [mapOs_pure h l p]; rfl
  | .fl l, p => by unfold pureD at p; unfold mapO; rw [mapOs_pure h l p]; rfl
  | .fz l, p => by unfold pureD at p; unfold mapO; rw [mapOs_pure h l p]; rfl
  | .obj _, p => by unfold pureD at p; cases p
theorem mapOs_pure (h : Nat → Option D) : ∀ l : List D, pureDs l = true → mapOs h l = some l
  | [], _ => by unfold mapOs; rfl
  | d :: l, p => by
    unfold pureDs at p
    rw [Bool.and_eq_true] at p
    unfold mapOs
    rw [mapO_pure h d p.1, mapOs_pure h l p.2]
end
theorem pureF_ok {m : FM} {ds : List D} {g g' : G} {d : D} (h1 : pureDs ds = true) (h2 : m ds [] = .ok d g') (h3 : pureD d = true) : pureF m ds g = .ok d g := by
  have e : frzD g' d = some d := mapO_pure _ d h3
  unfold pureF
  simp only [h1, if_true, h2, e]
theorem pureDs_map {α : Type} {f : α → D} : ∀ {l : List α}, (∀ x ∈ l, pureD (f x) = true) → pureDs (l.map f) = true
  | [], _ => by unfold pureDs; rfl
  | x :: l, h => by
    rw [List.map_cons]
    unfold pureDs
    rw [h x List.mem_cons_self, pureDs_map fun y hy => h y (List.mem_cons_of_mem _ hy)]
    rfl
/-! ### ranges -/
def rngZ (i j c : Int) : List Int := (List.range (Builtin.Range.rangeSize i j c).toNat).map fun (k : Nat) => i + (k : Int) * c
theorem rngC_Z (i j c : Int) : rngC i j c = (rngZ i j c).map D.int := by unfold rngC rngZ; rw [List.map_map]; rfl
theorem size_pos {i j c : Int} (hc : 0 < c) : Builtin.Range.rangeSize i j c = if i < j then (j - i - 1) / c + 1 else 0 := by
  unfold Builtin.Range.rangeSize
  rw [if_pos hc]
theorem mem_rngZ {i j c x : Int} (hc : 0 < c) : x ∈ rngZ i j c ↔ i ≤ x ∧ x < j ∧ ∃ t, x = i + t * c := by
  unfold rngZ
  rw [List.mem_map]
  constructor
  · rintro ⟨k, hk, rfl⟩
    have h := List.mem_range.mp hk
    rw [size_pos hc] at h
    by_cases c0 : i < j
    · rw [if_pos c0] at h
      have h1 : (k : Int) ≤ (j - i - 1) / c := by omega
      have h2 := (Int.le_ediv_iff_mul_le hc).mp h1
      have h3 : 0 ≤ (k : Int) * c := Int.mul_nonneg (by omega) (by omega)
      exact ⟨by omega, by omega, k, rfl⟩
    · rw [if_neg c0] at h
      simp at h
  · rintro ⟨h1, h2, t, rfl⟩
    have t0 : 0 ≤ t := by
      by_cases z : 0 ≤ t
      · exact z
      · have := Int.mul_le_mul_of_nonneg_right (show t ≤ -1 by omega) (Int.le_of_lt hc)
        omega
    have t1 : t ≤ (j - i - 1) / c := (Int.le_ediv_iff_mul_le hc).mpr (by omega)
    refine ⟨t.toNat, List.mem_range.mpr ?_, by rw [Int.toNat_of_nonneg t0]⟩
    rw [size_pos hc, if_pos (by have := Int.mul_nonneg t0 (Int.le_of_lt hc); omega)]
    omega
theorem rngZ_asc {i j c : Int} (hc : 0 < c) : (rngZ i j c).Pairwise (· < ·) := by
  unfold rngZ
  rw [List.pairwise_map]
  refine (List.pairwise_lt_range (n := _)).imp fun {x y} q => ?_
  have := Int.mul_lt_mul_of_pos_right (show (x : Int) < y by omega) hc
  omega
theorem rngZ_len {i j c : Int} (hc : 0 < c) : ((rngZ i j c).length : Int) ≤ if i < j then j - i else 0 := by
  unfold rngZ
  rw [List.length_map, List.length_range, size_pos hc]
  by_cases c0 : i < j
  · rw [if_pos c0, if_pos c0]
    have : (j - i - 1) / c ≤ j - i - 1 := Int.ediv_le_self _ (by omega)
    have : 0 ≤ (j - i - 1) / c := Int.ediv_nonneg (by omega) (by omega)
    omega
  · rw [if_neg c0, if_neg c0]; decide
theorem rngA3_ok {i j c : Int} (h0 : 0 < c) (h1 : c < 1073741824) (i0 : -(2 ^ 62) ≤ i) (i1 : i < 2 ^ 62) (j0 : -(2 ^ 62) ≤ j) (j1 : j < 2 ^ 62) : rngA3 [.int i, .int j, .int c] = some (rngC i j c) := by
  have e := size_pos (i := i) (j := j) h0
  have n0 : 0 ≤ Builtin.Range.rangeSize i j c ∧ Builtin.Range.rangeSize i j c ≤ 2 ^ 63 - 1 := by
    rw [e]
    by_cases c0 : i < j
    · rw [if_pos c0]
      have : (j - i - 1) / c ≤ j - i - 1 := Int.ediv_le_self _ (by omega)
      have : 0 ≤ (j - i - 1) / c := Int.ediv_nonneg (by omega) (by omega)
      omega
    · rw [if_neg c0]; decide
  have s : Builtin.Range.small i j c = true := by
    unfold Builtin.Range.small Builtin.Range.rangeFitsLong
    simp only [Bool.and_eq_true, Bool.or_eq_true, decide_eq_true_eq, beq_iff_eq, if_pos h0]
    omega
  unfold rngA3
  have a1 : (decide (c ≠ 0) && decide (c.natAbs < 1073741824) && Builtin.Range.small i j c && decide (0 ≤ Builtin.Range.rangeSize i j c)) = true := by
    simp only [Bool.and_eq_true, decide_eq_true_eq]
    exact ⟨⟨⟨by omega, by omega⟩, s⟩, n0.1⟩
  simp only [a1, if_true]
theorem rngA1_ok {j : Int} (h1 : -(2 ^ 62) ≤ j) (h2 : j < 2 ^ 62) : rngA1 [.int j] = some (rngL 0 j) := by
  have : rOk j = true := by unfold rOk; simp only [Bool.and_eq_true, decide_eq_true_eq]; exact ⟨h1, h2⟩
  unfold rngA1; simp only [this, if_true]
theorem rngA2_ok {i j : Int} (i0 : -(2 ^ 62) ≤ i) (i1 : i < 2 ^ 62) (h1 : -(2 ^ 62) ≤ j) (h2 : j < 2 ^ 62) : rngA2 [.int i, .int j] = some (rngL i j) := by
  have a : rOk j = true := by unfold rOk; simp only [Bool.and_eq_true, decide_eq_true_eq]; exact ⟨h1, h2⟩
  have b : rOk i = true := by unfold rOk; simp only [Bool.and_eq_true, decide_eq_true_eq]; exact ⟨i0, i1⟩
  unfold rngA2; simp only [a, b, Bool.and_self, if_true]
end Mn

set_option Elab.async false
set_option linter.all false
set_option maxRecDepth 100000
set_option maxHeartbeats 4000000
/-! Values that are told alike and shown alike. -/
namespace Mn
open PySem PySem.Spec PyProof.Rows L2
mutual
def okD : D → Bool
  | .non => true
  | .bl _ => true
  | .int i => decide (i.natAbs < 10 ^ 60)
  | .str x => PyData.strOk x
  | .tup l => okDs l
  | .fl l => okDs l
  | .fz l => okDs l
  | .obj _ => false
def okDs : List D → Bool
  | [] => true
  | d :: l => okD d && okDs l
end
mutual
def bkD : D → Nat
  | .str x => x.cps.size
  | .tup l => bkDs l
  | .fl l => bkDs l
  | .fz l => bkDs l
  | _ => 0
def bkDs : List D → Nat
  | [] => 0
  | d :: l => bkD d + 1 + bkDs l
end
mutual
def dpD : D → Nat
  | .tup l => dpDs l + 1
  | .fl l => dpDs l + 1
  | .fz l => dpDs l + 1
  | _ => 0
def dpDs : List D → Nat
  | [] => 0
  | d :: l => max (dpD d) (dpDs l)
end
theorem strOk_sm {x : Str} (h : PyData.strOk x = true) : (x.cps.toList.all fun c => decide (c < 16 ^ 8)) = true := by
  unfold PyData.strOk at h
  rw [List.all_eq_true]
  intro c hc
  have := (Array.all_eq_true_iff_forall_mem.mp h) c (Array.mem_toList_iff.mp hc)
  have h1 : c < 0x110000 := by simpa using this
  have e : (16 : Nat) ^ 8 = 4294967296 := by decide
  exact decide_eq_true (by omega)
mutual
theorem ok_py : ∀ d : D, okD d = true → ∃ p, pyD d = some p ∧ p.canLay0 = true ∧ smP p = true ∧ p.bulk = bkD d ∧ p.depth = dpD d
  | .non, _ => ⟨.none, rfl, rfl, rfl, rfl, rfl⟩
  | .bl b, _ => ⟨.bool b, rfl, rfl, rfl, rfl, rfl⟩
  | .int i, h => ⟨.int i, rfl, rfl, by unfold okD at h; unfold smP; exact h, rfl, rfl⟩
  | .str x, h => ⟨.str x, rfl, by unfold okD at h; unfold PyData.canLay0; exact h, by unfold okD at h; unfold smP; exact strOk_sm h, rfl, rfl⟩
  | .tup l, h => by
    unfold okD at h
    obtain ⟨ps, e, h1, h2, h3, h4⟩ := oks_py l h
    exact ⟨.tuple ps, by unfold pyD; rw [e]; rfl, by unfold PyData.canLay0; exact h1, by unfold smP; exact h2, by unfold PyData.bulk bkD; exact h3, by unfold PyData.depth dpD; rw [h4]⟩
  | .fl l, h => by
    unfold okD at h
    obtain ⟨ps, e, h1, h2, h3, h4⟩ := oks_py l h
    exact ⟨.list ps, by unfold pyD; rw [e]; rfl, by unfold PyData.canLay0; exact h1, by unfold smP; exact h2, by unfold PyData.bulk bkD; exact h3, by unfold PyData.depth dpD; rw [h4]⟩
  | .fz l, h => by
    unfold okD at h
    obtain ⟨ps, e, h1, h2, h3, h4⟩ := oks_py l h
    exact ⟨.list ps, by unfold pyD; rw [e]; rfl, by unfold PyData.canLay0; exact h1, by unfold smP; exact h2, by unfold PyData.bulk bkD; exact h3, by unfold PyData.depth dpD; rw [h4]⟩
  | .obj n, h => by unfold okD at h; cases h
theorem oks_py : ∀ l : List D, okDs l = true → ∃ ps, pyDs l = some ps ∧ PyData.canLayAll0 ps = true ∧ smPs ps = true ∧ PyData.bulkAll ps = bkDs l ∧ PyData.depthAll ps = dpDs l
  | [], _ => ⟨[], rfl, rfl, rfl, rfl, rfl⟩
  | d :: l, h => by
    unfold okDs at h
    rw [Bool.and_eq_true] at h
    obtain ⟨p, e, h1, h2, h3, h4⟩ := ok_py d h.1
    obtain ⟨ps, e', k1, k2, k3, k4⟩ := oks_py l h.2
    exact ⟨p :: ps, by unfold pyDs; rw [e, e'], by unfold PyData.canLayAll0; rw [h1, k1]; rfl, by unfold smPs; rw [h2, k2]; rfl, by unfold PyData.bulkAll bkDs; rw [h3, k3], by unfold PyData.depthAll dpDs; rw [h4, k4]⟩
end
mutual
theorem ok_pure : ∀ d : D, okD d = true → pureD d = true
  | .non, _ => rfl
  | .bl _, _ => rfl
  | .int _, _ => rfl
  | .str _, _ => rfl
  | .tup l, h => by unfold okD at h; unfold pureD; exact oks_pure l h
  | .fl l, h => by unfold okD at h; unfold pureD; exact oks_pure l h
  | .fz l, h => by unfold okD at h; unfold pureD; exact oks_pure l h
  | .obj n, h => by unfold okD at h; cases h
theorem oks_pure : ∀ l : List D, okDs l = true → pureDs l = true
  | [], _ => rfl
  | d :: l, h => by
    unfold okDs at h
    rw [Bool.and_eq_true] at h
    unfold pureDs
    rw [ok_pure d h.1, oks_pure l h.2]; rfl
end
/-- a list or a tuple -/
def seqD : D → Bool
  | .tup _ => true
  | .fl _ => true
  | .fz _ => true
  | _ => false
theorem pyG_ok {d : D} {g : G} (h : okD d = true) : pyG g d = pyD d := by
  cases d with
  | obj n => unfold okD at h; cases h
  | _ => rfl
/-- not too much -/
structure Fit (d : D) : Prop where
  ok : okD d = true
  seq : seqD d = true
  bk : bkD d ≤ 200000
  dp : dpD d ≤ 40
theorem Fit.py {d : D} (h : Fit d) (g : G) : ∃ p, pyG g d = some p ∧ SeqAt.shaped p = true ∧ fitP p = true ∧ PyData.eqv p p = true := by
  obtain ⟨p, e, h1, h2, h3, h4⟩ := ok_py d h.ok
  have d1 := h.dp
  have d2 := h.bk
  refine ⟨p, (pyG_ok h.ok).trans e, ?_, ?_, SeqAt.eqv_refl p h1⟩
  · unfold SeqAt.shaped
    rw [h1, decide_eq_true (show p.depth ≤ 64 by omega)]; rfl
  · unfold fitP
    have s : isDisplay p = true := by
      have := h.seq
      cases d with
      | tup l => unfold pyD at e; cases z : pyDs l with
        | none => rw [z] at e; cases e
        | some ps => rw [z] at e; cases e; rfl
      | fl l => unfold pyD at e; cases z : pyDs l with
        | none => rw [z] at e; cases e
        | some ps => rw [z] at e; cases e; rfl
      | fz l => unfold pyD at e; cases z : pyDs l with
        | none => rw [z] at e; cases e
        | some ps => rw [z] at e; cases e; rfl
      | _ => cases this
    rw [s, h2, decide_eq_true (show p.bulk ≤ 200000 by omega), decide_eq_true (show p.depth ≤ 40 by omega)]; rfl
theorem Fit.eq {d : D} (h : Fit d) (g : G) : eqD false g d d = some (.v (.bl true)) := by
  obtain ⟨p, e, h1, _, h3⟩ := h.py g
  have z : eqD false g d d = eqP false g d d := by
    have := h.seq
    cases d with
    | str x => cases this
    | _ => rfl
  rw [z]
  unfold eqP
  simp only [e, h1, h3, Bool.and_self, if_true, Bool.false_xor]
theorem Fit.rep {d : D} (h : Fit d) (g : G) : ∃ x, repC g [d] = some (.v (.str x)) := by
  obtain ⟨p, e, _, h2, _⟩ := h.py g
  refine ⟨p.shown, ?_⟩
  show (match pyG g d with
    | some p => if fitP p = true then some (Nv.v (.str p.shown)) else none
    | none => none) = _
  simp only [e, h2, if_true]
@[simp] theorem e_eqS {g : G} {x y : Str} {neg : Bool} : eqD neg g (.str x) (.str y) = some (.v (.bl (xor neg (decide (x = y))))) := rfl
/-- what a law's «just» does of one thing and itself -/
def justM : FM := defM 2 (retM (andV (binM false (eqD false) (varM 0) (varM 1)) (binM false (eqD false) (calM false repC (consA (varM 0) (nilA))) (calM false repC (consA (varM 1) (nilA))))))
theorem just_same {d : D} (h : Fit d) (g : G) : pureF justM [d, d] g = .ok (.bl true) g := by
  obtain ⟨x, hx⟩ := h.rep []
  refine pureF_ok (g' := []) (by unfold pureDs; rw [ok_pure d h.ok]; unfold pureDs; rw [ok_pure d h.ok]; rfl) ?_ rfl
  simp [justM, h.eq, hx]
end Mn

set_option Elab.async false
set_option linter.all false
set_option maxRecDepth 100000
set_option maxHeartbeats 4000000
/-! Addresses and functions out of what the top has written. -/
namespace Mn
open PySem PySem.Spec PyProof.Rows L2
def adr (mg : Str → Option Value) (ini : List (Str × Addr)) (x : Str) : Addr := match mg x with
  | some (.ref a) => a
  | _ => byC ini x 0
theorem adr_g {mg : Str → Option Value} {ini : List (Str × Addr)} {x : Str} {a : Addr} (h : mg x = some (.ref a)) : adr mg ini x = a := by unfold adr; rw [h]
theorem adr_i {mg : Str → Option Value} {ini : List (Str × Addr)} {x : Str} {a : Addr} (h : mg x = none) (e : byC ini x 0 = a) : adr mg ini x = a := by unfold adr; rw [h]; exact e
def fdat (K : Fg) (fd0 : FuncData) (f : Addr) : FuncData := match K.lookup f with
  | some o => match o.data with
    | .func fd => fd
    | _ => fd0
  | none => fd0
theorem fun_at {K : Fg} {fd0 : FuncData} {z f : Addr} {x qual : Str} {st : Stmt} {oc : Value} {od an : Option Addr} {osl : Array (Option Value)} {kV doc pm cdv ct : Value} (hz : z = f)
    (l : K.lookup f = some ⟨oc, od, .func (PySem.W.fnOf x qual (defArgs st) (defBody st) (defScope st) .none kV doc pm an cdv ct), osl⟩) (c : PySem.W.codeIn K cdv qual = true) (k : PySem.W.keepIn K (.ref f) = true) :
    L2.Fun K x qual st z (fdat K fd0 z) := by
  subst hz
  have e : fdat K fd0 z = PySem.W.fnOf x qual (defArgs st) (defBody st) (defScope st) .none kV doc pm an cdv ct := by unfold fdat; rw [l]
  rw [e]
  exact fun_mk l c k
theorem sub_ok {K : Fg} {ca : Str → Addr} {sub : Str → Str → Option Bool} {l : List (Str × List (Str × Option Bool))} (hs : ∀ c C, sub c C = byC (l.map fun p => (p.1, byC p.2 C none)) c none)
    (h : ∀ p ∈ l, ∀ q ∈ p.2, PySem.W.exmOne K (.ref (ca p.1)) (.ref (ca q.1)) = q.2) : ∀ c C r, sub c C = some r → PySem.W.exmOne K (.ref (ca c)) (.ref (ca C)) = some r := by
  intro c C r e
  rw [hs] at e
  have key2 : ∀ (m : List (Str × Option Bool)), byC m C none = some r → ∃ q ∈ m, q.1 = C ∧ q.2 = some r := by
    intro m
    induction m with
    | nil => intro z; cases z
    | cons q m ih =>
      intro z
      unfold byC at z
      by_cases hq : C = q.1
      · rw [if_pos hq] at z; exact ⟨q, List.mem_cons_self, hq.symm, z⟩
      · rw [if_neg hq] at z
        obtain ⟨q', h1, h2⟩ := ih z
        exact ⟨q', List.mem_cons_of_mem _ h1, h2⟩
  have key : ∀ (l' : List (Str × List (Str × Option Bool))), (∀ p ∈ l', p ∈ l) → byC (l'.map fun p => (p.1, byC p.2 C none)) c none = some r → ∃ p ∈ l, p.1 = c ∧ byC p.2 C none = some r := by
    intro l'
    induction l' with
    | nil => intro _ z; cases z
    | cons p l' ih =>
      intro hm z
      rw [List.map_cons] at z
      unfold byC at z
      by_cases hp : c = p.1
      · rw [if_pos hp] at z; exact ⟨p, hm p List.mem_cons_self, hp.symm, z⟩
      · rw [if_neg hp] at z
        exact ih (fun y hy => hm y (List.mem_cons_of_mem _ hy)) z
  obtain ⟨p, hp, e1, e2⟩ := key l (fun _ z => z) e
  obtain ⟨q, hq, e3, e4⟩ := key2 p.2 e2
  have := h p hp q hq
  rw [e1, e3, e4] at this
  exact this
end Mn

set_option Elab.async false
set_option linter.all false
set_option maxRecDepth 100000
set_option maxHeartbeats 4000000
namespace K74
open PySem PySem.Spec PyProof.Rows L2 Mn
/-- how many turns a while has -/
def FUEL : Nat := 4000
/-- is the exception's class below the clause's -/
def subC (c C : Str) : Option Bool := byC [("ClockError", byC [("BadBounds", some false), ("BadCase", some false), ("BadNumber", some false), ("ClockError", some true)] C none), ("BadNumber", byC [("BadBounds", some false), ("BadCase", some false), ("BadNumber", some true), ("ClockError", some true)] C none), ("BadBounds", byC [("BadBounds", some true), ("BadCase", some false), ("BadNumber", some false), ("ClockError", some true)] C none), ("BadCase", byC [("BadBounds", some false), ("BadCase", some true), ("BadNumber", some false), ("ClockError", some true)] C none)] c none
def m_is_int : FM := defM 1 (retM (andV (isiM ["int"] (varM 0)) (notV (isiM ["bool"] (varM 0)))))
def m_are_fixed : FM := defM 2 (retM (andV (binM false (eqD false) (binM false ixD (varM 0) (cM (.int 0))) (cM (.str "fixed"))) (binM false (eqD false) (binM false ixD (varM 1) (cM (.int 0))) (cM (.str "fixed")))))
def m_are_narrow : FM := defM 2 (retM (binM false (leD) (binM false addD (binM false ixD (varM 0) (cM (.int 3))) (binM false ixD (varM 1) (cM (.int 3)))) (cM (.int 2000))))
def m_inverse_of : FM := defM 7 (seqM (parM 2 3 (consA (calM false intC (consA (varM 1) (nilA))) (consA (binM false modD (calM false intC (consA (varM 0) (nilA))) (calM false intC (consA (varM 1) (nilA)))) (nilA)))) (seqM (asgM (.tp [.nm 4, .nm 5]) (tupM (consA (cM (.int 0)) (consA (cM (.int 1)) (nilA))))) (seqM (whileM FUEL (tst (binM false (gtD) (varM 3) (cM (.int 0)))) (seqM (setM 6 (binM false divD (varM 2) (varM 3))) (seqM (parM 2 3 (consA (varM 3) (consA (binM false subD (varM 2) (binM false mulD (varM 6) (varM 3))) (nilA)))) (parM 4 5 (consA (varM 5) (consA (binM false subD (varM 4) (binM false mulD (varM 6) (varM 5))) (nilA))))))) (retM (binM false modD (calM false intC (consA (varM 4) (nilA))) (calM false intC (consA (varM 1) (nilA))))))))
def m_pairs_within : FM := defM 8 (seqM (setM 2 (cM (.int 0))) (seqM (forM (.tp [.nm 3, .nm 4, .nm 5, .nm 6, .nm 7]) (varM 0) (setM 2 (binM false addD (varM 2) (calM false maxC (consA (cM (.int 0)) (consA (binM false addD (cM (.int 1)) (calM false minC (consA (binM false divD (binM false subD (varM 1) (varM 4)) (varM 6)) (consA (binM false divD (binM false subD (varM 1) (varM 5)) (varM 7)) (nilA))))) (nilA))))))) (retM (varM 2))))
def m_first_of_families : FM := defM 2 (seqM (ifM (tst (binM false (eqD false) (calM false lenD (consA (varM 0) (nilA))) (cM (.int 0)))) (retM (cM .non)) (nxM)) (retM (calM false minC (consA (lcM false (varM 0) (.nm 1) (yesT) (calM false maxC (consA (binM false ixD (varM 1) (cM (.int 1))) (consA (binM false ixD (varM 1) (cM (.int 2))) (nilA)))) (([("family", 1)] : List (Str × Nat)).map (·.2))) (nilA)))))
def m__law_hand : FM := defM 5 (seqM (setM 1 (lstM true (nilA))) (seqM (forR rngA1 (.nm 2) (consA (calM false minC (consA (calM false lenD (consA (varM 0) (nilA))) (consA (cM (.int 30)) (nilA)))) (nilA)) (seqM (setM 3 (calM false intC (consA (binM false ixD (varM 0) (varM 2)) (nilA)))) (seqM (ifM (tst (binM false (ltD) (varM 3) (cM (.int 0)))) (setM 3 (binM false subD (cM (.int 1)) (binM false mulD (cM (.int 2)) (varM 3)))) (nxM)) (seqM (setM 3 (binM false modD (calM false intC (consA (varM 3) (nilA))) (binM false powD (cM (.int 30)) (cM (.int 24))))) (forR rngA1 (.nm 4) (consA (cM (.int 24)) (nilA)) (seqM (dropM (lmM appF (varM 1) (binM false modD (calM false intC (consA (varM 3) (nilA))) (cM (.int 30))))) (seqM (setM 3 (binM false divD (varM 3) (cM (.int 30)))) (ifM (tst (binM false (eqD false) (varM 3) (cM (.int 0)))) (brkM) (nxM))))))))) (retM (dicM [(cM (.str "row"), varM 1), (cM (.str "at"), cM (.int 0))]))))
def m__law_draw : FM := defM 3 (seqM (setM 2 (binM false ixD (varM 0) (cM (.str "at")))) (seqM (dputM (varM 0) (cM (.str "at")) (binM false addD (varM 2) (cM (.int 1)))) (seqM (ifM (tst (binM false (geD) (varM 2) (calM false lenD (consA (binM false ixD (varM 0) (cM (.str "row"))) (nilA))))) (retM (cM (.int 0))) (nxM)) (retM (binM false modD (calM false intC (consA (binM false ixD (binM false ixD (varM 0) (cM (.str "row"))) (varM 2)) (nilA))) (varM 1))))))
def m__law_just : FM := defM 2 (retM (andV (binM false (eqD false) (varM 0) (varM 1)) (binM false (eqD false) (calM false repC (consA (varM 0) (nilA))) (calM false repC (consA (varM 1) (nilA))))))
def m__law_common : FM := defM 3 (seqM (forR rngA1 (.nm 2) (consA (cM (.int 200)) (nilA)) (seqM (ifM (tst (binM false (eqD false) (varM 1) (cM (.int 0)))) (brkM) (nxM)) (parM 0 1 (consA (varM 1) (consA (binM false modD (calM false intC (consA (varM 0) (nilA))) (calM false intC (consA (varM 1) (nilA)))) (nilA)))))) (retM (varM 0)))
def m__law_many : FM := defM 8 (seqM (setM 2 (cM (.int 0))) (seqM (forM (.tp [.nm 3, .nm 4, .nm 5, .nm 6, .nm 7]) (varM 0) (ifM (andM (tst (binM false (leD) (varM 4) (varM 1))) (tst (binM false (leD) (varM 5) (varM 1)))) (setM 2 (binM false addD (binM false addD (varM 2) (cM (.int 1))) (calM false minC (consA (binM false divD (binM false subD (varM 1) (varM 4)) (calM false maxC (consA (cM (.int 1)) (consA (varM 6) (nilA))))) (consA (binM false divD (binM false subD (varM 1) (varM 5)) (calM false maxC (consA (cM (.int 1)) (consA (varM 7) (nilA))))) (nilA)))))) (nxM))) (retM (varM 2))))
def m__law_tried : FM := defM 7 (seqM (setM 3 (cM (.int 0))) (seqM (forR rngA2 (.nm 4) (consA (cM (.int 1)) (consA (binM false addD (varM 2) (cM (.int 1))) (nilA))) (forR rngA2 (.nm 5) (consA (cM (.int 1)) (consA (binM false addD (varM 2) (cM (.int 1))) (nilA))) (seqM (setM 6 (binM false subD (binM false subD (binM false addD (binM false ixD (varM 0) (cM (.int 1))) (binM false mulD (varM 4) (binM false ixD (varM 0) (cM (.int 2))))) (binM false ixD (varM 1) (cM (.int 1)))) (binM false mulD (varM 5) (binM false ixD (varM 1) (cM (.int 2)))))) (ifM (tst (chM (leD) (leD) (unM negD (binM false ixD (varM 0) (cM (.int 3)))) (varM 6) (binM false ixD (varM 1) (cM (.int 3))))) (setM 3 (binM false addD (varM 3) (cM (.int 1)))) (nxM))))) (retM (varM 3))))
def m_are_beats : FM := defM 2 (seqM (ifM (orM (notM (tst (isiM ["tuple"] (varM 0)))) (tst (binM false (eqD true) (calM false lenD (consA (varM 0) (nilA))) (cM (.int 4))))) (retM (cM (.bl false))) (nxM)) (seqM (ifM (orM (notM (tst (isiM ["str"] (binM false ixD (varM 0) (cM (.int 0)))))) (tst (binM false (inD true) (binM false ixD (varM 0) (cM (.int 0))) (tupM (consA (cM (.str "fixed")) (consA (cM (.str "drift")) (nilA))))))) (retM (cM (.bl false))) (nxM)) (seqM (forM (.nm 1) (slM false (varM 0) (someP (cM (.int 1))) (noP)) (ifM (orM (notM (tst (callM 1 (pureF (m_is_int)) (consA (varM 1) (nilA))))) (tst (binM false (ltD) (varM 1) (cM (.int 0))))) (retM (cM (.bl false))) (nxM))) (seqM (ifM (tst (binM false (ltD) (binM false ixD (varM 0) (cM (.int 2))) (cM (.int 1)))) (retM (cM (.bl false))) (nxM)) (retM (orV (binM false (eqD false) (binM false ixD (varM 0) (cM (.int 0))) (cM (.str "fixed"))) (binM false (leD) (binM false ixD (varM 0) (cM (.int 2))) (binM false ixD (varM 0) (cM (.int 3))))))))))
def m_family_of : FM := defM 10 (seqM (setM 3 (calM false gcdC (consA (binM false ixD (varM 0) (cM (.int 2))) (consA (binM false ixD (varM 1) (cM (.int 2))) (nilA))))) (seqM (setM 4 (binM false divD (binM false ixD (varM 0) (cM (.int 2))) (varM 3))) (seqM (setM 5 (binM false divD (binM false ixD (varM 1) (cM (.int 2))) (varM 3))) (seqM (setM 6 (binM false divD (binM false addD (binM false subD (varM 2) (binM false ixD (varM 0) (cM (.int 1)))) (binM false ixD (varM 1) (cM (.int 1)))) (varM 3))) (seqM (setM 7 (binM false modD (calM false intC (consA (binM false mulD (varM 6) (callM 2 (pureF (m_inverse_of)) (consA (varM 4) (consA (varM 5) (nilA))))) (nilA))) (varM 5))) (seqM (setM 8 (calM false maxC (consA (cM (.int 1)) (consA (unM negD (binM false divD (binM false subD (unM negD (varM 6)) (varM 5)) (varM 4))) (nilA))))) (seqM (setM 9 (binM false addD (varM 8) (binM false modD (calM false intC (consA (binM false subD (varM 7) (varM 8)) (nilA))) (varM 5)))) (retM (tupM (consA (varM 2) (consA (varM 9) (consA (binM false divD (binM false subD (binM false mulD (varM 9) (varM 4)) (varM 6)) (varM 5)) (consA (varM 5) (consA (varM 4) (nilA)))))))))))))))
def m__law_small_row : FM := defM 3 (seqM (setM 1 (binM false ixD (tupM (consA (cM (.int 0)) (consA (cM (.int 2)) (consA (cM (.int 5)) (consA (cM (.int 1)) (consA (cM (.int 13)) (consA (cM (.int 20)) (nilA)))))))) (callM 2 (m__law_draw) (consA (varM 0) (consA (cM (.int 6)) (nilA)))))) (seqM (setM 2 (binM false ixD (tupM (consA (cM (.int 6)) (consA (cM (.int 4)) (consA (cM (.int 9)) (consA (cM (.int 1)) (consA (cM (.int 2)) (consA (cM (.int 3)) (consA (cM (.int 5)) (consA (cM (.int 7)) (consA (cM (.int 8)) (consA (cM (.int 10)) (consA (cM (.int 11)) (consA (cM (.int 12)) (nilA)))))))))))))) (callM 2 (m__law_draw) (consA (varM 0) (consA (cM (.int 12)) (nilA)))))) (retM (tupM (consA (cM (.str "fixed")) (consA (varM 1) (consA (varM 2) (consA (binM false ixD (tupM (consA (cM (.int 1)) (consA (cM (.int 0)) (consA (cM (.int 2)) (consA (cM (.int 5)) (consA (cM (.int 3)) (nilA))))))) (callM 2 (m__law_draw) (consA (varM 0) (consA (cM (.int 5)) (nilA))))) (nilA)))))))))
def m__law_families : FM := defM 8 (seqM (setM 2 (callM 2 (pureF (m__law_common)) (consA (binM false ixD (varM 0) (cM (.int 2))) (consA (binM false ixD (varM 1) (cM (.int 2))) (nilA))))) (seqM (setM 3 (dicM [])) (seqM (forR rngA2 (.nm 4) (consA (cM (.int 1)) (consA (cM (.int 61)) (nilA))) (forR rngA2 (.nm 5) (consA (cM (.int 1)) (consA (cM (.int 61)) (nilA))) (seqM (setM 6 (binM false subD (binM false subD (binM false addD (binM false ixD (varM 0) (cM (.int 1))) (binM false mulD (varM 4) (binM false ixD (varM 0) (cM (.int 2))))) (binM false ixD (varM 1) (cM (.int 1)))) (binM false mulD (varM 5) (binM false ixD (varM 1) (cM (.int 2)))))) (ifM (andM (tst (chM (leD) (leD) (unM negD (binM false ixD (varM 0) (cM (.int 3)))) (varM 6) (binM false ixD (varM 1) (cM (.int 3))))) (tst (binM false (inD true) (varM 6) (varM 3)))) (dputM (varM 3) (varM 6) (tupM (consA (varM 4) (consA (varM 5) (nilA))))) (nxM))))) (seqM (setM 7 (lstM true (nilA))) (seqM (forM (.nm 6) (calM false srtC (consA (varM 3) (nilA))) (dropM (lmM appF (varM 7) (binM false addD (binM false addD (tupM (consA (varM 6) (nilA))) (binM false ixD (varM 3) (varM 6))) (tupM (consA (binM false divD (binM false ixD (varM 1) (cM (.int 2))) (varM 2)) (consA (binM false divD (binM false ixD (varM 0) (cM (.int 2))) (varM 2)) (nilA)))))))) (retM (calM false tupC (consA (varM 7) (nilA)))))))))
def m_families_of : FM := defM 6 (seqM (setM 2 (calM false gcdC (consA (binM false ixD (varM 0) (cM (.int 2))) (consA (binM false ixD (varM 1) (cM (.int 2))) (nilA))))) (seqM (setM 3 (unM negD (binM false ixD (varM 0) (cM (.int 3))))) (seqM (setM 4 (binM false addD (varM 3) (binM false modD (calM false intC (consA (binM false subD (binM false subD (binM false ixD (varM 0) (cM (.int 1))) (binM false ixD (varM 1) (cM (.int 1)))) (varM 3)) (nilA))) (varM 2)))) (retM (lcR rngA3 false (consA (varM 4) (consA (binM false addD (binM false ixD (varM 1) (cM (.int 3))) (cM (.int 1))) (consA (varM 2) (nilA)))) (.nm 5) (yesT) (callM 3 (pureF (m_family_of)) (consA (varM 0) (consA (varM 1) (consA (varM 5) (nilA))))) (([("apart", 5)] : List (Str × Nat)).map (·.2)))))))
def m_told_plainly : Nat → FM
  | 0 => fun _ _ => .no
  | n + 1 => defM 2 (seqM (ifM (tst (isiM ["list", "tuple"] (varM 0))) (retM (calM false tupC (consA (lcM false (varM 0) (.nm 1) (yesT) (callM 1 (m_told_plainly n) (consA (varM 1) (nilA))) (([("inner", 1)] : List (Str × Nat)).map (·.2))) (nilA)))) (nxM)) (retM (varM 0)))
def m_plain_form : FM := defM 1 (retM (callM 1 (pureF (m_told_plainly 8)) (consA (varM 0) (nilA))))
def m_check_number : FM := defM 2 (seqM (ifM (notM (tst (callM 1 (pureF (m_is_int)) (consA (varM 0) (nilA))))) (raiseM "BadNumber" (m_told_plainly 8) (consA (varM 0) (nilA))) (nxM)) (seqM (ifM (tst (binM false (ltD) (varM 0) (varM 1))) (raiseM "BadNumber" (m_told_plainly 8) (consA (varM 0) (nilA))) (nxM)) (retM (varM 0))))
def m_check_beats : FM := defM 2 (seqM (setM 1 (callM 1 (pureF (m_plain_form)) (consA (varM 0) (nilA)))) (seqM (ifM (notM (tst (callM 1 (pureF (m_are_beats)) (consA (varM 1) (nilA))))) (raiseM "BadBounds" (m_told_plainly 8) (consA (varM 0) (nilA))) (nxM)) (retM (varM 1))))
def m_ever_meet : FM := defM 6 (seqM (setM 2 (callM 1 (pureF (m_check_beats)) (consA (varM 0) (nilA)))) (seqM (setM 3 (callM 1 (pureF (m_check_beats)) (consA (varM 1) (nilA)))) (seqM (ifM (notM (tst (callM 2 (pureF (m_are_fixed)) (consA (varM 2) (consA (varM 3) (nilA)))))) (raiseM "BadCase" (m_told_plainly 8) (consA (cM (.str "fixed")) (nilA))) (nxM)) (seqM (setM 4 (calM false gcdC (consA (binM false ixD (varM 2) (cM (.int 2))) (consA (binM false ixD (varM 3) (cM (.int 2))) (nilA))))) (seqM (setM 5 (binM false modD (calM false intC (consA (binM false subD (binM false ixD (varM 2) (cM (.int 1))) (binM false ixD (varM 3) (cM (.int 1)))) (nilA))) (varM 4))) (retM (orV (binM false (leD) (varM 5) (binM false ixD (varM 3) (cM (.int 3)))) (binM false (leD) (binM false subD (varM 4) (varM 5)) (binM false ixD (varM 2) (cM (.int 3)))))))))))
def m_met_families : FM := defM 4 (seqM (setM 2 (callM 1 (pureF (m_check_beats)) (consA (varM 0) (nilA)))) (seqM (setM 3 (callM 1 (pureF (m_check_beats)) (consA (varM 1) (nilA)))) (seqM (ifM (notM (tst (callM 2 (pureF (m_are_fixed)) (consA (varM 2) (consA (varM 3) (nilA)))))) (raiseM "BadCase" (m_told_plainly 8) (consA (cM (.str "fixed")) (nilA))) (nxM)) (seqM (ifM (notM (tst (callM 2 (pureF (m_are_narrow)) (consA (varM 2) (consA (varM 3) (nilA)))))) (raiseM "BadCase" (m_told_plainly 8) (consA (cM (.str "wide")) (nilA))) (nxM)) (retM (calM false tupC (consA (callM 2 (pureF (m_families_of)) (consA (varM 2) (consA (varM 3) (nilA)))) (nilA))))))))
def m_met_number : FM := defM 5 (seqM (setM 3 (callM 1 (pureF (m_check_beats)) (consA (varM 0) (nilA)))) (seqM (setM 4 (callM 1 (pureF (m_check_beats)) (consA (varM 1) (nilA)))) (seqM (dropM (callM 2 (pureF (m_check_number)) (consA (varM 2) (consA (cM (.int 0)) (nilA))))) (seqM (ifM (notM (tst (callM 2 (pureF (m_are_fixed)) (consA (varM 3) (consA (varM 4) (nilA)))))) (raiseM "BadCase" (m_told_plainly 8) (consA (cM (.str "fixed")) (nilA))) (nxM)) (seqM (ifM (notM (tst (callM 2 (pureF (m_are_narrow)) (consA (varM 3) (consA (varM 4) (nilA)))))) (raiseM "BadCase" (m_told_plainly 8) (consA (cM (.str "wide")) (nilA))) (nxM)) (retM (callM 2 (pureF (m_pairs_within)) (consA (callM 2 (pureF (m_families_of)) (consA (varM 3) (consA (varM 4) (nilA)))) (consA (varM 2) (nilA))))))))))
def m_first_met : FM := defM 4 (seqM (setM 2 (callM 1 (pureF (m_check_beats)) (consA (varM 0) (nilA)))) (seqM (setM 3 (callM 1 (pureF (m_check_beats)) (consA (varM 1) (nilA)))) (seqM (ifM (notM (tst (callM 2 (pureF (m_are_fixed)) (consA (varM 2) (consA (varM 3) (nilA)))))) (raiseM "BadCase" (m_told_plainly 8) (consA (cM (.str "fixed")) (nilA))) (nxM)) (seqM (ifM (notM (tst (callM 2 (pureF (m_are_narrow)) (consA (varM 2) (consA (varM 3) (nilA)))))) (raiseM "BadCase" (m_told_plainly 8) (consA (cM (.str "wide")) (nilA))) (nxM)) (retM (callM 1 (pureF (m_first_of_families)) (consA (callM 2 (pureF (m_families_of)) (consA (varM 2) (consA (varM 3) (nilA)))) (nilA))))))))
def m__law_heard_beats : FM := defM 6 (seqM (setM 4 (tupM (consA (cM (.str "nothing")) (nilA)))) (seqM (tryM subC (ifM (tst (binM false (eqD false) (varM 0) (cM (.int 0)))) (setM 4 (tupM (consA (cM (.str "told")) (consA (callM 2 (pureF (m_met_families)) (consA (varM 1) (consA (varM 2) (nilA)))) (nilA))))) (ifM (tst (binM false (eqD false) (varM 0) (cM (.int 1)))) (setM 4 (tupM (consA (cM (.str "told")) (consA (callM 2 (pureF (m_first_met)) (consA (varM 1) (consA (varM 2) (nilA)))) (nilA))))) (ifM (tst (binM false (eqD false) (varM 0) (cM (.int 2)))) (setM 4 (tupM (consA (cM (.str "told")) (consA (callM 2 (pureF (m_ever_meet)) (consA (varM 1) (consA (varM 2) (nilA)))) (nilA))))) (setM 4 (tupM (consA (cM (.str "told")) (consA (callM 3 (pureF (m_met_number)) (consA (varM 1) (consA (varM 2) (consA (varM 3) (nilA))))) (nilA)))))))) [⟨"BadBounds", some 5, suM [("BadBounds", fun fs => setM 4 (tupM (consA (cM (.str "bounds")) (consA (fldX fs "at") (consA (cM (.bl true)) (consA (cM (.bl false)) (nilA)))))))]⟩, ⟨"BadNumber", some 5, suM [("BadNumber", fun fs => setM 4 (tupM (consA (cM (.str "number")) (consA (fldX fs "at") (consA (cM (.bl true)) (consA (cM (.bl false)) (nilA)))))))]⟩, ⟨"BadCase", some 5, suM [("BadCase", fun fs => setM 4 (tupM (consA (cM (.str "case")) (consA (fldX fs "at") (consA (cM (.bl true)) (consA (cM (.bl false)) (nilA)))))))]⟩, ⟨"ClockError", none, fun _ _ => setM 4 (tupM (consA (cM (.str "else")) (nilA)))⟩]) (retM (varM 4))))
def m__law_two_right : FM := defM 15 (seqM (setM 4 (cM .non)) (seqM (ifM (tst (binM false (gtD) (calM false lenD (consA (varM 3) (nilA))) (cM (.int 0)))) (setM 4 (calM false minC (consA (lcM false (varM 3) (.nm 5) (yesT) (calM false maxC (consA (binM false ixD (varM 5) (cM (.int 1))) (consA (binM false ixD (varM 5) (cM (.int 2))) (nilA)))) (([("family", 5)] : List (Str × Nat)).map (·.2))) (nilA)))) (nxM)) (seqM (setM 6 (binM false ixD (tupM (consA (varM 1) (consA (calM false lisC (consA (varM 1) (nilA))) (nilA)))) (callM 2 (m__law_draw) (consA (varM 0) (consA (cM (.int 2)) (nilA)))))) (seqM (setM 7 (binM false ixD (tupM (consA (calM false lisC (consA (varM 2) (nilA))) (consA (varM 2) (nilA)))) (callM 2 (m__law_draw) (consA (varM 0) (consA (cM (.int 2)) (nilA)))))) (seqM (ifM (notM (tst (callM 2 (pureF (m__law_just)) (consA (callM 4 (pureF (m__law_heard_beats)) (consA (cM (.int 0)) (consA (varM 6) (consA (varM 7) (consA (cM (.int 0)) (nilA)))))) (consA (tupM (consA (cM (.str "told")) (consA (varM 3) (nilA)))) (nilA)))))) (retM (cM (.bl false))) (nxM)) (seqM (ifM (notM (tst (callM 2 (pureF (m__law_just)) (consA (callM 4 (pureF (m__law_heard_beats)) (consA (cM (.int 1)) (consA (varM 6) (consA (varM 7) (consA (cM (.int 0)) (nilA)))))) (consA (tupM (consA (cM (.str "told")) (consA (varM 4) (nilA)))) (nilA)))))) (retM (cM (.bl false))) (nxM)) (seqM (ifM (notM (tst (callM 2 (pureF (m__law_just)) (consA (callM 4 (pureF (m__law_heard_beats)) (consA (cM (.int 2)) (consA (varM 6) (consA (varM 7) (consA (cM (.int 0)) (nilA)))))) (consA (tupM (consA (cM (.str "told")) (consA (binM false (gtD) (calM false lenD (consA (varM 3) (nilA))) (cM (.int 0))) (nilA)))) (nilA)))))) (retM (cM (.bl false))) (nxM)) (seqM (setM 8 (lstM true (nilA))) (seqM (forM (.tp [.nm 9, .nm 10, .nm 11, .nm 12, .nm 13]) (varM 3) (dropM (lmM appF (varM 8) (tupM (consA (unM negD (varM 9)) (consA (varM 11) (consA (varM 10) (consA (varM 13) (consA (varM 12) (nilA)))))))))) (seqM (ifM (notM (tst (callM 2 (pureF (m__law_just)) (consA (callM 4 (pureF (m__law_heard_beats)) (consA (cM (.int 0)) (consA (varM 7) (consA (varM 6) (consA (cM (.int 0)) (nilA)))))) (consA (tupM (consA (cM (.str "told")) (consA (calM false tupC (consA (calM false srtC (consA (varM 8) (nilA))) (nilA))) (nilA)))) (nilA)))))) (retM (cM (.bl false))) (nxM)) (seqM (forM (.nm 14) (tupM (consA (binM false powD (cM (.int 10)) (cM (.int 9))) (consA (binM false addD (binM false mulD (calM false intC (consA (callM 2 (m__law_draw) (consA (varM 0) (consA (cM (.int 30)) (nilA)))) (nilA))) (cM (.int 1000))) (cM (.int 999))) (consA (binM false addD (binM false powD (cM (.int 10)) (cM (.int 6))) (callM 2 (m__law_draw) (consA (varM 0) (consA (cM (.int 30)) (nilA))))) (nilA))))) (ifM (notM (tst (callM 2 (pureF (m__law_just)) (consA (callM 4 (pureF (m__law_heard_beats)) (consA (cM (.int 3)) (consA (varM 6) (consA (varM 7) (consA (varM 14) (nilA)))))) (consA (tupM (consA (cM (.str "told")) (consA (callM 2 (pureF (m__law_many)) (consA (varM 3) (consA (varM 14) (nilA)))) (nilA)))) (nilA)))))) (retM (cM (.bl false))) (nxM))) (retM (callM 2 (pureF (m__law_just)) (consA (varM 6) (consA (binM false ixD (tupM (consA (calM false lisC (consA (varM 1) (nilA))) (consA (varM 1) (nilA)))) (calM false intC (consA (binM false (eqD false) (varM 6) (varM 1)) (nilA)))) (nilA))))))))))))))))
def m__law_wide_right : FM := defM 10 (seqM (parM 1 2 (consA (callM 2 (m__law_draw) (consA (varM 0) (consA (cM (.int 30)) (nilA)))) (consA (binM false addD (cM (.int 970)) (callM 2 (m__law_draw) (consA (varM 0) (consA (cM (.int 30)) (nilA))))) (nilA)))) (seqM (parM 3 4 (consA (tupM (consA (cM (.str "fixed")) (consA (varM 1) (consA (cM (.int 1)) (consA (varM 2) (nilA)))))) (consA (tupM (consA (cM (.str "fixed")) (consA (cM (.int 0)) (consA (cM (.int 1)) (consA (binM false subD (cM (.int 2000)) (varM 2)) (nilA)))))) (nilA)))) (seqM (setM 5 (lstM true (nilA))) (seqM (forR rngA2 (.nm 6) (consA (unM negD (varM 2)) (consA (binM false subD (cM (.int 2001)) (varM 2)) (nilA))) (seqM (setM 7 (binM false subD (varM 6) (varM 1))) (dropM (lmM appF (varM 5) (tupM (consA (varM 6) (consA (calM false maxC (consA (cM (.int 1)) (consA (binM false addD (cM (.int 1)) (varM 7)) (nilA)))) (consA (calM false maxC (consA (cM (.int 1)) (consA (binM false subD (cM (.int 1)) (varM 7)) (nilA)))) (consA (cM (.int 1)) (consA (cM (.int 1)) (nilA))))))))))) (seqM (ifM (tst (binM false (eqD false) (callM 2 (m__law_draw) (consA (varM 0) (consA (cM (.int 6)) (nilA)))) (cM (.int 5)))) (seqM (ifM (notM (tst (callM 2 (pureF (m__law_just)) (consA (callM 4 (pureF (m__law_heard_beats)) (consA (cM (.int 0)) (consA (varM 3) (consA (varM 4) (consA (cM (.int 0)) (nilA)))))) (consA (tupM (consA (cM (.str "told")) (consA (calM false tupC (consA (varM 5) (nilA))) (nilA)))) (nilA)))))) (retM (cM (.bl false))) (nxM)) (ifM (notM (tst (callM 2 (pureF (m__law_just)) (consA (callM 4 (pureF (m__law_heard_beats)) (consA (cM (.int 3)) (consA (varM 3) (consA (varM 4) (consA (cM (.int 7)) (nilA)))))) (consA (tupM (consA (cM (.str "told")) (consA (cM (.int 49)) (nilA)))) (nilA)))))) (retM (cM (.bl false))) (nxM))) (nxM)) (seqM (setM 8 (tupM (consA (cM (.str "fixed")) (consA (cM (.int 0)) (consA (cM (.int 1)) (consA (binM false subD (cM (.int 2001)) (varM 2)) (nilA))))))) (seqM (forM (.nm 9) (tupM (consA (cM (.int 0)) (consA (cM (.int 1)) (consA (cM (.int 3)) (nilA))))) (ifM (notM (tst (callM 2 (pureF (m__law_just)) (consA (callM 4 (pureF (m__law_heard_beats)) (consA (varM 9) (consA (varM 3) (consA (varM 8) (consA (cM (.int 5)) (nilA)))))) (consA (tupM (consA (cM (.str "case")) (consA (cM (.str "wide")) (consA (cM (.bl true)) (consA (cM (.bl false)) (nilA)))))) (nilA)))))) (retM (cM (.bl false))) (nxM))) (retM (callM 2 (pureF (m__law_just)) (consA (callM 4 (pureF (m__law_heard_beats)) (consA (cM (.int 2)) (consA (varM 3) (consA (varM 8) (consA (cM (.int 0)) (nilA)))))) (consA (tupM (consA (cM (.str "told")) (consA (cM (.bl true)) (nilA)))) (nilA))))))))))))
def m__law_refused : FM := defM 13 (seqM (asgM (.tp [.nm 1, .nm 2, .nm 3]) (tupM (consA (tupM (consA (cM (.str "fixed")) (consA (cM (.int 0)) (consA (cM (.int 2)) (consA (cM (.int 1)) (nilA)))))) (consA (tupM (consA (cM (.str "fixed")) (consA (cM (.int 1)) (consA (cM (.int 3)) (consA (cM (.int 2500)) (nilA)))))) (consA (tupM (consA (cM (.str "drift")) (consA (cM (.int 0)) (consA (cM (.int 2)) (consA (cM (.int 3)) (nilA)))))) (nilA)))))) (seqM (setM 4 (tupM (consA (cM .non) (consA (cM (.int 7)) (consA (cM (.str "fixed")) (consA (tupM (consA (cM (.str "fixed")) (consA (cM (.int 1)) (consA (cM (.int 2)) (nilA))))) (consA (tupM (consA (cM (.str "fixed")) (consA (unM negD (cM (.int 1))) (consA (cM (.int 2)) (consA (cM (.int 0)) (nilA)))))) (consA (tupM (consA (cM (.str "fixed")) (consA (cM (.int 0)) (consA (cM (.int 0)) (consA (cM (.int 1)) (nilA)))))) (consA (tupM (consA (cM (.str "fixed")) (consA (cM (.int 0)) (consA (cM (.int 1)) (consA (unM negD (cM (.int 1))) (nilA)))))) (consA (tupM (consA (cM (.str "drift")) (consA (cM (.int 0)) (consA (cM (.int 3)) (consA (cM (.int 2)) (nilA)))))) (nilA))))))))))) (seqM (setM 4 (binM false addD (varM 4) (tupM (consA (tupM (consA (cM (.str "fixt")) (consA (cM (.int 0)) (consA (cM (.int 1)) (consA (cM (.int 0)) (nilA)))))) (consA (tupM (consA (cM (.str "fixed")) (consA (cM (.bl true)) (consA (cM (.int 1)) (consA (cM (.int 0)) (nilA)))))) (consA (tupM (consA (cM (.str "fixed")) (consA (cM (.int 0)) (consA (cM (.int 1)) (consA (cM (.int 0)) (consA (cM (.int 1)) (nilA))))))) (consA (tupM (consA (cM (.str "drift")) (consA (cM (.int 0)) (consA (cM (.int 1)) (consA (cM .non) (nilA)))))) (consA (tupM (nilA)) (nilA))))))))) (seqM (forR rngA1 (.nm 5) (consA (cM (.int 4)) (nilA)) (seqM (forR rngA1 (.nm 6) (consA (calM false lenD (consA (varM 4) (nilA))) (nilA)) (seqM (setM 7 (binM false ixD (varM 4) (varM 6))) (seqM (setM 8 (tupM (consA (cM (.str "bounds")) (consA (varM 7) (consA (cM (.bl true)) (consA (cM (.bl false)) (nilA))))))) (seqM (setM 9 (tupM (consA (tupM (consA (varM 7) (consA (binM false ixD (varM 4) (binM false modD (calM false intC (consA (binM false addD (varM 6) (cM (.int 1))) (nilA))) (calM false lenD (consA (varM 4) (nilA))))) (nilA)))) (consA (tupM (consA (varM 1) (consA (varM 7) (nilA)))) (consA (tupM (consA (varM 3) (consA (varM 7) (nilA)))) (nilA)))))) (seqM (asgM (.tp [.nm 10, .nm 11]) (binM false ixD (varM 9) (binM false modD (calM false intC (consA (binM false addD (varM 6) (varM 5)) (nilA))) (cM (.int 3))))) (ifM (notM (tst (callM 2 (pureF (m__law_just)) (consA (callM 4 (pureF (m__law_heard_beats)) (consA (varM 5) (consA (varM 10) (consA (varM 11) (consA (unM negD (cM (.int 1))) (nilA)))))) (consA (varM 8) (nilA)))))) (retM (cM (.bl false))) (nxM))))))) (forM (.tp [.nm 10, .nm 11]) (tupM (consA (tupM (consA (varM 3) (consA (varM 2) (nilA)))) (consA (tupM (consA (varM 2) (consA (varM 3) (nilA)))) (consA (tupM (consA (varM 3) (consA (varM 3) (nilA)))) (nilA))))) (ifM (notM (tst (callM 2 (pureF (m__law_just)) (consA (callM 4 (pureF (m__law_heard_beats)) (consA (varM 5) (consA (varM 10) (consA (varM 11) (consA (cM (.int 3)) (nilA)))))) (consA (tupM (consA (cM (.str "case")) (consA (cM (.str "fixed")) (consA (cM (.bl true)) (consA (cM (.bl false)) (nilA)))))) (nilA)))))) (retM (cM (.bl false))) (nxM))))) (seqM (forM (.nm 12) (tupM (consA (unM negD (cM (.int 1))) (consA (cM (.bl true)) (consA (cM .non) (consA (cM (.str "3")) (nilA)))))) (forM (.tp [.nm 10, .nm 11]) (tupM (consA (tupM (consA (varM 1) (consA (varM 1) (nilA)))) (consA (tupM (consA (varM 3) (consA (varM 2) (nilA)))) (consA (tupM (consA (varM 2) (consA (varM 2) (nilA)))) (nilA))))) (ifM (notM (tst (callM 2 (pureF (m__law_just)) (consA (callM 4 (pureF (m__law_heard_beats)) (consA (cM (.int 3)) (consA (varM 10) (consA (varM 11) (consA (varM 12) (nilA)))))) (consA (tupM (consA (cM (.str "number")) (consA (varM 12) (consA (cM (.bl true)) (consA (cM (.bl false)) (nilA)))))) (nilA)))))) (retM (cM (.bl false))) (nxM)))) (retM (callM 2 (pureF (m__law_just)) (consA (callM 4 (pureF (m__law_heard_beats)) (consA (cM (.int 3)) (consA (varM 1) (consA (varM 1) (consA (cM (.int 0)) (nilA)))))) (consA (tupM (consA (cM (.str "told")) (consA (cM (.int 0)) (nilA)))) (nilA))))))))))
def m__law_small_right : FM := defM 5 (seqM (parM 1 2 (consA (callM 1 (m__law_small_row) (consA (varM 0) (nilA))) (consA (callM 1 (m__law_small_row) (consA (varM 0) (nilA))) (nilA)))) (seqM (setM 3 (callM 2 (pureF (m__law_families)) (consA (varM 1) (consA (varM 2) (nilA))))) (seqM (forM (.nm 4) (tupM (consA (binM false addD (binM false modD (calM false intC (consA (callM 2 (m__law_draw) (consA (varM 0) (consA (cM (.int 30)) (nilA)))) (nilA))) (cM (.int 21))) (cM (.int 5))) (consA (callM 2 (m__law_draw) (consA (varM 0) (consA (cM (.int 6)) (nilA)))) (nilA)))) (ifM (notM (tst (callM 2 (pureF (m__law_just)) (consA (callM 4 (pureF (m__law_heard_beats)) (consA (cM (.int 3)) (consA (varM 1) (consA (varM 2) (consA (varM 4) (nilA)))))) (consA (tupM (consA (cM (.str "told")) (consA (callM 3 (pureF (m__law_tried)) (consA (varM 1) (consA (varM 2) (consA (varM 4) (nilA))))) (nilA)))) (nilA)))))) (retM (cM (.bl false))) (nxM))) (retM (callM 4 (m__law_two_right) (consA (varM 0) (consA (varM 1) (consA (varM 2) (consA (varM 3) (nilA))))))))))
def m__law_great_right : FM := defM 12 (seqM (setM 1 (binM false ixD (tupM (consA (cM (.int 6)) (consA (cM (.int 300)) (consA (cM (.int 1)) (consA (cM (.int 17)) (consA (cM (.int 2)) (nilA))))))) (callM 2 (m__law_draw) (consA (varM 0) (consA (cM (.int 5)) (nilA)))))) (seqM (setM 2 (binM false addD (cM (.int 2)) (binM false mulD (cM (.int 33)) (callM 2 (m__law_draw) (consA (varM 0) (consA (cM (.int 30)) (nilA))))))) (seqM (setM 3 (binM false addD (binM false mulD (varM 2) (binM false ixD (tupM (consA (cM (.int 1)) (consA (cM (.int 0)) (nilA)))) (callM 2 (m__law_draw) (consA (varM 0) (consA (cM (.int 2)) (nilA)))))) (cM (.int 1)))) (seqM (setM 4 (callM 2 (m__law_draw) (consA (varM 0) (consA (cM (.int 30)) (nilA))))) (seqM (setM 4 (binM false modD (calM false intC (consA (varM 4) (nilA))) (varM 1))) (seqM (setM 5 (binM false modD (calM false intC (consA (callM 2 (m__law_draw) (consA (varM 0) (consA (cM (.int 30)) (nilA)))) (nilA))) (binM false subD (varM 1) (varM 4)))) (seqM (setM 6 (binM false subD (binM false modD (calM false intC (consA (callM 2 (m__law_draw) (consA (varM 0) (consA (cM (.int 30)) (nilA)))) (nilA))) (binM false addD (binM false addD (varM 4) (varM 5)) (cM (.int 1)))) (varM 4))) (seqM (setM 7 (binM false addD (cM (.int 1)) (binM false modD (calM false intC (consA (binM false addD (binM false mulD (cM (.int 33)) (callM 2 (m__law_draw) (consA (varM 0) (consA (cM (.int 30)) (nilA))))) (callM 2 (m__law_draw) (consA (varM 0) (consA (cM (.int 30)) (nilA))))) (nilA))) (varM 3)))) (seqM (setM 8 (binM false addD (cM (.int 1)) (binM false mulD (cM (.int 7)) (callM 2 (m__law_draw) (consA (varM 0) (consA (cM (.int 30)) (nilA))))))) (seqM (ifM (tst (binM false (eqD false) (callM 2 (m__law_draw) (consA (varM 0) (consA (cM (.int 2)) (nilA)))) (cM (.int 1)))) (parM 7 8 (consA (binM false addD (cM (.int 1)) (binM false mulD (cM (.int 7)) (callM 2 (m__law_draw) (consA (varM 0) (consA (cM (.int 30)) (nilA)))))) (consA (binM false addD (cM (.int 1)) (binM false modD (calM false intC (consA (binM false addD (binM false mulD (cM (.int 33)) (callM 2 (m__law_draw) (consA (varM 0) (consA (cM (.int 30)) (nilA))))) (callM 2 (m__law_draw) (consA (varM 0) (consA (cM (.int 30)) (nilA))))) (nilA))) (varM 2))) (nilA)))) (nxM)) (seqM (setM 9 (binM false subD (binM false subD (binM false mulD (binM false mulD (varM 7) (varM 2)) (varM 1)) (binM false mulD (binM false mulD (varM 8) (varM 3)) (varM 1))) (varM 6))) (seqM (setM 10 (tupM (consA (cM (.str "fixed")) (consA (calM false maxC (consA (cM (.int 0)) (consA (unM negD (varM 9)) (nilA)))) (consA (binM false mulD (varM 2) (varM 1)) (consA (varM 4) (nilA))))))) (seqM (setM 11 (tupM (consA (cM (.str "fixed")) (consA (calM false maxC (consA (cM (.int 0)) (consA (varM 9) (nilA)))) (consA (binM false mulD (varM 3) (varM 1)) (consA (varM 5) (nilA))))))) (retM (callM 4 (m__law_two_right) (consA (varM 0) (consA (varM 10) (consA (varM 11) (consA (tupM (consA (tupM (consA (varM 6) (consA (varM 7) (consA (varM 8) (consA (varM 3) (consA (varM 2) (nilA))))))) (nilA))) (nilA))))))))))))))))))))
def m_law : FM := defM 2 (seqM (setM 1 (callM 1 (m__law_hand) (consA (varM 0) (nilA)))) (seqM (ifM (orM (notM (tst (callM 1 (m__law_small_right) (consA (varM 1) (nilA))))) (notM (tst (callM 1 (m__law_great_right) (consA (varM 1) (nilA)))))) (retM (cM (.bl false))) (nxM)) (retM (andV (callM 1 (m__law_wide_right) (consA (varM 1) (nilA))) (callM 1 (m__law_refused) (consA (varM 1) (nilA)))))))
end K74

set_option Elab.async false
set_option linter.all false
set_option maxRecDepth 100000
set_option maxHeartbeats 4000000
namespace K74
open PySem PySem.Spec PyProof.Rows L2 Mn
def top (i : Nat) : Stmt := PySem.Challenge.pw_asinrealtime_k74_families_counted.main.body.getD i (.Pass ⟨0, 0, 0, 0⟩)
def inTop (i j : Nat) : Stmt := match top i with
  | .ClassDef (body := b) .. => b.getD j (.Pass ⟨0, 0, 0, 0⟩)
  | _ => .Pass ⟨0, 0, 0, 0⟩
abbrev s_told_plainly : Stmt := top 2
abbrev s_is_int : Stmt := top 8
abbrev s_plain_form : Stmt := top 9
abbrev s_check_number : Stmt := top 10
abbrev s_are_beats : Stmt := top 12
abbrev s_check_beats : Stmt := top 13
abbrev s_are_fixed : Stmt := top 16
abbrev s_are_narrow : Stmt := top 17
abbrev s_ever_meet : Stmt := top 18
abbrev s_inverse_of : Stmt := top 19
abbrev s_family_of : Stmt := top 20
abbrev s_families_of : Stmt := top 21
abbrev s_met_families : Stmt := top 22
abbrev s_pairs_within : Stmt := top 23
abbrev s_met_number : Stmt := top 24
abbrev s_first_of_families : Stmt := top 25
abbrev s_first_met : Stmt := top 26
abbrev s__law_hand : Stmt := top 28
abbrev s__law_draw : Stmt := top 29
abbrev s__law_just : Stmt := top 30
abbrev s__law_common : Stmt := top 31
abbrev s__law_small_row : Stmt := top 32
abbrev s__law_families : Stmt := top 33
abbrev s__law_many : Stmt := top 34
abbrev s__law_tried : Stmt := top 35
abbrev s__law_heard_beats : Stmt := top 36
abbrev s__law_two_right : Stmt := top 37
abbrev s__law_small_right : Stmt := top 38
abbrev s__law_great_right : Stmt := top 39
abbrev s__law_wide_right : Stmt := top 40
abbrev s__law_refused : Stmt := top 41
abbrev s_law : Stmt := top 42
abbrev s_init_BadBounds : Stmt := inTop 5 0
abbrev s_init_BadCase : Stmt := inTop 6 0
abbrev s_init_BadNumber : Stmt := inTop 4 0
theorem sc_told_plainly : FnScope ["thing", "inner"] ["thing"] (defScope s_told_plainly) := ⟨rfl, rfl, rfl, by decide +kernel, rfl, by decide +kernel, by decide +kernel⟩
theorem sc_is_int : FnScope ["x"] ["x"] (defScope s_is_int) := ⟨rfl, rfl, rfl, by decide +kernel, rfl, by decide +kernel, by decide +kernel⟩
theorem sc_plain_form : FnScope ["x"] ["x"] (defScope s_plain_form) := ⟨rfl, rfl, rfl, by decide +kernel, rfl, by decide +kernel, by decide +kernel⟩
theorem sc_check_number : FnScope ["x", "least"] ["x", "least"] (defScope s_check_number) := ⟨rfl, rfl, rfl, by decide +kernel, rfl, by decide +kernel, by decide +kernel⟩
theorem sc_are_beats : FnScope ["told", "part"] ["told"] (defScope s_are_beats) := ⟨rfl, rfl, rfl, by decide +kernel, rfl, by decide +kernel, by decide +kernel⟩
theorem sc_check_beats : FnScope ["beats", "told"] ["beats"] (defScope s_check_beats) := ⟨rfl, rfl, rfl, by decide +kernel, rfl, by decide +kernel, by decide +kernel⟩
theorem sc_are_fixed : FnScope ["beats", "other"] ["beats", "other"] (defScope s_are_fixed) := ⟨rfl, rfl, rfl, by decide +kernel, rfl, by decide +kernel, by decide +kernel⟩
theorem sc_are_narrow : FnScope ["beats", "other"] ["beats", "other"] (defScope s_are_narrow) := ⟨rfl, rfl, rfl, by decide +kernel, rfl, by decide +kernel, by decide +kernel⟩
theorem sc_ever_meet : FnScope ["beats", "other", "told", "other_told", "common", "rest"] ["beats", "other"] (defScope s_ever_meet) := ⟨rfl, rfl, rfl, by decide +kernel, rfl, by decide +kernel, by decide +kernel⟩
theorem sc_inverse_of : FnScope ["a", "b", "high", "low", "x", "y", "times"] ["a", "b"] (defScope s_inverse_of) := ⟨rfl, rfl, rfl, by decide +kernel, rfl, by decide +kernel, by decide +kernel⟩
theorem sc_family_of : FnScope ["beats", "other", "apart", "common", "a", "b", "m", "rest", "least", "first"] ["beats", "other", "apart"] (defScope s_family_of) := ⟨rfl, rfl, rfl, by decide +kernel, rfl, by decide +kernel, by decide +kernel⟩
theorem sc_families_of : FnScope ["beats", "other", "common", "low", "start", "apart"] ["beats", "other"] (defScope s_families_of) := ⟨rfl, rfl, rfl, by decide +kernel, rfl, by decide +kernel, by decide +kernel⟩
theorem sc_met_families : FnScope ["beats", "other", "told", "other_told"] ["beats", "other"] (defScope s_met_families) := ⟨rfl, rfl, rfl, by decide +kernel, rfl, by decide +kernel, by decide +kernel⟩
theorem sc_pairs_within : FnScope ["families", "k", "total", "apart", "i", "j", "di", "dj"] ["families", "k"] (defScope s_pairs_within) := ⟨rfl, rfl, rfl, by decide +kernel, rfl, by decide +kernel, by decide +kernel⟩
theorem sc_met_number : FnScope ["beats", "other", "k", "told", "other_told"] ["beats", "other", "k"] (defScope s_met_number) := ⟨rfl, rfl, rfl, by decide +kernel, rfl, by decide +kernel, by decide +kernel⟩
theorem sc_first_of_families : FnScope ["families", "family"] ["families"] (defScope s_first_of_families) := ⟨rfl, rfl, rfl, by decide +kernel, rfl, by decide +kernel, by decide +kernel⟩
theorem sc_first_met : FnScope ["beats", "other", "told", "other_told"] ["beats", "other"] (defScope s_first_met) := ⟨rfl, rfl, rfl, by decide +kernel, rfl, by decide +kernel, by decide +kernel⟩
theorem sc__law_hand : FnScope ["script", "row", "at", "left", "turn"] ["script"] (defScope s__law_hand) := ⟨rfl, rfl, rfl, by decide +kernel, rfl, by decide +kernel, by decide +kernel⟩
theorem sc__law_draw : FnScope ["hand", "many", "at"] ["hand", "many"] (defScope s__law_draw) := ⟨rfl, rfl, rfl, by decide +kernel, rfl, by decide +kernel, by decide +kernel⟩
theorem sc__law_just : FnScope ["told", "due"] ["told", "due"] (defScope s__law_just) := ⟨rfl, rfl, rfl, by decide +kernel, rfl, by decide +kernel, by decide +kernel⟩
theorem sc__law_common : FnScope ["a", "b", "turn"] ["a", "b"] (defScope s__law_common) := ⟨rfl, rfl, rfl, by decide +kernel, rfl, by decide +kernel, by decide +kernel⟩
theorem sc__law_small_row : FnScope ["hand", "c", "p"] ["hand"] (defScope s__law_small_row) := ⟨rfl, rfl, rfl, by decide +kernel, rfl, by decide +kernel, by decide +kernel⟩
theorem sc__law_families : FnScope ["one", "other", "common", "firsts", "i", "j", "apart", "told"] ["one", "other"] (defScope s__law_families) := ⟨rfl, rfl, rfl, by decide +kernel, rfl, by decide +kernel, by decide +kernel⟩
theorem sc__law_many : FnScope ["families", "k", "total", "apart", "i", "j", "di", "dj"] ["families", "k"] (defScope s__law_many) := ⟨rfl, rfl, rfl, by decide +kernel, rfl, by decide +kernel, by decide +kernel⟩
theorem sc__law_tried : FnScope ["one", "other", "k", "total", "i", "j", "apart"] ["one", "other", "k"] (defScope s__law_tried) := ⟨rfl, rfl, rfl, by decide +kernel, rfl, by decide +kernel, by decide +kernel⟩
theorem sc__law_heard_beats : FnScope ["which", "one", "other", "k", "heard", "error"] ["which", "one", "other", "k"] (defScope s__law_heard_beats) := ⟨rfl, rfl, rfl, by decide +kernel, rfl, by decide +kernel, by decide +kernel⟩
theorem sc__law_two_right : FnScope ["hand", "one", "other", "families", "first", "family", "given", "back", "turned", "apart", "i", "j", "di", "dj", "k"] ["hand", "one", "other", "families"] (defScope s__law_two_right) := ⟨rfl, rfl, rfl, by decide +kernel, rfl, by decide +kernel, by decide +kernel⟩
theorem sc__law_small_right : FnScope ["hand", "one", "other", "families", "k"] ["hand"] (defScope s__law_small_right) := ⟨rfl, rfl, rfl, by decide +kernel, rfl, by decide +kernel, by decide +kernel⟩
theorem sc__law_great_right : FnScope ["hand", "common", "a", "b", "s", "t", "apart", "i", "j", "late", "one", "other"] ["hand"] (defScope s__law_great_right) := ⟨rfl, rfl, rfl, by decide +kernel, rfl, by decide +kernel, by decide +kernel⟩
theorem sc__law_wide_right : FnScope ["hand", "c", "half", "one", "other", "due", "apart", "m", "wide", "which"] ["hand"] (defScope s__law_wide_right) := ⟨rfl, rfl, rfl, by decide +kernel, rfl, by decide +kernel, by decide +kernel⟩
theorem sc__law_refused : FnScope ["hand", "good", "wide", "drift", "bads", "which", "at", "bad", "due", "pairs", "one", "other", "k"] ["hand"] (defScope s__law_refused) := ⟨rfl, rfl, rfl, by decide +kernel, rfl, by decide +kernel, by decide +kernel⟩
theorem sc_law : FnScope ["script", "hand"] ["script"] (defScope s_law) := ⟨rfl, rfl, rfl, by decide +kernel, rfl, by decide +kernel, by decide +kernel⟩
theorem sc_init_BadBounds : FnScope ["self", "at"] ["self", "at"] (defScope s_init_BadBounds) := ⟨rfl, rfl, rfl, by decide +kernel, rfl, by decide +kernel, by decide +kernel⟩
theorem sc_init_BadCase : FnScope ["self", "at"] ["self", "at"] (defScope s_init_BadCase) := ⟨rfl, rfl, rfl, by decide +kernel, rfl, by decide +kernel, by decide +kernel⟩
theorem sc_init_BadNumber : FnScope ["self", "at"] ["self", "at"] (defScope s_init_BadNumber) := ⟨rfl, rfl, rfl, by decide +kernel, rfl, by decide +kernel, by decide +kernel⟩
/-- what the top has written -/
structure Txt (K : Fg) (mg : Str → Option Value) (fa ca : Str → Addr) (fo : Str → FuncData) : Prop where
  F_told_plainly : L2.Fun K "told_plainly" "told_plainly" s_told_plainly (fa "told_plainly") (fo "told_plainly")
  g_told_plainly : mg "told_plainly" = some (.ref (fa "told_plainly"))
  b_told_plainly : Binds K (fo "told_plainly") ["thing"] []
  F_is_int : L2.Fun K "is_int" "is_int" s_is_int (fa "is_int") (fo "is_int")
  g_is_int : mg "is_int" = some (.ref (fa "is_int"))
  b_is_int : Binds K (fo "is_int") ["x"] []
  F_plain_form : L2.Fun K "plain_form" "plain_form" s_plain_form (fa "plain_form") (fo "plain_form")
  g_plain_form : mg "plain_form" = some (.ref (fa "plain_form"))
  b_plain_form : Binds K (fo "plain_form") ["x"] []
  F_check_number : L2.Fun K "check_number" "check_number" s_check_number (fa "check_number") (fo "check_number")
  g_check_number : mg "check_number" = some (.ref (fa "check_number"))
  b_check_number : Binds K (fo "check_number") ["x", "least"] []
  F_are_beats : L2.Fun K "are_beats" "are_beats" s_are_beats (fa "are_beats") (fo "are_beats")
  g_are_beats : mg "are_beats" = some (.ref (fa "are_beats"))
  b_are_beats : Binds K (fo "are_beats") ["told"] []
  F_check_beats : L2.Fun K "check_beats" "check_beats" s_check_beats (fa "check_beats") (fo "check_beats")
  g_check_beats : mg "check_beats" = some (.ref (fa "check_beats"))
  b_check_beats : Binds K (fo "check_beats") ["beats"] []
  F_are_fixed : L2.Fun K "are_fixed" "are_fixed" s_are_fixed (fa "are_fixed") (fo "are_fixed")
  g_are_fixed : mg "are_fixed" = some (.ref (fa "are_fixed"))
  b_are_fixed : Binds K (fo "are_fixed") ["beats", "other"] []
  F_are_narrow : L2.Fun K "are_narrow" "are_narrow" s_are_narrow (fa "are_narrow") (fo "are_narrow")
  g_are_narrow : mg "are_narrow" = some (.ref (fa "are_narrow"))
  b_are_narrow : Binds K (fo "are_narrow") ["beats", "other"] []
  F_ever_meet : L2.Fun K "ever_meet" "ever_meet" s_ever_meet (fa "ever_meet") (fo "ever_meet")
  g_ever_meet : mg "ever_meet" = some (.ref (fa "ever_meet"))
  b_ever_meet : Binds K (fo "ever_meet") ["beats", "other"] []
  F_inverse_of : L2.Fun K "inverse_of" "inverse_of" s_inverse_of (fa "inverse_of") (fo "inverse_of")
  g_inverse_of : mg "inverse_of" = some (.ref (fa "inverse_of"))
  b_inverse_of : Binds K (fo "inverse_of") ["a", "b"] []
  F_family_of : L2.Fun K "family_of" "family_of" s_family_of (fa "family_of") (fo "family_of")
  g_family_of : mg "family_of" = some (.ref (fa "family_of"))
  b_family_of : Binds K (fo "family_of") ["beats", "other", "apart"] []
  F_families_of : L2.Fun K "families_of" "families_of" s_families_of (fa "families_of") (fo "families_of")
  g_families_of : mg "families_of" = some (.ref (fa "families_of"))
  b_families_of : Binds K (fo "families_of") ["beats", "other"] []
  F_met_families : L2.Fun K "met_families" "met_families" s_met_families (fa "met_families") (fo "met_families")
  g_met_families : mg "met_families" = some (.ref (fa "met_families"))
  b_met_families : Binds K (fo "met_families") ["beats", "other"] []
  F_pairs_within : L2.Fun K "pairs_within" "pairs_within" s_pairs_within (fa "pairs_within") (fo "pairs_within")
  g_pairs_within : mg "pairs_within" = some (.ref (fa "pairs_within"))
  b_pairs_within : Binds K (fo "pairs_within") ["families", "k"] []
  F_met_number : L2.Fun K "met_number" "met_number" s_met_number (fa "met_number") (fo "met_number")
  g_met_number : mg "met_number" = some (.ref (fa "met_number"))
  b_met_number : Binds K (fo "met_number") ["beats", "other", "k"] []
  F_first_of_families : L2.Fun K "first_of_families" "first_of_families" s_first_of_families (fa "first_of_families") (fo "first_of_families")
  g_first_of_families : mg "first_of_families" = some (.ref (fa "first_of_families"))
  b_first_of_families : Binds K (fo "first_of_families") ["families"] []
  F_first_met : L2.Fun K "first_met" "first_met" s_first_met (fa "first_met") (fo "first_met")
  g_first_met : mg "first_met" = some (.ref (fa "first_met"))
  b_first_met : Binds K (fo "first_met") ["beats", "other"] []
  F__law_hand : L2.Fun K "_law_hand" "_law_hand" s__law_hand (fa "_law_hand") (fo "_law_hand")
  g__law_hand : mg "_law_hand" = some (.ref (fa "_law_hand"))
  b__law_hand : Binds K (fo "_law_hand") ["script"] []
  F__law_draw : L2.Fun K "_law_draw" "_law_draw" s__law_draw (fa "_law_draw") (fo "_law_draw")
  g__law_draw : mg "_law_draw" = some (.ref (fa "_law_draw"))
  b__law_draw : Binds K (fo "_law_draw") ["hand", "many"] []
  F__law_just : L2.Fun K "_law_just" "_law_just" s__law_just (fa "_law_just") (fo "_law_just")
  g__law_just : mg "_law_just" = some (.ref (fa "_law_just"))
  b__law_just : Binds K (fo "_law_just") ["told", "due"] []
  F__law_common : L2.Fun K "_law_common" "_law_common" s__law_common (fa "_law_common") (fo "_law_common")
  g__law_common : mg "_law_common" = some (.ref (fa "_law_common"))
  b__law_common : Binds K (fo "_law_common") ["a", "b"] []
  F__law_small_row : L2.Fun K "_law_small_row" "_law_small_row" s__law_small_row (fa "_law_small_row") (fo "_law_small_row")
  g__law_small_row : mg "_law_small_row" = some (.ref (fa "_law_small_row"))
  b__law_small_row : Binds K (fo "_law_small_row") ["hand"] []
  F__law_families : L2.Fun K "_law_families" "_law_families" s__law_families (fa "_law_families") (fo "_law_families")
  g__law_families : mg "_law_families" = some (.ref (fa "_law_families"))
  b__law_families : Binds K (fo "_law_families") ["one", "other"] []
  F__law_many : L2.Fun K "_law_many" "_law_many" s__law_many (fa "_law_many") (fo "_law_many")
  g__law_many : mg "_law_many" = some (.ref (fa "_law_many"))
  b__law_many : Binds K (fo "_law_many") ["families", "k"] []
  F__law_tried : L2.Fun K "_law_tried" "_law_tried" s__law_tried (fa "_law_tried") (fo "_law_tried")
  g__law_tried : mg "_law_tried" = some (.ref (fa "_law_tried"))
  b__law_tried : Binds K (fo "_law_tried") ["one", "other", "k"] []
  F__law_heard_beats : L2.Fun K "_law_heard_beats" "_law_heard_beats" s__law_heard_beats (fa "_law_heard_beats") (fo "_law_heard_beats")
  g__law_heard_beats : mg "_law_heard_beats" = some (.ref (fa "_law_heard_beats"))
  b__law_heard_beats : Binds K (fo "_law_heard_beats") ["which", "one", "other", "k"] []
  F__law_two_right : L2.Fun K "_law_two_right" "_law_two_right" s__law_two_right (fa "_law_two_right") (fo "_law_two_right")
  g__law_two_right : mg "_law_two_right" = some (.ref (fa "_law_two_right"))
  b__law_two_right : Binds K (fo "_law_two_right") ["hand", "one", "other", "families"] []
  F__law_small_right : L2.Fun K "_law_small_right" "_law_small_right" s__law_small_right (fa "_law_small_right") (fo "_law_small_right")
  g__law_small_right : mg "_law_small_right" = some (.ref (fa "_law_small_right"))
  b__law_small_right : Binds K (fo "_law_small_right") ["hand"] []
  F__law_great_right : L2.Fun K "_law_great_right" "_law_great_right" s__law_great_right (fa "_law_great_right") (fo "_law_great_right")
  g__law_great_right : mg "_law_great_right" = some (.ref (fa "_law_great_right"))
  b__law_great_right : Binds K (fo "_law_great_right") ["hand"] []
  F__law_wide_right : L2.Fun K "_law_wide_right" "_law_wide_right" s__law_wide_right (fa "_law_wide_right") (fo "_law_wide_right")
  g__law_wide_right : mg "_law_wide_right" = some (.ref (fa "_law_wide_right"))
  b__law_wide_right : Binds K (fo "_law_wide_right") ["hand"] []
  F__law_refused : L2.Fun K "_law_refused" "_law_refused" s__law_refused (fa "_law_refused") (fo "_law_refused")
  g__law_refused : mg "_law_refused" = some (.ref (fa "_law_refused"))
  b__law_refused : Binds K (fo "_law_refused") ["hand"] []
  F_law : L2.Fun K "law" "law" s_law (fa "law") (fo "law")
  g_law : mg "law" = some (.ref (fa "law"))
  b_law : Binds K (fo "law") ["script"] []
  F_init_BadBounds : L2.Fun K "__init__" "BadBounds.__init__" s_init_BadBounds (fa "BadBounds.__init__") (fo "BadBounds.__init__")
  b_init_BadBounds : Binds K (fo "BadBounds.__init__") ["self", "at"] []
  F_init_BadCase : L2.Fun K "__init__" "BadCase.__init__" s_init_BadCase (fa "BadCase.__init__") (fo "BadCase.__init__")
  b_init_BadCase : Binds K (fo "BadCase.__init__") ["self", "at"] []
  F_init_BadNumber : L2.Fun K "__init__" "BadNumber.__init__" s_init_BadNumber (fa "BadNumber.__init__") (fo "BadNumber.__init__")
  b_init_BadNumber : Binds K (fo "BadNumber.__init__") ["self", "at"] []
  E_BadBounds : ErrC K mg ca "BadBounds" (fa "BadBounds.__init__")
  E_BadCase : ErrC K mg ca "BadCase" (fa "BadCase.__init__")
  E_BadNumber : ErrC K mg ca "BadNumber" (fa "BadNumber.__init__")
  C_BadBounds : mg "BadBounds" = some (.ref (ca "BadBounds"))
  C_BadCase : mg "BadCase" = some (.ref (ca "BadCase"))
  C_BadNumber : mg "BadNumber" = some (.ref (ca "BadNumber"))
  C_ClockError : mg "ClockError" = some (.ref (ca "ClockError"))
  n_BadBounds_at : PySem.W.findIn K (.ref (ca "BadBounds")) "at" = some none
  n_BadCase_at : PySem.W.findIn K (.ref (ca "BadCase")) "at" = some none
  n_BadNumber_at : PySem.W.findIn K (.ref (ca "BadNumber")) "at" = some none
  X_BadBounds : XfC K (ca "BadBounds")
  X_BadCase : XfC K (ca "BadCase")
  X_BadNumber : XfC K (ca "BadNumber")
  Y_BadBounds : ExcC K (ca "BadBounds")
  Y_BadCase : ExcC K (ca "BadCase")
  Y_BadNumber : ExcC K (ca "BadNumber")
  k_BadBounds_ClockError : PySem.W.kitOne K (.ref (ca "BadBounds")) (.ref (ca "ClockError")) = some true
  k_BadCase_ClockError : PySem.W.kitOne K (.ref (ca "BadCase")) (.ref (ca "ClockError")) = some true
  k_BadNumber_ClockError : PySem.W.kitOne K (.ref (ca "BadNumber")) (.ref (ca "ClockError")) = some true
  k_BadBounds_BadNumber_BadCase : PySem.W.kitAny K (.ref (ca "BadBounds")) [.ref (ca "BadNumber"), .ref (ca "BadCase")] = some false
  k_BadCase_BadNumber_BadBounds : PySem.W.kitAny K (.ref (ca "BadCase")) [.ref (ca "BadNumber"), .ref (ca "BadBounds")] = some false
  k_BadNumber_BadBounds_BadCase : PySem.W.kitAny K (.ref (ca "BadNumber")) [.ref (ca "BadBounds"), .ref (ca "BadCase")] = some false
  exm : ∀ c C r, subC c C = some r → PySem.W.exmOne K (.ref (ca c)) (.ref (ca C)) = some r
  z_bool : mg "bool" = none
  z_int : mg "int" = none
  z_isinstance : mg "isinstance" = none
  z_len : mg "len" = none
  z_list : mg "list" = none
  z_max : mg "max" = none
  z_min : mg "min" = none
  z_range : mg "range" = none
  z_repr : mg "repr" = none
  z_sorted : mg "sorted" = none
  z_str : mg "str" = none
  z_tuple : mg "tuple" = none
  z_gcd : mg "gcd" = some (.builtin "math.gcd")
  c_WIDE_LIMIT : ∃ t, mg "WIDE_LIMIT" = some (.int 2000 t)
section
variable {P : Program} {w : World} {K : Fg} {mg : Str → Option Value} {base : Heap} {fa ca : Str → Addr} {fo : Str → FuncData}
theorem ok_is_int (T : Txt K mg fa ca fo) : FnG P w K mg base 1 (fa "is_int") (fo "is_int") ["x"] (spM K ca 1 m_is_int) :=
  fnM T.F_is_int sc_is_int fun cdv A outer s H E hr hgu => (ms_one (ms_ret (me_and (me_isi1 (by decide) (by rfl) T.z_isinstance (me_v (pv 0)) (pe_bltn (by rfl) T.z_int (by decide +kernel) rfl)) (me_one (me_not (me_isi1 (by decide) (by rfl) T.z_isinstance (me_v (pv 0)) (pe_bltn (by rfl) T.z_bool (by decide +kernel) rfl)))))))
theorem ok_are_fixed (T : Txt K mg fa ca fo) : FnG P w K mg base 1 (fa "are_fixed") (fo "are_fixed") ["beats", "other"] (spM K ca 2 m_are_fixed) :=
  fnM T.F_are_fixed sc_are_fixed fun cdv A outer s H E hr hgu => (ms_one (ms_ret (me_and (me_cmp (od_eq hr.units) (me_ix (hu_of hr) (me_v (pv 0)) (me_int) (fun _ _ => rfl)) (me_str)) (me_one (me_cmp (od_eq hr.units) (me_ix (hu_of hr) (me_v (pv 1)) (me_int) (fun _ _ => rfl)) (me_str))))))
theorem ok_are_narrow (T : Txt K mg fa ca fo) : FnG P w K mg base 1 (fa "are_narrow") (fo "are_narrow") ["beats", "other"] (spM K ca 2 m_are_narrow) :=
  fnM T.F_are_narrow sc_are_narrow fun cdv A outer s H E hr hgu => (ms_one (ms_ret (me_cmp (od_le) (me_bin (od_add (own := false)) (me_ix (hu_of hr) (me_v (pv 0)) (me_int) (fun _ _ => rfl)) (me_ix (hu_of hr) (me_v (pv 1)) (me_int) (fun _ _ => rfl))) (me_gint (by rfl) T.c_WIDE_LIMIT))))
theorem ok_inverse_of (T : Txt K mg fa ca fo) : FnG P w K mg base 1 (fa "inverse_of") (fo "inverse_of") ["a", "b"] (spM K ca 2 m_inverse_of) :=
  fnM T.F_inverse_of sc_inverse_of fun cdv A outer s H E hr hgu => (ms_cons (ms_par (i := 2) (j := 3) rfl sc_inverse_of.nd rfl rfl (by decide) rfl rfl (ma_cons (me_callT (cd_int (own := false)) (by rfl) T.z_int (by decide +kernel) (ma_cons (me_v (pv 1)) (ma_nil))) (ma_cons (me_bin (od_mod (own := false)) (me_callT (cd_int (own := false)) (by rfl) T.z_int (by decide +kernel) (ma_cons (me_v (pv 0)) (ma_nil))) (me_callT (cd_int (own := false)) (by rfl) T.z_int (by decide +kernel) (ma_cons (me_v (pv 1)) (ma_nil)))) (ma_nil)))) (ms_cons (ms_asg (me_tup (ma_cons (me_int) (ma_cons (me_int) (ma_nil)))) (mg_tup rfl (mgs_cons (mg_name (i := 4) sc_inverse_of.nd rfl (by first | exact Or.inl rfl | exact Or.inr rfl)) (mgs_cons (mg_name (i := 5) sc_inverse_of.nd rfl (by first | exact Or.inl rfl | exact Or.inr rfl)) (mgs_nil))))) (ms_cons (ms_while FUEL (passes_of rfl) (mt_cmp (od_gt) (me_v (pv 3)) (me_int)) (ms_cons (ms_set (i := 6) sc_inverse_of.nd rfl (by first | exact Or.inl rfl | exact Or.inr rfl) (me_bin (od_div (own := false)) (me_v (pv 2)) (me_v (pv 3)))) (ms_cons (ms_par (i := 2) (j := 3) rfl sc_inverse_of.nd rfl rfl (by decide) rfl rfl (ma_cons (me_v (pv 3)) (ma_cons (me_bin (od_sub (own := false)) (me_v (pv 2)) (me_bin (od_mul (own := false)) (me_v (pv 6)) (me_v (pv 3)))) (ma_nil)))) (ms_one (ms_par (i := 4) (j := 5) rfl sc_inverse_of.nd rfl rfl (by decide) rfl rfl (ma_cons (me_v (pv 5)) (ma_cons (me_bin (od_sub (own := false)) (me_v (pv 4)) (me_bin (od_mul (own := false)) (me_v (pv 6)) (me_v (pv 5)))) (ma_nil)))))))) (ms_one (ms_ret (me_bin (od_mod (own := false)) (me_callT (cd_int (own := false)) (by rfl) T.z_int (by decide +kernel) (ma_cons (me_v (pv 4)) (ma_nil))) (me_callT (cd_int (own := false)) (by rfl) T.z_int (by decide +kernel) (ma_cons (me_v (pv 1)) (ma_nil)))))))))
theorem ok_pairs_within (T : Txt K mg fa ca fo) : FnG P w K mg base 1 (fa "pairs_within") (fo "pairs_within") ["families", "k"] (spM K ca 2 m_pairs_within) :=
  fnM T.F_pairs_within sc_pairs_within fun cdv A outer s H E hr hgu => (ms_cons (ms_set (i := 2) sc_pairs_within.nd rfl (by first | exact Or.inl rfl | exact Or.inr rfl) (me_int)) (ms_cons (ms_for (passes_of rfl) rfl (me_v (pv 0)) (mg_tup rfl (mgs_cons (mg_name (i := 3) sc_pairs_within.nd rfl (by first | exact Or.inl rfl | exact Or.inr rfl)) (mgs_cons (mg_name (i := 4) sc_pairs_within.nd rfl (by first | exact Or.inl rfl | exact Or.inr rfl)) (mgs_cons (mg_name (i := 5) sc_pairs_within.nd rfl (by first | exact Or.inl rfl | exact Or.inr rfl)) (mgs_cons (mg_name (i := 6) sc_pairs_within.nd rfl (by first | exact Or.inl rfl | exact Or.inr rfl)) (mgs_cons (mg_name (i := 7) sc_pairs_within.nd rfl (by first | exact Or.inl rfl | exact Or.inr rfl)) (mgs_nil))))))) (ms_one (ms_set (i := 2) sc_pairs_within.nd rfl (by first | exact Or.inl rfl | exact Or.inr rfl) (me_bin (od_add (own := false)) (me_v (pv 2)) (me_call (cd_max (own := false) rfl) (by rfl) T.z_max (by decide +kernel) (ma_cons (me_int) (ma_cons (me_bin (od_add (own := false)) (me_int) (me_call (cd_min (own := false) rfl) (by rfl) T.z_min (by decide +kernel) (ma_cons (me_bin (od_div (own := false)) (me_bin (od_sub (own := false)) (me_v (pv 1)) (me_v (pv 4))) (me_v (pv 6))) (ma_cons (me_bin (od_div (own := false)) (me_bin (od_sub (own := false)) (me_v (pv 1)) (me_v (pv 5))) (me_v (pv 7))) (ma_nil))))) (ma_nil)))))))) (ms_one (ms_ret (me_v (pv 2))))))
theorem ok_first_of_families (T : Txt K mg fa ca fo) : FnG P w K mg base 1 (fa "first_of_families") (fo "first_of_families") ["families"] (spM K ca 1 m_first_of_families) :=
  fnM T.F_first_of_families sc_first_of_families fun cdv A outer s H E hr hgu => (ms_cons (ms_if (mt_cmp (od_eq hr.units) (me_call (cd_len (own := false)) (by rfl) T.z_len (by decide +kernel) (ma_cons (me_v (pv 0)) (ma_nil))) (me_int)) (ms_one (ms_ret (me_non))) (ms_nil)) (ms_one (ms_ret (me_call (cd_min (own := false) rfl) (by rfl) T.z_min (by decide +kernel) (ma_cons (me_lc false rfl sc_first_of_families.nd (me_v (pv 0)) (⟨(show BlkOk ["families", "family"] (defScope s_first_of_families) _ _ from ⟨rfl, by decide +kernel, by decide +kernel, by decide +kernel, by decide +kernel⟩), fun s0 H0 C0 cl0 fp0 => mg_name (i := 1) sc_first_of_families.nd rfl (by first | exact Or.inl rfl | exact Or.inr rfl), fun s0 H0 C0 cl0 fp0 => mts_nil, fun s0 H0 C0 cl0 fp0 => me_call (cd_max (own := false) rfl) (by rfl) T.z_max (by decide +kernel) (ma_cons (me_ix (hu_of hr) (me_v (pv 1)) (me_int) (fun _ _ => rfl)) (ma_cons (me_ix (hu_of hr) (me_v (pv 1)) (me_int) (fun _ _ => rfl)) (ma_nil))), by decide⟩ : Blk _ _ _ [("family", 1)] _ _ _ _ _ _)) (ma_nil))))))
theorem ok__law_hand (T : Txt K mg fa ca fo) : FnG P w K mg base 1 (fa "_law_hand") (fo "_law_hand") ["script"] (spM K ca 1 m__law_hand) :=
  fnM T.F__law_hand sc__law_hand fun cdv A outer s H E hr hgu => (ms_cons (ms_set (i := 1) sc__law_hand.nd rfl (by first | exact Or.inl rfl | exact Or.inr rfl) (me_lst (own := true) (ma_nil))) (ms_cons (ms_for1 (passes_of rfl) rfl (by rfl) T.z_range (ma_cons (me_call (cd_min (own := false) rfl) (by rfl) T.z_min (by decide +kernel) (ma_cons (me_call (cd_len (own := false)) (by rfl) T.z_len (by decide +kernel) (ma_cons (me_v (pv 0)) (ma_nil))) (ma_cons (me_int) (ma_nil)))) (ma_nil)) (mg_name (i := 2) sc__law_hand.nd rfl (by first | exact Or.inl rfl | exact Or.inr rfl)) (ms_cons (ms_set (i := 3) sc__law_hand.nd rfl (by first | exact Or.inl rfl | exact Or.inr rfl) (me_callT (cd_int (own := false)) (by rfl) T.z_int (by decide +kernel) (ma_cons (me_ix (hu_of hr) (me_v (pv 0)) (me_v (pv 2)) (fun _ _ => rfl)) (ma_nil)))) (ms_cons (ms_if (mt_cmp (od_lt) (me_v (pv 3)) (me_int)) (ms_one (ms_set (i := 3) sc__law_hand.nd rfl (by first | exact Or.inl rfl | exact Or.inr rfl) (me_bin (od_sub (own := false)) (me_int) (me_bin (od_mul (own := false)) (me_int) (me_v (pv 3)))))) (ms_nil)) (ms_cons (ms_set (i := 3) sc__law_hand.nd rfl (by first | exact Or.inl rfl | exact Or.inr rfl) (me_bin (od_mod (own := false)) (me_callT (cd_int (own := false)) (by rfl) T.z_int (by decide +kernel) (ma_cons (me_v (pv 3)) (ma_nil))) (me_bin (od_pow (own := false)) (me_int) (me_int)))) (ms_one (ms_for1 (passes_of rfl) rfl (by rfl) T.z_range (ma_cons (me_int) (ma_nil)) (mg_name (i := 4) sc__law_hand.nd rfl (by first | exact Or.inl rfl | exact Or.inr rfl)) (ms_cons (ms_expr (me_append (me_v (pv 1)) (me_bin (od_mod (own := false)) (me_callT (cd_int (own := false)) (by rfl) T.z_int (by decide +kernel) (ma_cons (me_v (pv 3)) (ma_nil))) (me_int)))) (ms_cons (ms_set (i := 3) sc__law_hand.nd rfl (by first | exact Or.inl rfl | exact Or.inr rfl) (me_bin (od_div (own := false)) (me_v (pv 3)) (me_int))) (ms_one (ms_if (mt_cmp (od_eq hr.units) (me_v (pv 3)) (me_int)) (ms_one (ms_break)) (ms_nil))))))))))) (ms_one (ms_ret (me_disp (mp_cons (me_str) (me_v (pv 1)) (mp_cons (me_str) (me_int) (mp_nil))) rfl rfl (List.cons_ne_nil _ _) (Nat.le_of_ble_eq_true rfl))))))
theorem ok__law_draw (T : Txt K mg fa ca fo) : FnG P w K mg base 1 (fa "_law_draw") (fo "_law_draw") ["hand", "many"] (spM K ca 2 m__law_draw) :=
  fnM T.F__law_draw sc__law_draw fun cdv A outer s H E hr hgu => (ms_cons (ms_set (i := 2) sc__law_draw.nd rfl (by first | exact Or.inl rfl | exact Or.inr rfl) (me_ix (hu_of hr) (me_v (pv 0)) (me_str) (fun _ _ => rfl))) (ms_cons (ms_dput (hu_of hr) (me_v (pv 0)) (me_str) (me_bin (od_add (own := false)) (me_v (pv 2)) (me_int))) (ms_cons (ms_if (mt_cmp (od_ge) (me_v (pv 2)) (me_call (cd_len (own := false)) (by rfl) T.z_len (by decide +kernel) (ma_cons (me_ix (hu_of hr) (me_v (pv 0)) (me_str) (fun _ _ => rfl)) (ma_nil)))) (ms_one (ms_ret (me_int))) (ms_nil)) (ms_one (ms_ret (me_bin (od_mod (own := false)) (me_callT (cd_int (own := false)) (by rfl) T.z_int (by decide +kernel) (ma_cons (me_ix (hu_of hr) (me_ix (hu_of hr) (me_v (pv 0)) (me_str) (fun _ _ => rfl)) (me_v (pv 2)) (fun _ _ => rfl)) (ma_nil))) (me_v (pv 1))))))))
theorem ok__law_just (T : Txt K mg fa ca fo) : FnG P w K mg base 1 (fa "_law_just") (fo "_law_just") ["told", "due"] (spM K ca 2 m__law_just) :=
  fnM T.F__law_just sc__law_just fun cdv A outer s H E hr hgu => (ms_one (ms_ret (me_and (me_cmp (od_eq hr.units) (me_v (pv 0)) (me_v (pv 1))) (me_one (me_cmp (od_eq hr.units) (me_call (cd_repr (own := false) hgu hr.units) (by rfl) T.z_repr (by decide +kernel) (ma_cons (me_v (pv 0)) (ma_nil))) (me_call (cd_repr (own := false) hgu hr.units) (by rfl) T.z_repr (by decide +kernel) (ma_cons (me_v (pv 1)) (ma_nil))))))))
theorem ok__law_common (T : Txt K mg fa ca fo) : FnG P w K mg base 1 (fa "_law_common") (fo "_law_common") ["a", "b"] (spM K ca 2 m__law_common) :=
  fnM T.F__law_common sc__law_common fun cdv A outer s H E hr hgu => (ms_cons (ms_for1 (passes_of rfl) rfl (by rfl) T.z_range (ma_cons (me_int) (ma_nil)) (mg_name (i := 2) sc__law_common.nd rfl (by first | exact Or.inl rfl | exact Or.inr rfl)) (ms_cons (ms_if (mt_cmp (od_eq hr.units) (me_v (pv 1)) (me_int)) (ms_one (ms_break)) (ms_nil)) (ms_one (ms_par (i := 0) (j := 1) rfl sc__law_common.nd rfl rfl (by decide) rfl rfl (ma_cons (me_v (pv 1)) (ma_cons (me_bin (od_mod (own := false)) (me_callT (cd_int (own := false)) (by rfl) T.z_int (by decide +kernel) (ma_cons (me_v (pv 0)) (ma_nil))) (me_callT (cd_int (own := false)) (by rfl) T.z_int (by decide +kernel) (ma_cons (me_v (pv 1)) (ma_nil)))) (ma_nil))))))) (ms_one (ms_ret (me_v (pv 0)))))
theorem ok__law_many (T : Txt K mg fa ca fo) : FnG P w K mg base 1 (fa "_law_many") (fo "_law_many") ["families", "k"] (spM K ca 2 m__law_many) :=
  fnM T.F__law_many sc__law_many fun cdv A outer s H E hr hgu => (ms_cons (ms_set (i := 2) sc__law_many.nd rfl (by first | exact Or.inl rfl | exact Or.inr rfl) (me_int)) (ms_cons (ms_for (passes_of rfl) rfl (me_v (pv 0)) (mg_tup rfl (mgs_cons (mg_name (i := 3) sc__law_many.nd rfl (by first | exact Or.inl rfl | exact Or.inr rfl)) (mgs_cons (mg_name (i := 4) sc__law_many.nd rfl (by first | exact Or.inl rfl | exact Or.inr rfl)) (mgs_cons (mg_name (i := 5) sc__law_many.nd rfl (by first | exact Or.inl rfl | exact Or.inr rfl)) (mgs_cons (mg_name (i := 6) sc__law_many.nd rfl (by first | exact Or.inl rfl | exact Or.inr rfl)) (mgs_cons (mg_name (i := 7) sc__law_many.nd rfl (by first | exact Or.inl rfl | exact Or.inr rfl)) (mgs_nil))))))) (ms_one (ms_if ((mw_and (mt_cmp (od_le) (me_v (pv 4)) (me_v (pv 1))) (mw_and1 (mt_cmp (od_le) (me_v (pv 5)) (me_v (pv 1))))).pt) (ms_one (ms_set (i := 2) sc__law_many.nd rfl (by first | exact Or.inl rfl | exact Or.inr rfl) (me_bin (od_add (own := false)) (me_bin (od_add (own := false)) (me_v (pv 2)) (me_int)) (me_call (cd_min (own := false) rfl) (by rfl) T.z_min (by decide +kernel) (ma_cons (me_bin (od_div (own := false)) (me_bin (od_sub (own := false)) (me_v (pv 1)) (me_v (pv 4))) (me_call (cd_max (own := false) rfl) (by rfl) T.z_max (by decide +kernel) (ma_cons (me_int) (ma_cons (me_v (pv 6)) (ma_nil))))) (ma_cons (me_bin (od_div (own := false)) (me_bin (od_sub (own := false)) (me_v (pv 1)) (me_v (pv 5))) (me_call (cd_max (own := false) rfl) (by rfl) T.z_max (by decide +kernel) (ma_cons (me_int) (ma_cons (me_v (pv 7)) (ma_nil))))) (ma_nil))))))) (ms_nil)))) (ms_one (ms_ret (me_v (pv 2))))))
theorem ok__law_tried (T : Txt K mg fa ca fo) : FnG P w K mg base 1 (fa "_law_tried") (fo "_law_tried") ["one", "other", "k"] (spM K ca 3 m__law_tried) :=
  fnM T.F__law_tried sc__law_tried fun cdv A outer s H E hr hgu => (ms_cons (ms_set (i := 3) sc__law_tried.nd rfl (by first | exact Or.inl rfl | exact Or.inr rfl) (me_int)) (ms_cons (ms_for2 (passes_of rfl) rfl (by rfl) T.z_range (ma_cons (me_int) (ma_cons (me_bin (od_add (own := false)) (me_v (pv 2)) (me_int)) (ma_nil))) (mg_name (i := 4) sc__law_tried.nd rfl (by first | exact Or.inl rfl | exact Or.inr rfl)) (ms_one (ms_for2 (passes_of rfl) rfl (by rfl) T.z_range (ma_cons (me_int) (ma_cons (me_bin (od_add (own := false)) (me_v (pv 2)) (me_int)) (ma_nil))) (mg_name (i := 5) sc__law_tried.nd rfl (by first | exact Or.inl rfl | exact Or.inr rfl)) (ms_cons (ms_set (i := 6) sc__law_tried.nd rfl (by first | exact Or.inl rfl | exact Or.inr rfl) (me_bin (od_sub (own := false)) (me_bin (od_sub (own := false)) (me_bin (od_add (own := false)) (me_ix (hu_of hr) (me_v (pv 0)) (me_int) (fun _ _ => rfl)) (me_bin (od_mul (own := false)) (me_v (pv 4)) (me_ix (hu_of hr) (me_v (pv 0)) (me_int) (fun _ _ => rfl)))) (me_ix (hu_of hr) (me_v (pv 1)) (me_int) (fun _ _ => rfl))) (me_bin (od_mul (own := false)) (me_v (pv 5)) (me_ix (hu_of hr) (me_v (pv 1)) (me_int) (fun _ _ => rfl))))) (ms_one (ms_if (mt_chain (od_le) (od_le) (me_neg (me_ix (hu_of hr) (me_v (pv 0)) (me_int) (fun _ _ => rfl))) (me_v (pv 6)) (me_ix (hu_of hr) (me_v (pv 1)) (me_int) (fun _ _ => rfl))) (ms_one (ms_set (i := 3) sc__law_tried.nd rfl (by first | exact Or.inl rfl | exact Or.inr rfl) (me_bin (od_add (own := false)) (me_v (pv 3)) (me_int)))) (ms_nil))))))) (ms_one (ms_ret (me_v (pv 3))))))
theorem ok_are_beats (T : Txt K mg fa ca fo) : FnG P w K mg base 2 (fa "are_beats") (fo "are_beats") ["told"] (spM K ca 1 m_are_beats) :=
  fnM T.F_are_beats sc_are_beats fun cdv A outer s H E hr hgu => (ms_cons (ms_if ((mw_or (mt_not (mt_val (me_isi1 (by decide) (by rfl) T.z_isinstance (me_v (pv 0)) (pe_bltn (by rfl) T.z_tuple (by decide +kernel) rfl)))) (mw_or1 (mt_cmp (od_ne hr.units) (me_call (cd_len (own := false)) (by rfl) T.z_len (by decide +kernel) (ma_cons (me_v (pv 0)) (ma_nil))) (me_int)))).pt) (ms_one (ms_ret (me_bl))) (ms_nil)) (ms_cons (ms_if ((mw_or (mt_not (mt_val (me_isi1 (by decide) (by rfl) T.z_isinstance (me_ix (hu_of hr) (me_v (pv 0)) (me_int) (fun _ _ => rfl)) (pe_bltn (by rfl) T.z_str (by decide +kernel) rfl)))) (mw_or1 (mt_cmp (od_notIn (hu_of hr)) (me_ix (hu_of hr) (me_v (pv 0)) (me_int) (fun _ _ => rfl)) (me_tup (ma_cons (me_str) (ma_cons (me_str) (ma_nil))))))).pt) (ms_one (ms_ret (me_bl))) (ms_nil)) (ms_cons (ms_for (passes_of rfl) rfl (me_slice (own := false) (me_v (pv 0)) (mo_some (me_int)) (mo_none)) (mg_name (i := 1) sc_are_beats.nd rfl (by first | exact Or.inl rfl | exact Or.inr rfl)) (ms_one (ms_if ((mw_or (mt_not (mt_val (me_callG (ok_is_int T).apart (hr.mono (by decide)) hgu (by rfl) T.g_is_int T.F_is_int.kp T.b_is_int (takes_of rfl rfl rfl rfl) (ma_cons (me_v (pv 1)) (ma_nil))))) (mw_or1 (mt_cmp (od_lt) (me_v (pv 1)) (me_int)))).pt) (ms_one (ms_ret (me_bl))) (ms_nil)))) (ms_cons (ms_if (mt_cmp (od_lt) (me_ix (hu_of hr) (me_v (pv 0)) (me_int) (fun _ _ => rfl)) (me_int)) (ms_one (ms_ret (me_bl))) (ms_nil)) (ms_one (ms_ret (me_or (me_cmp (od_eq hr.units) (me_ix (hu_of hr) (me_v (pv 0)) (me_int) (fun _ _ => rfl)) (me_str)) (me_one (me_cmp (od_le) (me_ix (hu_of hr) (me_v (pv 0)) (me_int) (fun _ _ => rfl)) (me_ix (hu_of hr) (me_v (pv 0)) (me_int) (fun _ _ => rfl)))))))))))
theorem ok_family_of (T : Txt K mg fa ca fo) : FnG P w K mg base 2 (fa "family_of") (fo "family_of") ["beats", "other", "apart"] (spM K ca 3 m_family_of) :=
  fnM T.F_family_of sc_family_of fun cdv A outer s H E hr hgu => (ms_cons (ms_set (i := 3) sc_family_of.nd rfl (by first | exact Or.inl rfl | exact Or.inr rfl) (me_callM (cd_gcd (own := false)) (by rfl) T.z_gcd (ma_cons (me_ix (hu_of hr) (me_v (pv 0)) (me_int) (fun _ _ => rfl)) (ma_cons (me_ix (hu_of hr) (me_v (pv 1)) (me_int) (fun _ _ => rfl)) (ma_nil))))) (ms_cons (ms_set (i := 4) sc_family_of.nd rfl (by first | exact Or.inl rfl | exact Or.inr rfl) (me_bin (od_div (own := false)) (me_ix (hu_of hr) (me_v (pv 0)) (me_int) (fun _ _ => rfl)) (me_v (pv 3)))) (ms_cons (ms_set (i := 5) sc_family_of.nd rfl (by first | exact Or.inl rfl | exact Or.inr rfl) (me_bin (od_div (own := false)) (me_ix (hu_of hr) (me_v (pv 1)) (me_int) (fun _ _ => rfl)) (me_v (pv 3)))) (ms_cons (ms_set (i := 6) sc_family_of.nd rfl (by first | exact Or.inl rfl | exact Or.inr rfl) (me_bin (od_div (own := false)) (me_bin (od_add (own := false)) (me_bin (od_sub (own := false)) (me_v (pv 2)) (me_ix (hu_of hr) (me_v (pv 0)) (me_int) (fun _ _ => rfl))) (me_ix (hu_of hr) (me_v (pv 1)) (me_int) (fun _ _ => rfl))) (me_v (pv 3)))) (ms_cons (ms_set (i := 7) sc_family_of.nd rfl (by first | exact Or.inl rfl | exact Or.inr rfl) (me_bin (od_mod (own := false)) (me_callT (cd_int (own := false)) (by rfl) T.z_int (by decide +kernel) (ma_cons (me_bin (od_mul (own := false)) (me_v (pv 6)) (me_callG (ok_inverse_of T).apart (hr.mono (by decide)) hgu (by rfl) T.g_inverse_of T.F_inverse_of.kp T.b_inverse_of (takes_of rfl rfl rfl rfl) (ma_cons (me_v (pv 4)) (ma_cons (me_v (pv 5)) (ma_nil))))) (ma_nil))) (me_v (pv 5)))) (ms_cons (ms_set (i := 8) sc_family_of.nd rfl (by first | exact Or.inl rfl | exact Or.inr rfl) (me_call (cd_max (own := false) rfl) (by rfl) T.z_max (by decide +kernel) (ma_cons (me_int) (ma_cons (me_neg (me_bin (od_div (own := false)) (me_bin (od_sub (own := false)) (me_neg (me_v (pv 6))) (me_v (pv 5))) (me_v (pv 4)))) (ma_nil))))) (ms_cons (ms_set (i := 9) sc_family_of.nd rfl (by first | exact Or.inl rfl | exact Or.inr rfl) (me_bin (od_add (own := false)) (me_v (pv 8)) (me_bin (od_mod (own := false)) (me_callT (cd_int (own := false)) (by rfl) T.z_int (by decide +kernel) (ma_cons (me_bin (od_sub (own := false)) (me_v (pv 7)) (me_v (pv 8))) (ma_nil))) (me_v (pv 5))))) (ms_one (ms_ret (me_tup (ma_cons (me_v (pv 2)) (ma_cons (me_v (pv 9)) (ma_cons (me_bin (od_div (own := false)) (me_bin (od_sub (own := false)) (me_bin (od_mul (own := false)) (me_v (pv 9)) (me_v (pv 4))) (me_v (pv 6))) (me_v (pv 5))) (ma_cons (me_v (pv 5)) (ma_cons (me_v (pv 4)) (ma_nil))))))))))))))))
theorem ok__law_small_row (T : Txt K mg fa ca fo) : FnG P w K mg base 2 (fa "_law_small_row") (fo "_law_small_row") ["hand"] (spM K ca 1 m__law_small_row) :=
  fnM T.F__law_small_row sc__law_small_row fun cdv A outer s H E hr hgu => (ms_cons (ms_set (i := 1) sc__law_small_row.nd rfl (by first | exact Or.inl rfl | exact Or.inr rfl) (me_ix (hu_of hr) (me_tup (ma_cons (me_int) (ma_cons (me_int) (ma_cons (me_int) (ma_cons (me_int) (ma_cons (me_int) (ma_cons (me_int) (ma_nil)))))))) (me_callG (ok__law_draw T) (hr.mono (by decide)) hgu (by rfl) T.g__law_draw T.F__law_draw.kp T.b__law_draw (takes_of rfl rfl rfl rfl) (ma_cons (me_v (pv 0)) (ma_cons (me_int) (ma_nil)))) (fun _ _ => rfl))) (ms_cons (ms_set (i := 2) sc__law_small_row.nd rfl (by first | exact Or.inl rfl | exact Or.inr rfl) (me_ix (hu_of hr) (me_tup (ma_cons (me_int) (ma_cons (me_int) (ma_cons (me_int) (ma_cons (me_int) (ma_cons (me_int) (ma_cons (me_int) (ma_cons (me_int) (ma_cons (me_int) (ma_cons (me_int) (ma_cons (me_int) (ma_cons (me_int) (ma_cons (me_int) (ma_nil)))))))))))))) (me_callG (ok__law_draw T) (hr.mono (by decide)) hgu (by rfl) T.g__law_draw T.F__law_draw.kp T.b__law_draw (takes_of rfl rfl rfl rfl) (ma_cons (me_v (pv 0)) (ma_cons (me_int) (ma_nil)))) (fun _ _ => rfl))) (ms_one (ms_ret (me_tup (ma_cons (me_str) (ma_cons (me_v (pv 1)) (ma_cons (me_v (pv 2)) (ma_cons (me_ix (hu_of hr) (me_tup (ma_cons (me_int) (ma_cons (me_int) (ma_cons (me_int) (ma_cons (me_int) (ma_cons (me_int) (ma_nil))))))) (me_callG (ok__law_draw T) (hr.mono (by decide)) hgu (by rfl) T.g__law_draw T.F__law_draw.kp T.b__law_draw (takes_of rfl rfl rfl rfl) (ma_cons (me_v (pv 0)) (ma_cons (me_int) (ma_nil)))) (fun _ _ => rfl)) (ma_nil))))))))))
theorem ok__law_families (T : Txt K mg fa ca fo) : FnG P w K mg base 2 (fa "_law_families") (fo "_law_families") ["one", "other"] (spM K ca 2 m__law_families) :=
  fnM T.F__law_families sc__law_families fun cdv A outer s H E hr hgu => (ms_cons (ms_set (i := 2) sc__law_families.nd rfl (by first | exact Or.inl rfl | exact Or.inr rfl) (me_callG (ok__law_common T).apart (hr.mono (by decide)) hgu (by rfl) T.g__law_common T.F__law_common.kp T.b__law_common (takes_of rfl rfl rfl rfl) (ma_cons (me_ix (hu_of hr) (me_v (pv 0)) (me_int) (fun _ _ => rfl)) (ma_cons (me_ix (hu_of hr) (me_v (pv 1)) (me_int) (fun _ _ => rfl)) (ma_nil))))) (ms_cons (ms_set (i := 3) sc__law_families.nd rfl (by first | exact Or.inl rfl | exact Or.inr rfl) (me_dnew)) (ms_cons (ms_for2 (passes_of rfl) rfl (by rfl) T.z_range (ma_cons (me_int) (ma_cons (me_int) (ma_nil))) (mg_name (i := 4) sc__law_families.nd rfl (by first | exact Or.inl rfl | exact Or.inr rfl)) (ms_one (ms_for2 (passes_of rfl) rfl (by rfl) T.z_range (ma_cons (me_int) (ma_cons (me_int) (ma_nil))) (mg_name (i := 5) sc__law_families.nd rfl (by first | exact Or.inl rfl | exact Or.inr rfl)) (ms_cons (ms_set (i := 6) sc__law_families.nd rfl (by first | exact Or.inl rfl | exact Or.inr rfl) (me_bin (od_sub (own := false)) (me_bin (od_sub (own := false)) (me_bin (od_add (own := false)) (me_ix (hu_of hr) (me_v (pv 0)) (me_int) (fun _ _ => rfl)) (me_bin (od_mul (own := false)) (me_v (pv 4)) (me_ix (hu_of hr) (me_v (pv 0)) (me_int) (fun _ _ => rfl)))) (me_ix (hu_of hr) (me_v (pv 1)) (me_int) (fun _ _ => rfl))) (me_bin (od_mul (own := false)) (me_v (pv 5)) (me_ix (hu_of hr) (me_v (pv 1)) (me_int) (fun _ _ => rfl))))) (ms_one (ms_if ((mw_and (mt_chain (od_le) (od_le) (me_neg (me_ix (hu_of hr) (me_v (pv 0)) (me_int) (fun _ _ => rfl))) (me_v (pv 6)) (me_ix (hu_of hr) (me_v (pv 1)) (me_int) (fun _ _ => rfl))) (mw_and1 (mt_cmp (od_notIn (hu_of hr)) (me_v (pv 6)) (me_v (pv 3))))).pt) (ms_one (ms_dput (hu_of hr) (me_v (pv 3)) (me_v (pv 6)) (me_tup (ma_cons (me_v (pv 4)) (ma_cons (me_v (pv 5)) (ma_nil)))))) (ms_nil))))))) (ms_cons (ms_set (i := 7) sc__law_families.nd rfl (by first | exact Or.inl rfl | exact Or.inr rfl) (me_lst (own := true) (ma_nil))) (ms_cons (ms_for (passes_of rfl) rfl (me_call (cd_sorted (own := false) rfl) (by rfl) T.z_sorted (by decide +kernel) (ma_cons (me_v (pv 3)) (ma_nil))) (mg_name (i := 6) sc__law_families.nd rfl (by first | exact Or.inl rfl | exact Or.inr rfl)) (ms_one (ms_expr (me_append (me_v (pv 7)) (me_bin (od_add (own := false)) (me_bin (od_add (own := false)) (me_tup (ma_cons (me_v (pv 6)) (ma_nil))) (me_ix (hu_of hr) (me_v (pv 3)) (me_v (pv 6)) (fun _ _ => rfl))) (me_tup (ma_cons (me_bin (od_div (own := false)) (me_ix (hu_of hr) (me_v (pv 1)) (me_int) (fun _ _ => rfl)) (me_v (pv 2))) (ma_cons (me_bin (od_div (own := false)) (me_ix (hu_of hr) (me_v (pv 0)) (me_int) (fun _ _ => rfl)) (me_v (pv 2))) (ma_nil))))))))) (ms_one (ms_ret (me_callT (cd_tuple (own := false)) (by rfl) T.z_tuple (by decide +kernel) (ma_cons (me_v (pv 7)) (ma_nil))))))))))
theorem ok_families_of (T : Txt K mg fa ca fo) : FnG P w K mg base 3 (fa "families_of") (fo "families_of") ["beats", "other"] (spM K ca 2 m_families_of) :=
  fnM T.F_families_of sc_families_of fun cdv A outer s H E hr hgu => (ms_cons (ms_set (i := 2) sc_families_of.nd rfl (by first | exact Or.inl rfl | exact Or.inr rfl) (me_callM (cd_gcd (own := false)) (by rfl) T.z_gcd (ma_cons (me_ix (hu_of hr) (me_v (pv 0)) (me_int) (fun _ _ => rfl)) (ma_cons (me_ix (hu_of hr) (me_v (pv 1)) (me_int) (fun _ _ => rfl)) (ma_nil))))) (ms_cons (ms_set (i := 3) sc_families_of.nd rfl (by first | exact Or.inl rfl | exact Or.inr rfl) (me_neg (me_ix (hu_of hr) (me_v (pv 0)) (me_int) (fun _ _ => rfl)))) (ms_cons (ms_set (i := 4) sc_families_of.nd rfl (by first | exact Or.inl rfl | exact Or.inr rfl) (me_bin (od_add (own := false)) (me_v (pv 3)) (me_bin (od_mod (own := false)) (me_callT (cd_int (own := false)) (by rfl) T.z_int (by decide +kernel) (ma_cons (me_bin (od_sub (own := false)) (me_bin (od_sub (own := false)) (me_ix (hu_of hr) (me_v (pv 0)) (me_int) (fun _ _ => rfl)) (me_ix (hu_of hr) (me_v (pv 1)) (me_int) (fun _ _ => rfl))) (me_v (pv 3))) (ma_nil))) (me_v (pv 2))))) (ms_one (ms_ret (me_lc3 false rfl sc_families_of.nd (by rfl) T.z_range (ma_cons (me_v (pv 4)) (ma_cons (me_bin (od_add (own := false)) (me_ix (hu_of hr) (me_v (pv 1)) (me_int) (fun _ _ => rfl)) (me_int)) (ma_cons (me_v (pv 2)) (ma_nil)))) (⟨(show BlkOk ["beats", "other", "common", "low", "start", "apart"] (defScope s_families_of) _ _ from ⟨rfl, by decide +kernel, by decide +kernel, by decide +kernel, by decide +kernel⟩), fun s0 H0 C0 cl0 fp0 => mg_name (i := 5) sc_families_of.nd rfl (by first | exact Or.inl rfl | exact Or.inr rfl), fun s0 H0 C0 cl0 fp0 => mts_nil, fun s0 H0 C0 cl0 fp0 => me_callG (ok_family_of T).apart (hr.mono (by decide)) hgu (by rfl) T.g_family_of T.F_family_of.kp T.b_family_of (takes0) (ma_cons (me_v (pv 0)) (ma_cons (me_v (pv 1)) (ma_cons (me_v (pv 5)) (ma_nil)))), by decide⟩ : Blk _ _ _ [("apart", 5)] _ _ _ _ _ _)))))))
theorem ok_told_plainly (T : Txt K mg fa ca fo) : ∀ n : Nat, FnOk P w K mg base (L2.CX P w) n (fa "told_plainly") (fo "told_plainly") ["thing"] (spM K ca 1 (m_told_plainly n))
  | 0 => ⟨fun vs H Q E h => h.1, fun A outer s H args us vs Q E _ _ _ _ h => by
    obtain ⟨_, _, _, _, _, _, _, z⟩ := h
    exact z.elim⟩
  | n + 1 => by
    have ih := ok_told_plainly T n
    exact okM T.F_told_plainly sc_told_plainly fun cdv A outer s H E hr => (ms_cons (ms_if (mt_val (me_isiN (by decide) (by decide) (by rfl) T.z_isinstance (me_v (pv 0)) (pa_tyCons (pe_bltn (by rfl) T.z_list (by decide +kernel) rfl) (pa_tyCons (pe_bltn (by rfl) T.z_tuple (by decide +kernel) rfl) (pa_tyNil))))) (ms_one (ms_ret (me_callT (cd_tuple (own := false)) (by rfl) T.z_tuple (by decide +kernel) (ma_cons (me_lc false rfl sc_told_plainly.nd (me_v (pv 0)) (⟨(show BlkOk ["thing", "inner"] (defScope s_told_plainly) _ _ from ⟨rfl, by decide +kernel, by decide +kernel, by decide +kernel, by decide +kernel⟩), fun s0 H0 C0 cl0 fp0 => mg_name (i := 1) sc_told_plainly.nd rfl (by first | exact Or.inl rfl | exact Or.inr rfl), fun s0 H0 C0 cl0 fp0 => mts_nil, fun s0 H0 C0 cl0 fp0 => me_callO ih hr (by rfl) T.g_told_plainly T.F_told_plainly.kp T.b_told_plainly (takes0) (ma_cons (me_v (pv 1)) (ma_nil)), by decide⟩ : Blk _ _ _ [("inner", 1)] _ _ _ _ _ _)) (ma_nil))))) (ms_nil)) (ms_one (ms_ret (me_v (pv 0)))))
theorem ok_init_BadBounds (T : Txt K mg fa ca fo) : FnOk P w K mg base (L2.CX P w) 9 (fa "BadBounds.__init__") (fo "BadBounds.__init__") ["self", "at"] (spI K (m_told_plainly 8)) :=
  ok_init T.F_init_BadBounds sc_init_BadBounds rfl (Or.inl rfl) (Or.inl rfl) rfl (ok_told_plainly T 8) T.g_told_plainly T.F_told_plainly.kp T.b_told_plainly
theorem ok_init_BadCase (T : Txt K mg fa ca fo) : FnOk P w K mg base (L2.CX P w) 9 (fa "BadCase.__init__") (fo "BadCase.__init__") ["self", "at"] (spI K (m_told_plainly 8)) :=
  ok_init T.F_init_BadCase sc_init_BadCase rfl (Or.inl rfl) (Or.inl rfl) rfl (ok_told_plainly T 8) T.g_told_plainly T.F_told_plainly.kp T.b_told_plainly
theorem ok_init_BadNumber (T : Txt K mg fa ca fo) : FnOk P w K mg base (L2.CX P w) 9 (fa "BadNumber.__init__") (fo "BadNumber.__init__") ["self", "at"] (spI K (m_told_plainly 8)) :=
  ok_init T.F_init_BadNumber sc_init_BadNumber rfl (Or.inl rfl) (Or.inl rfl) rfl (ok_told_plainly T 8) T.g_told_plainly T.F_told_plainly.kp T.b_told_plainly
theorem ok_plain_form (T : Txt K mg fa ca fo) : FnG P w K mg base 9 (fa "plain_form") (fo "plain_form") ["x"] (spM K ca 1 m_plain_form) :=
  fnM T.F_plain_form sc_plain_form fun cdv A outer s H E hr hgu => (ms_one (ms_ret (me_callG (FnG.of (ok_told_plainly T 8)).apart (hr.mono (by decide)) hgu (by rfl) T.g_told_plainly T.F_told_plainly.kp T.b_told_plainly (takes_of rfl rfl rfl rfl) (ma_cons (me_v (pv 0)) (ma_nil)))))
theorem ok_check_number (T : Txt K mg fa ca fo) : FnG P w K mg base 11 (fa "check_number") (fo "check_number") ["x", "least"] (spM K ca 2 m_check_number) :=
  fnM T.F_check_number sc_check_number fun cdv A outer s H E hr hgu => (ms_cons (ms_if (mt_not (mt_val (me_callG (ok_is_int T).apart (hr.mono (by decide)) hgu (by rfl) T.g_is_int T.F_is_int.kp T.b_is_int (takes_of rfl rfl rfl rfl) (ma_cons (me_v (pv 0)) (ma_nil))))) (ms_one (ms_raise rfl (takes_of rfl rfl rfl rfl) T.E_BadNumber (ok_init_BadNumber T) (hr.mono (by decide)) T.b_init_BadNumber (by rfl) (ma_cons (me_v (pv 0)) (ma_nil)))) (ms_nil)) (ms_cons (ms_if (mt_cmp (od_lt) (me_v (pv 0)) (me_v (pv 1))) (ms_one (ms_raise rfl (takes_of rfl rfl rfl rfl) T.E_BadNumber (ok_init_BadNumber T) (hr.mono (by decide)) T.b_init_BadNumber (by rfl) (ma_cons (me_v (pv 0)) (ma_nil)))) (ms_nil)) (ms_one (ms_ret (me_v (pv 0))))))
theorem ok_check_beats (T : Txt K mg fa ca fo) : FnG P w K mg base 11 (fa "check_beats") (fo "check_beats") ["beats"] (spM K ca 1 m_check_beats) :=
  fnM T.F_check_beats sc_check_beats fun cdv A outer s H E hr hgu => (ms_cons (ms_set (i := 1) sc_check_beats.nd rfl (by first | exact Or.inl rfl | exact Or.inr rfl) (me_callG (ok_plain_form T).apart (hr.mono (by decide)) hgu (by rfl) T.g_plain_form T.F_plain_form.kp T.b_plain_form (takes_of rfl rfl rfl rfl) (ma_cons (me_v (pv 0)) (ma_nil)))) (ms_cons (ms_if (mt_not (mt_val (me_callG (ok_are_beats T).apart (hr.mono (by decide)) hgu (by rfl) T.g_are_beats T.F_are_beats.kp T.b_are_beats (takes_of rfl rfl rfl rfl) (ma_cons (me_v (pv 1)) (ma_nil))))) (ms_one (ms_raise rfl (takes_of rfl rfl rfl rfl) T.E_BadBounds (ok_init_BadBounds T) (hr.mono (by decide)) T.b_init_BadBounds (by rfl) (ma_cons (me_v (pv 0)) (ma_nil)))) (ms_nil)) (ms_one (ms_ret (me_v (pv 1))))))
theorem ok_ever_meet (T : Txt K mg fa ca fo) : FnG P w K mg base 12 (fa "ever_meet") (fo "ever_meet") ["beats", "other"] (spM K ca 2 m_ever_meet) :=
  fnM T.F_ever_meet sc_ever_meet fun cdv A outer s H E hr hgu => (ms_cons (ms_set (i := 2) sc_ever_meet.nd rfl (by first | exact Or.inl rfl | exact Or.inr rfl) (me_callG (ok_check_beats T).apart (hr.mono (by decide)) hgu (by rfl) T.g_check_beats T.F_check_beats.kp T.b_check_beats (takes_of rfl rfl rfl rfl) (ma_cons (me_v (pv 0)) (ma_nil)))) (ms_cons (ms_set (i := 3) sc_ever_meet.nd rfl (by first | exact Or.inl rfl | exact Or.inr rfl) (me_callG (ok_check_beats T).apart (hr.mono (by decide)) hgu (by rfl) T.g_check_beats T.F_check_beats.kp T.b_check_beats (takes_of rfl rfl rfl rfl) (ma_cons (me_v (pv 1)) (ma_nil)))) (ms_cons (ms_if (mt_not (mt_val (me_callG (ok_are_fixed T).apart (hr.mono (by decide)) hgu (by rfl) T.g_are_fixed T.F_are_fixed.kp T.b_are_fixed (takes_of rfl rfl rfl rfl) (ma_cons (me_v (pv 2)) (ma_cons (me_v (pv 3)) (ma_nil)))))) (ms_one (ms_raise rfl (takes_of rfl rfl rfl rfl) T.E_BadCase (ok_init_BadCase T) (hr.mono (by decide)) T.b_init_BadCase (by rfl) (ma_cons (me_str) (ma_nil)))) (ms_nil)) (ms_cons (ms_set (i := 4) sc_ever_meet.nd rfl (by first | exact Or.inl rfl | exact Or.inr rfl) (me_callM (cd_gcd (own := false)) (by rfl) T.z_gcd (ma_cons (me_ix (hu_of hr) (me_v (pv 2)) (me_int) (fun _ _ => rfl)) (ma_cons (me_ix (hu_of hr) (me_v (pv 3)) (me_int) (fun _ _ => rfl)) (ma_nil))))) (ms_cons (ms_set (i := 5) sc_ever_meet.nd rfl (by first | exact Or.inl rfl | exact Or.inr rfl) (me_bin (od_mod (own := false)) (me_callT (cd_int (own := false)) (by rfl) T.z_int (by decide +kernel) (ma_cons (me_bin (od_sub (own := false)) (me_ix (hu_of hr) (me_v (pv 2)) (me_int) (fun _ _ => rfl)) (me_ix (hu_of hr) (me_v (pv 3)) (me_int) (fun _ _ => rfl))) (ma_nil))) (me_v (pv 4)))) (ms_one (ms_ret (me_or (me_cmp (od_le) (me_v (pv 5)) (me_ix (hu_of hr) (me_v (pv 3)) (me_int) (fun _ _ => rfl))) (me_one (me_cmp (od_le) (me_bin (od_sub (own := false)) (me_v (pv 4)) (me_v (pv 5))) (me_ix (hu_of hr) (me_v (pv 2)) (me_int) (fun _ _ => rfl))))))))))))
theorem ok_met_families (T : Txt K mg fa ca fo) : FnG P w K mg base 12 (fa "met_families") (fo "met_families") ["beats", "other"] (spM K ca 2 m_met_families) :=
  fnM T.F_met_families sc_met_families fun cdv A outer s H E hr hgu => (ms_cons (ms_set (i := 2) sc_met_families.nd rfl (by first | exact Or.inl rfl | exact Or.inr rfl) (me_callG (ok_check_beats T).apart (hr.mono (by decide)) hgu (by rfl) T.g_check_beats T.F_check_beats.kp T.b_check_beats (takes_of rfl rfl rfl rfl) (ma_cons (me_v (pv 0)) (ma_nil)))) (ms_cons (ms_set (i := 3) sc_met_families.nd rfl (by first | exact Or.inl rfl | exact Or.inr rfl) (me_callG (ok_check_beats T).apart (hr.mono (by decide)) hgu (by rfl) T.g_check_beats T.F_check_beats.kp T.b_check_beats (takes_of rfl rfl rfl rfl) (ma_cons (me_v (pv 1)) (ma_nil)))) (ms_cons (ms_if (mt_not (mt_val (me_callG (ok_are_fixed T).apart (hr.mono (by decide)) hgu (by rfl) T.g_are_fixed T.F_are_fixed.kp T.b_are_fixed (takes_of rfl rfl rfl rfl) (ma_cons (me_v (pv 2)) (ma_cons (me_v (pv 3)) (ma_nil)))))) (ms_one (ms_raise rfl (takes_of rfl rfl rfl rfl) T.E_BadCase (ok_init_BadCase T) (hr.mono (by decide)) T.b_init_BadCase (by rfl) (ma_cons (me_str) (ma_nil)))) (ms_nil)) (ms_cons (ms_if (mt_not (mt_val (me_callG (ok_are_narrow T).apart (hr.mono (by decide)) hgu (by rfl) T.g_are_narrow T.F_are_narrow.kp T.b_are_narrow (takes_of rfl rfl rfl rfl) (ma_cons (me_v (pv 2)) (ma_cons (me_v (pv 3)) (ma_nil)))))) (ms_one (ms_raise rfl (takes_of rfl rfl rfl rfl) T.E_BadCase (ok_init_BadCase T) (hr.mono (by decide)) T.b_init_BadCase (by rfl) (ma_cons (me_str) (ma_nil)))) (ms_nil)) (ms_one (ms_ret (me_callT (cd_tuple (own := false)) (by rfl) T.z_tuple (by decide +kernel) (ma_cons (me_callG (ok_families_of T).apart (hr.mono (by decide)) hgu (by rfl) T.g_families_of T.F_families_of.kp T.b_families_of (takes_of rfl rfl rfl rfl) (ma_cons (me_v (pv 2)) (ma_cons (me_v (pv 3)) (ma_nil)))) (ma_nil)))))))))
theorem ok_met_number (T : Txt K mg fa ca fo) : FnG P w K mg base 12 (fa "met_number") (fo "met_number") ["beats", "other", "k"] (spM K ca 3 m_met_number) :=
  fnM T.F_met_number sc_met_number fun cdv A outer s H E hr hgu => (ms_cons (ms_set (i := 3) sc_met_number.nd rfl (by first | exact Or.inl rfl | exact Or.inr rfl) (me_callG (ok_check_beats T).apart (hr.mono (by decide)) hgu (by rfl) T.g_check_beats T.F_check_beats.kp T.b_check_beats (takes_of rfl rfl rfl rfl) (ma_cons (me_v (pv 0)) (ma_nil)))) (ms_cons (ms_set (i := 4) sc_met_number.nd rfl (by first | exact Or.inl rfl | exact Or.inr rfl) (me_callG (ok_check_beats T).apart (hr.mono (by decide)) hgu (by rfl) T.g_check_beats T.F_check_beats.kp T.b_check_beats (takes_of rfl rfl rfl rfl) (ma_cons (me_v (pv 1)) (ma_nil)))) (ms_cons (ms_expr (me_callG (ok_check_number T).apart (hr.mono (by decide)) hgu (by rfl) T.g_check_number T.F_check_number.kp T.b_check_number (takes_of rfl rfl rfl rfl) (ma_cons (me_v (pv 2)) (ma_cons (me_int) (ma_nil))))) (ms_cons (ms_if (mt_not (mt_val (me_callG (ok_are_fixed T).apart (hr.mono (by decide)) hgu (by rfl) T.g_are_fixed T.F_are_fixed.kp T.b_are_fixed (takes_of rfl rfl rfl rfl) (ma_cons (me_v (pv 3)) (ma_cons (me_v (pv 4)) (ma_nil)))))) (ms_one (ms_raise rfl (takes_of rfl rfl rfl rfl) T.E_BadCase (ok_init_BadCase T) (hr.mono (by decide)) T.b_init_BadCase (by rfl) (ma_cons (me_str) (ma_nil)))) (ms_nil)) (ms_cons (ms_if (mt_not (mt_val (me_callG (ok_are_narrow T).apart (hr.mono (by decide)) hgu (by rfl) T.g_are_narrow T.F_are_narrow.kp T.b_are_narrow (takes_of rfl rfl rfl rfl) (ma_cons (me_v (pv 3)) (ma_cons (me_v (pv 4)) (ma_nil)))))) (ms_one (ms_raise rfl (takes_of rfl rfl rfl rfl) T.E_BadCase (ok_init_BadCase T) (hr.mono (by decide)) T.b_init_BadCase (by rfl) (ma_cons (me_str) (ma_nil)))) (ms_nil)) (ms_one (ms_ret (me_callG (ok_pairs_within T).apart (hr.mono (by decide)) hgu (by rfl) T.g_pairs_within T.F_pairs_within.kp T.b_pairs_within (takes_of rfl rfl rfl rfl) (ma_cons (me_callG (ok_families_of T).apart (hr.mono (by decide)) hgu (by rfl) T.g_families_of T.F_families_of.kp T.b_families_of (takes_of rfl rfl rfl rfl) (ma_cons (me_v (pv 3)) (ma_cons (me_v (pv 4)) (ma_nil)))) (ma_cons (me_v (pv 2)) (ma_nil)))))))))))
theorem ok_first_met (T : Txt K mg fa ca fo) : FnG P w K mg base 12 (fa "first_met") (fo "first_met") ["beats", "other"] (spM K ca 2 m_first_met) :=
  fnM T.F_first_met sc_first_met fun cdv A outer s H E hr hgu => (ms_cons (ms_set (i := 2) sc_first_met.nd rfl (by first | exact Or.inl rfl | exact Or.inr rfl) (me_callG (ok_check_beats T).apart (hr.mono (by decide)) hgu (by rfl) T.g_check_beats T.F_check_beats.kp T.b_check_beats (takes_of rfl rfl rfl rfl) (ma_cons (me_v (pv 0)) (ma_nil)))) (ms_cons (ms_set (i := 3) sc_first_met.nd rfl (by first | exact Or.inl rfl | exact Or.inr rfl) (me_callG (ok_check_beats T).apart (hr.mono (by decide)) hgu (by rfl) T.g_check_beats T.F_check_beats.kp T.b_check_beats (takes_of rfl rfl rfl rfl) (ma_cons (me_v (pv 1)) (ma_nil)))) (ms_cons (ms_if (mt_not (mt_val (me_callG (ok_are_fixed T).apart (hr.mono (by decide)) hgu (by rfl) T.g_are_fixed T.F_are_fixed.kp T.b_are_fixed (takes_of rfl rfl rfl rfl) (ma_cons (me_v (pv 2)) (ma_cons (me_v (pv 3)) (ma_nil)))))) (ms_one (ms_raise rfl (takes_of rfl rfl rfl rfl) T.E_BadCase (ok_init_BadCase T) (hr.mono (by decide)) T.b_init_BadCase (by rfl) (ma_cons (me_str) (ma_nil)))) (ms_nil)) (ms_cons (ms_if (mt_not (mt_val (me_callG (ok_are_narrow T).apart (hr.mono (by decide)) hgu (by rfl) T.g_are_narrow T.F_are_narrow.kp T.b_are_narrow (takes_of rfl rfl rfl rfl) (ma_cons (me_v (pv 2)) (ma_cons (me_v (pv 3)) (ma_nil)))))) (ms_one (ms_raise rfl (takes_of rfl rfl rfl rfl) T.E_BadCase (ok_init_BadCase T) (hr.mono (by decide)) T.b_init_BadCase (by rfl) (ma_cons (me_str) (ma_nil)))) (ms_nil)) (ms_one (ms_ret (me_callG (ok_first_of_families T).apart (hr.mono (by decide)) hgu (by rfl) T.g_first_of_families T.F_first_of_families.kp T.b_first_of_families (takes_of rfl rfl rfl rfl) (ma_cons (me_callG (ok_families_of T).apart (hr.mono (by decide)) hgu (by rfl) T.g_families_of T.F_families_of.kp T.b_families_of (takes_of rfl rfl rfl rfl) (ma_cons (me_v (pv 2)) (ma_cons (me_v (pv 3)) (ma_nil)))) (ma_nil)))))))))
theorem ok__law_heard_beats (T : Txt K mg fa ca fo) : FnG P w K mg base 13 (fa "_law_heard_beats") (fo "_law_heard_beats") ["which", "one", "other", "k"] (spM K ca 4 m__law_heard_beats) :=
  fnM T.F__law_heard_beats sc__law_heard_beats fun cdv A outer s H E hr hgu => (ms_cons (ms_set (i := 4) sc__law_heard_beats.nd rfl (by first | exact Or.inl rfl | exact Or.inr rfl) (me_tup (ma_cons (me_str) (ma_nil)))) (ms_cons (ms_try rfl rfl sc__law_heard_beats.nd (takes_of rfl rfl rfl rfl) T.exm (fun W1 pn1 xe1 tk1 hp1 => ms_one (ms_if (mt_cmp (od_eq hr.units) (me_v (pv 0)) (me_int)) (ms_one (ms_set (i := 4) sc__law_heard_beats.nd rfl (by first | exact Or.inl rfl | exact Or.inr rfl) (me_tup (ma_cons (me_str) (ma_cons (me_callG (ok_met_families T).apart (hr.mono (by decide)) hgu (by rfl) T.g_met_families T.F_met_families.kp T.b_met_families (tk1) (ma_cons (me_v (pv 1)) (ma_cons (me_v (pv 2)) (ma_nil)))) (ma_nil)))))) (ms_one (ms_if (mt_cmp (od_eq hr.units) (me_v (pv 0)) (me_int)) (ms_one (ms_set (i := 4) sc__law_heard_beats.nd rfl (by first | exact Or.inl rfl | exact Or.inr rfl) (me_tup (ma_cons (me_str) (ma_cons (me_callG (ok_first_met T).apart (hr.mono (by decide)) hgu (by rfl) T.g_first_met T.F_first_met.kp T.b_first_met (tk1) (ma_cons (me_v (pv 1)) (ma_cons (me_v (pv 2)) (ma_nil)))) (ma_nil)))))) (ms_one (ms_if (mt_cmp (od_eq hr.units) (me_v (pv 0)) (me_int)) (ms_one (ms_set (i := 4) sc__law_heard_beats.nd rfl (by first | exact Or.inl rfl | exact Or.inr rfl) (me_tup (ma_cons (me_str) (ma_cons (me_callG (ok_ever_meet T).apart (hr.mono (by decide)) hgu (by rfl) T.g_ever_meet T.F_ever_meet.kp T.b_ever_meet (tk1) (ma_cons (me_v (pv 1)) (ma_cons (me_v (pv 2)) (ma_nil)))) (ma_nil)))))) (ms_one (ms_set (i := 4) sc__law_heard_beats.nd rfl (by first | exact Or.inl rfl | exact Or.inr rfl) (me_tup (ma_cons (me_str) (ma_cons (me_callG (ok_met_number T).apart (hr.mono (by decide)) hgu (by rfl) T.g_met_number T.F_met_number.kp T.b_met_number (tk1) (ma_cons (me_v (pv 1)) (ma_cons (me_v (pv 2)) (ma_cons (me_v (pv 3)) (ma_nil))))) (ma_nil)))))))))))) (mc_named (i := 5) ⟨by rfl, by decide, .inl T.C_BadBounds⟩ rfl rfl (fun a1 oe1 cls1 d1 pn1 hz1 hf1 => suite_as (su_cons (fun x1 fs1 e1 e2 => by subst e1; subst e2; exact (mxs_set (j := 4) sc__law_heard_beats.nd rfl (by first | exact Or.inl rfl | exact Or.inr rfl) (mx_tup (mx_cons (mx_of (me_str)) (mx_cons (mx_fld (c := "BadBounds") T.X_BadBounds T.n_BadBounds_at hz1 hf1 (i := 5) (by rfl) (by first | exact Or.inl rfl | exact Or.inr (Or.inl rfl))) (mx_cons (mx_isi1 (c := "BadBounds") T.Y_BadBounds hz1 hf1 (i := 5) (by rfl) (by first | exact Or.inl rfl | exact Or.inr (Or.inl rfl)) (by rfl) T.z_isinstance (pe_glob (by rfl) T.C_ClockError rfl) T.k_BadBounds_ClockError) (mx_cons (mx_isiN (c := "BadBounds") T.Y_BadBounds hz1 hf1 (i := 5) (by rfl) (by first | exact Or.inl rfl | exact Or.inr (Or.inl rfl)) (by rfl) T.z_isinstance (pa_tyCons (v := .ref (ca "BadNumber")) (pe_glob (by rfl) T.C_BadNumber rfl) (pa_tyCons (v := .ref (ca "BadCase")) (pe_glob (by rfl) T.C_BadCase rfl) (pa_tyNil))) (Nat.le_of_ble_eq_true rfl) (.cons (clsV_ref (ca "BadNumber")) (.cons (clsV_ref (ca "BadCase")) (.nil))) T.k_BadBounds_BadNumber_BadCase) (mx_nil)))))))) (su_nil))) (mc_named (i := 5) ⟨by rfl, by decide, .inl T.C_BadNumber⟩ rfl rfl (fun a1 oe1 cls1 d1 pn1 hz1 hf1 => suite_as (su_cons (fun x1 fs1 e1 e2 => by subst e1; subst e2; exact (mxs_set (j := 4) sc__law_heard_beats.nd rfl (by first | exact Or.inl rfl | exact Or.inr rfl) (mx_tup (mx_cons (mx_of (me_str)) (mx_cons (mx_fld (c := "BadNumber") T.X_BadNumber T.n_BadNumber_at hz1 hf1 (i := 5) (by rfl) (by first | exact Or.inl rfl | exact Or.inr (Or.inl rfl))) (mx_cons (mx_isi1 (c := "BadNumber") T.Y_BadNumber hz1 hf1 (i := 5) (by rfl) (by first | exact Or.inl rfl | exact Or.inr (Or.inl rfl)) (by rfl) T.z_isinstance (pe_glob (by rfl) T.C_ClockError rfl) T.k_BadNumber_ClockError) (mx_cons (mx_isiN (c := "BadNumber") T.Y_BadNumber hz1 hf1 (i := 5) (by rfl) (by first | exact Or.inl rfl | exact Or.inr (Or.inl rfl)) (by rfl) T.z_isinstance (pa_tyCons (v := .ref (ca "BadBounds")) (pe_glob (by rfl) T.C_BadBounds rfl) (pa_tyCons (v := .ref (ca "BadCase")) (pe_glob (by rfl) T.C_BadCase rfl) (pa_tyNil))) (Nat.le_of_ble_eq_true rfl) (.cons (clsV_ref (ca "BadBounds")) (.cons (clsV_ref (ca "BadCase")) (.nil))) T.k_BadNumber_BadBounds_BadCase) (mx_nil)))))))) (su_nil))) (mc_named (i := 5) ⟨by rfl, by decide, .inl T.C_BadCase⟩ rfl rfl (fun a1 oe1 cls1 d1 pn1 hz1 hf1 => suite_as (su_cons (fun x1 fs1 e1 e2 => by subst e1; subst e2; exact (mxs_set (j := 4) sc__law_heard_beats.nd rfl (by first | exact Or.inl rfl | exact Or.inr rfl) (mx_tup (mx_cons (mx_of (me_str)) (mx_cons (mx_fld (c := "BadCase") T.X_BadCase T.n_BadCase_at hz1 hf1 (i := 5) (by rfl) (by first | exact Or.inl rfl | exact Or.inr (Or.inl rfl))) (mx_cons (mx_isi1 (c := "BadCase") T.Y_BadCase hz1 hf1 (i := 5) (by rfl) (by first | exact Or.inl rfl | exact Or.inr (Or.inl rfl)) (by rfl) T.z_isinstance (pe_glob (by rfl) T.C_ClockError rfl) T.k_BadCase_ClockError) (mx_cons (mx_isiN (c := "BadCase") T.Y_BadCase hz1 hf1 (i := 5) (by rfl) (by first | exact Or.inl rfl | exact Or.inr (Or.inl rfl)) (by rfl) T.z_isinstance (pa_tyCons (v := .ref (ca "BadNumber")) (pe_glob (by rfl) T.C_BadNumber rfl) (pa_tyCons (v := .ref (ca "BadBounds")) (pe_glob (by rfl) T.C_BadBounds rfl) (pa_tyNil))) (Nat.le_of_ble_eq_true rfl) (.cons (clsV_ref (ca "BadNumber")) (.cons (clsV_ref (ca "BadBounds")) (.nil))) T.k_BadCase_BadNumber_BadBounds) (mx_nil)))))))) (su_nil))) (mc_bare ⟨by rfl, by decide, .inl T.C_ClockError⟩ (fun a1 oe1 cls1 d1 pn1 hz1 hf1 => suite_no (ms_one (ms_set (i := 4) sc__law_heard_beats.nd rfl (by first | exact Or.inl rfl | exact Or.inr rfl) (me_tup (ma_cons (me_str) (ma_nil)))))) (mc_nil)))))) (ms_one (ms_ret (me_v (pv 4))))))
theorem ok__law_two_right (T : Txt K mg fa ca fo) : FnG P w K mg base 14 (fa "_law_two_right") (fo "_law_two_right") ["hand", "one", "other", "families"] (spM K ca 4 m__law_two_right) :=
  fnM T.F__law_two_right sc__law_two_right fun cdv A outer s H E hr hgu => (ms_cons (ms_set (i := 4) sc__law_two_right.nd rfl (by first | exact Or.inl rfl | exact Or.inr rfl) (me_non)) (ms_cons (ms_if (mt_cmp (od_gt) (me_call (cd_len (own := false)) (by rfl) T.z_len (by decide +kernel) (ma_cons (me_v (pv 3)) (ma_nil))) (me_int)) (ms_one (ms_set (i := 4) sc__law_two_right.nd rfl (by first | exact Or.inl rfl | exact Or.inr rfl) (me_call (cd_min (own := false) rfl) (by rfl) T.z_min (by decide +kernel) (ma_cons (me_lc false rfl sc__law_two_right.nd (me_v (pv 3)) (⟨(show BlkOk ["hand", "one", "other", "families", "first", "family", "given", "back", "turned", "apart", "i", "j", "di", "dj", "k"] (defScope s__law_two_right) _ _ from ⟨rfl, by decide +kernel, by decide +kernel, by decide +kernel, by decide +kernel⟩), fun s0 H0 C0 cl0 fp0 => mg_name (i := 5) sc__law_two_right.nd rfl (by first | exact Or.inl rfl | exact Or.inr rfl), fun s0 H0 C0 cl0 fp0 => mts_nil, fun s0 H0 C0 cl0 fp0 => me_call (cd_max (own := false) rfl) (by rfl) T.z_max (by decide +kernel) (ma_cons (me_ix (hu_of hr) (me_v (pv 5)) (me_int) (fun _ _ => rfl)) (ma_cons (me_ix (hu_of hr) (me_v (pv 5)) (me_int) (fun _ _ => rfl)) (ma_nil))), by decide⟩ : Blk _ _ _ [("family", 5)] _ _ _ _ _ _)) (ma_nil))))) (ms_nil)) (ms_cons (ms_set (i := 6) sc__law_two_right.nd rfl (by first | exact Or.inl rfl | exact Or.inr rfl) (me_ix (hu_of hr) (me_tup (ma_cons (me_v (pv 1)) (ma_cons (me_callT (cd_list (own := false)) (by rfl) T.z_list (by decide +kernel) (ma_cons (me_v (pv 1)) (ma_nil))) (ma_nil)))) (me_callG (ok__law_draw T) (hr.mono (by decide)) hgu (by rfl) T.g__law_draw T.F__law_draw.kp T.b__law_draw (takes_of rfl rfl rfl rfl) (ma_cons (me_v (pv 0)) (ma_cons (me_int) (ma_nil)))) (fun _ _ => rfl))) (ms_cons (ms_set (i := 7) sc__law_two_right.nd rfl (by first | exact Or.inl rfl | exact Or.inr rfl) (me_ix (hu_of hr) (me_tup (ma_cons (me_callT (cd_list (own := false)) (by rfl) T.z_list (by decide +kernel) (ma_cons (me_v (pv 2)) (ma_nil))) (ma_cons (me_v (pv 2)) (ma_nil)))) (me_callG (ok__law_draw T) (hr.mono (by decide)) hgu (by rfl) T.g__law_draw T.F__law_draw.kp T.b__law_draw (takes_of rfl rfl rfl rfl) (ma_cons (me_v (pv 0)) (ma_cons (me_int) (ma_nil)))) (fun _ _ => rfl))) (ms_cons (ms_if (mt_not (mt_val (me_callG (ok__law_just T).apart (hr.mono (by decide)) hgu (by rfl) T.g__law_just T.F__law_just.kp T.b__law_just (takes_of rfl rfl rfl rfl) (ma_cons (me_callG (ok__law_heard_beats T).apart (hr.mono (by decide)) hgu (by rfl) T.g__law_heard_beats T.F__law_heard_beats.kp T.b__law_heard_beats (takes_of rfl rfl rfl rfl) (ma_cons (me_int) (ma_cons (me_v (pv 6)) (ma_cons (me_v (pv 7)) (ma_cons (me_int) (ma_nil)))))) (ma_cons (me_tup (ma_cons (me_str) (ma_cons (me_v (pv 3)) (ma_nil)))) (ma_nil)))))) (ms_one (ms_ret (me_bl))) (ms_nil)) (ms_cons (ms_if (mt_not (mt_val (me_callG (ok__law_just T).apart (hr.mono (by decide)) hgu (by rfl) T.g__law_just T.F__law_just.kp T.b__law_just (takes_of rfl rfl rfl rfl) (ma_cons (me_callG (ok__law_heard_beats T).apart (hr.mono (by decide)) hgu (by rfl) T.g__law_heard_beats T.F__law_heard_beats.kp T.b__law_heard_beats (takes_of rfl rfl rfl rfl) (ma_cons (me_int) (ma_cons (me_v (pv 6)) (ma_cons (me_v (pv 7)) (ma_cons (me_int) (ma_nil)))))) (ma_cons (me_tup (ma_cons (me_str) (ma_cons (me_v (pv 4)) (ma_nil)))) (ma_nil)))))) (ms_one (ms_ret (me_bl))) (ms_nil)) (ms_cons (ms_if (mt_not (mt_val (me_callG (ok__law_just T).apart (hr.mono (by decide)) hgu (by rfl) T.g__law_just T.F__law_just.kp T.b__law_just (takes_of rfl rfl rfl rfl) (ma_cons (me_callG (ok__law_heard_beats T).apart (hr.mono (by decide)) hgu (by rfl) T.g__law_heard_beats T.F__law_heard_beats.kp T.b__law_heard_beats (takes_of rfl rfl rfl rfl) (ma_cons (me_int) (ma_cons (me_v (pv 6)) (ma_cons (me_v (pv 7)) (ma_cons (me_int) (ma_nil)))))) (ma_cons (me_tup (ma_cons (me_str) (ma_cons (me_cmp (od_gt) (me_call (cd_len (own := false)) (by rfl) T.z_len (by decide +kernel) (ma_cons (me_v (pv 3)) (ma_nil))) (me_int)) (ma_nil)))) (ma_nil)))))) (ms_one (ms_ret (me_bl))) (ms_nil)) (ms_cons (ms_set (i := 8) sc__law_two_right.nd rfl (by first | exact Or.inl rfl | exact Or.inr rfl) (me_lst (own := true) (ma_nil))) (ms_cons (ms_for (passes_of rfl) rfl (me_v (pv 3)) (mg_tup rfl (mgs_cons (mg_name (i := 9) sc__law_two_right.nd rfl (by first | exact Or.inl rfl | exact Or.inr rfl)) (mgs_cons (mg_name (i := 10) sc__law_two_right.nd rfl (by first | exact Or.inl rfl | exact Or.inr rfl)) (mgs_cons (mg_name (i := 11) sc__law_two_right.nd rfl (by first | exact Or.inl rfl | exact Or.inr rfl)) (mgs_cons (mg_name (i := 12) sc__law_two_right.nd rfl (by first | exact Or.inl rfl | exact Or.inr rfl)) (mgs_cons (mg_name (i := 13) sc__law_two_right.nd rfl (by first | exact Or.inl rfl | exact Or.inr rfl)) (mgs_nil))))))) (ms_one (ms_expr (me_append (me_v (pv 8)) (me_tup (ma_cons (me_neg (me_v (pv 9))) (ma_cons (me_v (pv 11)) (ma_cons (me_v (pv 10)) (ma_cons (me_v (pv 13)) (ma_cons (me_v (pv 12)) (ma_nil))))))))))) (ms_cons (ms_if (mt_not (mt_val (me_callG (ok__law_just T).apart (hr.mono (by decide)) hgu (by rfl) T.g__law_just T.F__law_just.kp T.b__law_just (takes_of rfl rfl rfl rfl) (ma_cons (me_callG (ok__law_heard_beats T).apart (hr.mono (by decide)) hgu (by rfl) T.g__law_heard_beats T.F__law_heard_beats.kp T.b__law_heard_beats (takes_of rfl rfl rfl rfl) (ma_cons (me_int) (ma_cons (me_v (pv 7)) (ma_cons (me_v (pv 6)) (ma_cons (me_int) (ma_nil)))))) (ma_cons (me_tup (ma_cons (me_str) (ma_cons (me_callT (cd_tuple (own := false)) (by rfl) T.z_tuple (by decide +kernel) (ma_cons (me_call (cd_sorted (own := false) rfl) (by rfl) T.z_sorted (by decide +kernel) (ma_cons (me_v (pv 8)) (ma_nil))) (ma_nil))) (ma_nil)))) (ma_nil)))))) (ms_one (ms_ret (me_bl))) (ms_nil)) (ms_cons (ms_for (passes_of rfl) rfl (me_tup (ma_cons (me_bin (od_pow (own := false)) (me_int) (me_int)) (ma_cons (me_bin (od_add (own := false)) (me_bin (od_mul (own := false)) (me_callT (cd_int (own := false)) (by rfl) T.z_int (by decide +kernel) (ma_cons (me_callG (ok__law_draw T) (hr.mono (by decide)) hgu (by rfl) T.g__law_draw T.F__law_draw.kp T.b__law_draw (takes_of rfl rfl rfl rfl) (ma_cons (me_v (pv 0)) (ma_cons (me_int) (ma_nil)))) (ma_nil))) (me_int)) (me_int)) (ma_cons (me_bin (od_add (own := false)) (me_bin (od_pow (own := false)) (me_int) (me_int)) (me_callG (ok__law_draw T) (hr.mono (by decide)) hgu (by rfl) T.g__law_draw T.F__law_draw.kp T.b__law_draw (takes_of rfl rfl rfl rfl) (ma_cons (me_v (pv 0)) (ma_cons (me_int) (ma_nil))))) (ma_nil))))) (mg_name (i := 14) sc__law_two_right.nd rfl (by first | exact Or.inl rfl | exact Or.inr rfl)) (ms_one (ms_if (mt_not (mt_val (me_callG (ok__law_just T).apart (hr.mono (by decide)) hgu (by rfl) T.g__law_just T.F__law_just.kp T.b__law_just (takes_of rfl rfl rfl rfl) (ma_cons (me_callG (ok__law_heard_beats T).apart (hr.mono (by decide)) hgu (by rfl) T.g__law_heard_beats T.F__law_heard_beats.kp T.b__law_heard_beats (takes_of rfl rfl rfl rfl) (ma_cons (me_int) (ma_cons (me_v (pv 6)) (ma_cons (me_v (pv 7)) (ma_cons (me_v (pv 14)) (ma_nil)))))) (ma_cons (me_tup (ma_cons (me_str) (ma_cons (me_callG (ok__law_many T).apart (hr.mono (by decide)) hgu (by rfl) T.g__law_many T.F__law_many.kp T.b__law_many (takes_of rfl rfl rfl rfl) (ma_cons (me_v (pv 3)) (ma_cons (me_v (pv 14)) (ma_nil)))) (ma_nil)))) (ma_nil)))))) (ms_one (ms_ret (me_bl))) (ms_nil)))) (ms_one (ms_ret (me_callG (ok__law_just T).apart (hr.mono (by decide)) hgu (by rfl) T.g__law_just T.F__law_just.kp T.b__law_just (takes_of rfl rfl rfl rfl) (ma_cons (me_v (pv 6)) (ma_cons (me_ix (hu_of hr) (me_tup (ma_cons (me_callT (cd_list (own := false)) (by rfl) T.z_list (by decide +kernel) (ma_cons (me_v (pv 1)) (ma_nil))) (ma_cons (me_v (pv 1)) (ma_nil)))) (me_callT (cd_int (own := false)) (by rfl) T.z_int (by decide +kernel) (ma_cons (me_cmp (od_eq hr.units) (me_v (pv 6)) (me_v (pv 1))) (ma_nil))) (fun _ _ => rfl)) (ma_nil)))))))))))))))))
theorem ok__law_wide_right (T : Txt K mg fa ca fo) : FnG P w K mg base 14 (fa "_law_wide_right") (fo "_law_wide_right") ["hand"] (spM K ca 1 m__law_wide_right) :=
  fnM T.F__law_wide_right sc__law_wide_right fun cdv A outer s H E hr hgu => (ms_cons (ms_par (i := 1) (j := 2) rfl sc__law_wide_right.nd rfl rfl (by decide) rfl rfl (ma_cons (me_callG (ok__law_draw T) (hr.mono (by decide)) hgu (by rfl) T.g__law_draw T.F__law_draw.kp T.b__law_draw (takes_of rfl rfl rfl rfl) (ma_cons (me_v (pv 0)) (ma_cons (me_int) (ma_nil)))) (ma_cons (me_bin (od_add (own := false)) (me_int) (me_callG (ok__law_draw T) (hr.mono (by decide)) hgu (by rfl) T.g__law_draw T.F__law_draw.kp T.b__law_draw (takes_of rfl rfl rfl rfl) (ma_cons (me_v (pv 0)) (ma_cons (me_int) (ma_nil))))) (ma_nil)))) (ms_cons (ms_par (i := 3) (j := 4) rfl sc__law_wide_right.nd rfl rfl (by decide) rfl rfl (ma_cons (me_tup (ma_cons (me_str) (ma_cons (me_v (pv 1)) (ma_cons (me_int) (ma_cons (me_v (pv 2)) (ma_nil)))))) (ma_cons (me_tup (ma_cons (me_str) (ma_cons (me_int) (ma_cons (me_int) (ma_cons (me_bin (od_sub (own := false)) (me_int) (me_v (pv 2))) (ma_nil)))))) (ma_nil)))) (ms_cons (ms_set (i := 5) sc__law_wide_right.nd rfl (by first | exact Or.inl rfl | exact Or.inr rfl) (me_lst (own := true) (ma_nil))) (ms_cons (ms_for2 (passes_of rfl) rfl (by rfl) T.z_range (ma_cons (me_neg (me_v (pv 2))) (ma_cons (me_bin (od_sub (own := false)) (me_int) (me_v (pv 2))) (ma_nil))) (mg_name (i := 6) sc__law_wide_right.nd rfl (by first | exact Or.inl rfl | exact Or.inr rfl)) (ms_cons (ms_set (i := 7) sc__law_wide_right.nd rfl (by first | exact Or.inl rfl | exact Or.inr rfl) (me_bin (od_sub (own := false)) (me_v (pv 6)) (me_v (pv 1)))) (ms_one (ms_expr (me_append (me_v (pv 5)) (me_tup (ma_cons (me_v (pv 6)) (ma_cons (me_call (cd_max (own := false) rfl) (by rfl) T.z_max (by decide +kernel) (ma_cons (me_int) (ma_cons (me_bin (od_add (own := false)) (me_int) (me_v (pv 7))) (ma_nil)))) (ma_cons (me_call (cd_max (own := false) rfl) (by rfl) T.z_max (by decide +kernel) (ma_cons (me_int) (ma_cons (me_bin (od_sub (own := false)) (me_int) (me_v (pv 7))) (ma_nil)))) (ma_cons (me_int) (ma_cons (me_int) (ma_nil)))))))))))) (ms_cons (ms_if (mt_cmp (od_eq hr.units) (me_callG (ok__law_draw T) (hr.mono (by decide)) hgu (by rfl) T.g__law_draw T.F__law_draw.kp T.b__law_draw (takes_of rfl rfl rfl rfl) (ma_cons (me_v (pv 0)) (ma_cons (me_int) (ma_nil)))) (me_int)) (ms_cons (ms_if (mt_not (mt_val (me_callG (ok__law_just T).apart (hr.mono (by decide)) hgu (by rfl) T.g__law_just T.F__law_just.kp T.b__law_just (takes_of rfl rfl rfl rfl) (ma_cons (me_callG (ok__law_heard_beats T).apart (hr.mono (by decide)) hgu (by rfl) T.g__law_heard_beats T.F__law_heard_beats.kp T.b__law_heard_beats (takes_of rfl rfl rfl rfl) (ma_cons (me_int) (ma_cons (me_v (pv 3)) (ma_cons (me_v (pv 4)) (ma_cons (me_int) (ma_nil)))))) (ma_cons (me_tup (ma_cons (me_str) (ma_cons (me_callT (cd_tuple (own := false)) (by rfl) T.z_tuple (by decide +kernel) (ma_cons (me_v (pv 5)) (ma_nil))) (ma_nil)))) (ma_nil)))))) (ms_one (ms_ret (me_bl))) (ms_nil)) (ms_one (ms_if (mt_not (mt_val (me_callG (ok__law_just T).apart (hr.mono (by decide)) hgu (by rfl) T.g__law_just T.F__law_just.kp T.b__law_just (takes_of rfl rfl rfl rfl) (ma_cons (me_callG (ok__law_heard_beats T).apart (hr.mono (by decide)) hgu (by rfl) T.g__law_heard_beats T.F__law_heard_beats.kp T.b__law_heard_beats (takes_of rfl rfl rfl rfl) (ma_cons (me_int) (ma_cons (me_v (pv 3)) (ma_cons (me_v (pv 4)) (ma_cons (me_int) (ma_nil)))))) (ma_cons (me_tup (ma_cons (me_str) (ma_cons (me_int) (ma_nil)))) (ma_nil)))))) (ms_one (ms_ret (me_bl))) (ms_nil)))) (ms_nil)) (ms_cons (ms_set (i := 8) sc__law_wide_right.nd rfl (by first | exact Or.inl rfl | exact Or.inr rfl) (me_tup (ma_cons (me_str) (ma_cons (me_int) (ma_cons (me_int) (ma_cons (me_bin (od_sub (own := false)) (me_int) (me_v (pv 2))) (ma_nil))))))) (ms_cons (ms_for (passes_of rfl) rfl (me_tup (ma_cons (me_int) (ma_cons (me_int) (ma_cons (me_int) (ma_nil))))) (mg_name (i := 9) sc__law_wide_right.nd rfl (by first | exact Or.inl rfl | exact Or.inr rfl)) (ms_one (ms_if (mt_not (mt_val (me_callG (ok__law_just T).apart (hr.mono (by decide)) hgu (by rfl) T.g__law_just T.F__law_just.kp T.b__law_just (takes_of rfl rfl rfl rfl) (ma_cons (me_callG (ok__law_heard_beats T).apart (hr.mono (by decide)) hgu (by rfl) T.g__law_heard_beats T.F__law_heard_beats.kp T.b__law_heard_beats (takes_of rfl rfl rfl rfl) (ma_cons (me_v (pv 9)) (ma_cons (me_v (pv 3)) (ma_cons (me_v (pv 8)) (ma_cons (me_int) (ma_nil)))))) (ma_cons (me_tup (ma_cons (me_str) (ma_cons (me_str) (ma_cons (me_bl) (ma_cons (me_bl) (ma_nil)))))) (ma_nil)))))) (ms_one (ms_ret (me_bl))) (ms_nil)))) (ms_one (ms_ret (me_callG (ok__law_just T).apart (hr.mono (by decide)) hgu (by rfl) T.g__law_just T.F__law_just.kp T.b__law_just (takes_of rfl rfl rfl rfl) (ma_cons (me_callG (ok__law_heard_beats T).apart (hr.mono (by decide)) hgu (by rfl) T.g__law_heard_beats T.F__law_heard_beats.kp T.b__law_heard_beats (takes_of rfl rfl rfl rfl) (ma_cons (me_int) (ma_cons (me_v (pv 3)) (ma_cons (me_v (pv 8)) (ma_cons (me_int) (ma_nil)))))) (ma_cons (me_tup (ma_cons (me_str) (ma_cons (me_bl) (ma_nil)))) (ma_nil)))))))))))))
theorem ok__law_refused (T : Txt K mg fa ca fo) : FnG P w K mg base 14 (fa "_law_refused") (fo "_law_refused") ["hand"] (spM K ca 1 m__law_refused) :=
  fnM T.F__law_refused sc__law_refused fun cdv A outer s H E hr hgu => (ms_cons (ms_asg (me_tup (ma_cons (me_tup (ma_cons (me_str) (ma_cons (me_int) (ma_cons (me_int) (ma_cons (me_int) (ma_nil)))))) (ma_cons (me_tup (ma_cons (me_str) (ma_cons (me_int) (ma_cons (me_int) (ma_cons (me_int) (ma_nil)))))) (ma_cons (me_tup (ma_cons (me_str) (ma_cons (me_int) (ma_cons (me_int) (ma_cons (me_int) (ma_nil)))))) (ma_nil))))) (mg_tup rfl (mgs_cons (mg_name (i := 1) sc__law_refused.nd rfl (by first | exact Or.inl rfl | exact Or.inr rfl)) (mgs_cons (mg_name (i := 2) sc__law_refused.nd rfl (by first | exact Or.inl rfl | exact Or.inr rfl)) (mgs_cons (mg_name (i := 3) sc__law_refused.nd rfl (by first | exact Or.inl rfl | exact Or.inr rfl)) (mgs_nil)))))) (ms_cons (ms_set (i := 4) sc__law_refused.nd rfl (by first | exact Or.inl rfl | exact Or.inr rfl) (me_tup (ma_cons (me_non) (ma_cons (me_int) (ma_cons (me_str) (ma_cons (me_tup (ma_cons (me_str) (ma_cons (me_int) (ma_cons (me_int) (ma_nil))))) (ma_cons (me_tup (ma_cons (me_str) (ma_cons (me_neg (me_int)) (ma_cons (me_int) (ma_cons (me_int) (ma_nil)))))) (ma_cons (me_tup (ma_cons (me_str) (ma_cons (me_int) (ma_cons (me_int) (ma_cons (me_int) (ma_nil)))))) (ma_cons (me_tup (ma_cons (me_str) (ma_cons (me_int) (ma_cons (me_int) (ma_cons (me_neg (me_int)) (ma_nil)))))) (ma_cons (me_tup (ma_cons (me_str) (ma_cons (me_int) (ma_cons (me_int) (ma_cons (me_int) (ma_nil)))))) (ma_nil))))))))))) (ms_cons (ms_set (i := 4) sc__law_refused.nd rfl (by first | exact Or.inl rfl | exact Or.inr rfl) (me_bin (od_add (own := false)) (me_v (pv 4)) (me_tup (ma_cons (me_tup (ma_cons (me_str) (ma_cons (me_int) (ma_cons (me_int) (ma_cons (me_int) (ma_nil)))))) (ma_cons (me_tup (ma_cons (me_str) (ma_cons (me_bl) (ma_cons (me_int) (ma_cons (me_int) (ma_nil)))))) (ma_cons (me_tup (ma_cons (me_str) (ma_cons (me_int) (ma_cons (me_int) (ma_cons (me_int) (ma_cons (me_int) (ma_nil))))))) (ma_cons (me_tup (ma_cons (me_str) (ma_cons (me_int) (ma_cons (me_int) (ma_cons (me_non) (ma_nil)))))) (ma_cons (me_tup (ma_nil)) (ma_nil))))))))) (ms_cons (ms_for1 (passes_of rfl) rfl (by rfl) T.z_range (ma_cons (me_int) (ma_nil)) (mg_name (i := 5) sc__law_refused.nd rfl (by first | exact Or.inl rfl | exact Or.inr rfl)) (ms_cons (ms_for1 (passes_of rfl) rfl (by rfl) T.z_range (ma_cons (me_call (cd_len (own := false)) (by rfl) T.z_len (by decide +kernel) (ma_cons (me_v (pv 4)) (ma_nil))) (ma_nil)) (mg_name (i := 6) sc__law_refused.nd rfl (by first | exact Or.inl rfl | exact Or.inr rfl)) (ms_cons (ms_set (i := 7) sc__law_refused.nd rfl (by first | exact Or.inl rfl | exact Or.inr rfl) (me_ix (hu_of hr) (me_v (pv 4)) (me_v (pv 6)) (fun _ _ => rfl))) (ms_cons (ms_set (i := 8) sc__law_refused.nd rfl (by first | exact Or.inl rfl | exact Or.inr rfl) (me_tup (ma_cons (me_str) (ma_cons (me_v (pv 7)) (ma_cons (me_bl) (ma_cons (me_bl) (ma_nil))))))) (ms_cons (ms_set (i := 9) sc__law_refused.nd rfl (by first | exact Or.inl rfl | exact Or.inr rfl) (me_tup (ma_cons (me_tup (ma_cons (me_v (pv 7)) (ma_cons (me_ix (hu_of hr) (me_v (pv 4)) (me_bin (od_mod (own := false)) (me_callT (cd_int (own := false)) (by rfl) T.z_int (by decide +kernel) (ma_cons (me_bin (od_add (own := false)) (me_v (pv 6)) (me_int)) (ma_nil))) (me_call (cd_len (own := false)) (by rfl) T.z_len (by decide +kernel) (ma_cons (me_v (pv 4)) (ma_nil)))) (fun _ _ => rfl)) (ma_nil)))) (ma_cons (me_tup (ma_cons (me_v (pv 1)) (ma_cons (me_v (pv 7)) (ma_nil)))) (ma_cons (me_tup (ma_cons (me_v (pv 3)) (ma_cons (me_v (pv 7)) (ma_nil)))) (ma_nil)))))) (ms_cons (ms_asg (me_ix (hu_of hr) (me_v (pv 9)) (me_bin (od_mod (own := false)) (me_callT (cd_int (own := false)) (by rfl) T.z_int (by decide +kernel) (ma_cons (me_bin (od_add (own := false)) (me_v (pv 6)) (me_v (pv 5))) (ma_nil))) (me_int)) (fun _ _ => rfl)) (mg_tup rfl (mgs_cons (mg_name (i := 10) sc__law_refused.nd rfl (by first | exact Or.inl rfl | exact Or.inr rfl)) (mgs_cons (mg_name (i := 11) sc__law_refused.nd rfl (by first | exact Or.inl rfl | exact Or.inr rfl)) (mgs_nil))))) (ms_one (ms_if (mt_not (mt_val (me_callG (ok__law_just T).apart (hr.mono (by decide)) hgu (by rfl) T.g__law_just T.F__law_just.kp T.b__law_just (takes_of rfl rfl rfl rfl) (ma_cons (me_callG (ok__law_heard_beats T).apart (hr.mono (by decide)) hgu (by rfl) T.g__law_heard_beats T.F__law_heard_beats.kp T.b__law_heard_beats (takes_of rfl rfl rfl rfl) (ma_cons (me_v (pv 5)) (ma_cons (me_v (pv 10)) (ma_cons (me_v (pv 11)) (ma_cons (me_neg (me_int)) (ma_nil)))))) (ma_cons (me_v (pv 8)) (ma_nil)))))) (ms_one (ms_ret (me_bl))) (ms_nil)))))))) (ms_one (ms_for (passes_of rfl) rfl (me_tup (ma_cons (me_tup (ma_cons (me_v (pv 3)) (ma_cons (me_v (pv 2)) (ma_nil)))) (ma_cons (me_tup (ma_cons (me_v (pv 2)) (ma_cons (me_v (pv 3)) (ma_nil)))) (ma_cons (me_tup (ma_cons (me_v (pv 3)) (ma_cons (me_v (pv 3)) (ma_nil)))) (ma_nil))))) (mg_tup rfl (mgs_cons (mg_name (i := 10) sc__law_refused.nd rfl (by first | exact Or.inl rfl | exact Or.inr rfl)) (mgs_cons (mg_name (i := 11) sc__law_refused.nd rfl (by first | exact Or.inl rfl | exact Or.inr rfl)) (mgs_nil)))) (ms_one (ms_if (mt_not (mt_val (me_callG (ok__law_just T).apart (hr.mono (by decide)) hgu (by rfl) T.g__law_just T.F__law_just.kp T.b__law_just (takes_of rfl rfl rfl rfl) (ma_cons (me_callG (ok__law_heard_beats T).apart (hr.mono (by decide)) hgu (by rfl) T.g__law_heard_beats T.F__law_heard_beats.kp T.b__law_heard_beats (takes_of rfl rfl rfl rfl) (ma_cons (me_v (pv 5)) (ma_cons (me_v (pv 10)) (ma_cons (me_v (pv 11)) (ma_cons (me_int) (ma_nil)))))) (ma_cons (me_tup (ma_cons (me_str) (ma_cons (me_str) (ma_cons (me_bl) (ma_cons (me_bl) (ma_nil)))))) (ma_nil)))))) (ms_one (ms_ret (me_bl))) (ms_nil))))))) (ms_cons (ms_for (passes_of rfl) rfl (me_tup (ma_cons (me_neg (me_int)) (ma_cons (me_bl) (ma_cons (me_non) (ma_cons (me_str) (ma_nil)))))) (mg_name (i := 12) sc__law_refused.nd rfl (by first | exact Or.inl rfl | exact Or.inr rfl)) (ms_one (ms_for (passes_of rfl) rfl (me_tup (ma_cons (me_tup (ma_cons (me_v (pv 1)) (ma_cons (me_v (pv 1)) (ma_nil)))) (ma_cons (me_tup (ma_cons (me_v (pv 3)) (ma_cons (me_v (pv 2)) (ma_nil)))) (ma_cons (me_tup (ma_cons (me_v (pv 2)) (ma_cons (me_v (pv 2)) (ma_nil)))) (ma_nil))))) (mg_tup rfl (mgs_cons (mg_name (i := 10) sc__law_refused.nd rfl (by first | exact Or.inl rfl | exact Or.inr rfl)) (mgs_cons (mg_name (i := 11) sc__law_refused.nd rfl (by first | exact Or.inl rfl | exact Or.inr rfl)) (mgs_nil)))) (ms_one (ms_if (mt_not (mt_val (me_callG (ok__law_just T).apart (hr.mono (by decide)) hgu (by rfl) T.g__law_just T.F__law_just.kp T.b__law_just (takes_of rfl rfl rfl rfl) (ma_cons (me_callG (ok__law_heard_beats T).apart (hr.mono (by decide)) hgu (by rfl) T.g__law_heard_beats T.F__law_heard_beats.kp T.b__law_heard_beats (takes_of rfl rfl rfl rfl) (ma_cons (me_int) (ma_cons (me_v (pv 10)) (ma_cons (me_v (pv 11)) (ma_cons (me_v (pv 12)) (ma_nil)))))) (ma_cons (me_tup (ma_cons (me_str) (ma_cons (me_v (pv 12)) (ma_cons (me_bl) (ma_cons (me_bl) (ma_nil)))))) (ma_nil)))))) (ms_one (ms_ret (me_bl))) (ms_nil)))))) (ms_one (ms_ret (me_callG (ok__law_just T).apart (hr.mono (by decide)) hgu (by rfl) T.g__law_just T.F__law_just.kp T.b__law_just (takes_of rfl rfl rfl rfl) (ma_cons (me_callG (ok__law_heard_beats T).apart (hr.mono (by decide)) hgu (by rfl) T.g__law_heard_beats T.F__law_heard_beats.kp T.b__law_heard_beats (takes_of rfl rfl rfl rfl) (ma_cons (me_int) (ma_cons (me_v (pv 1)) (ma_cons (me_v (pv 1)) (ma_cons (me_int) (ma_nil)))))) (ma_cons (me_tup (ma_cons (me_str) (ma_cons (me_int) (ma_nil)))) (ma_nil)))))))))))
theorem ok__law_small_right (T : Txt K mg fa ca fo) : FnG P w K mg base 15 (fa "_law_small_right") (fo "_law_small_right") ["hand"] (spM K ca 1 m__law_small_right) :=
  fnM T.F__law_small_right sc__law_small_right fun cdv A outer s H E hr hgu => (ms_cons (ms_par (i := 1) (j := 2) rfl sc__law_small_right.nd rfl rfl (by decide) rfl rfl (ma_cons (me_callG (ok__law_small_row T) (hr.mono (by decide)) hgu (by rfl) T.g__law_small_row T.F__law_small_row.kp T.b__law_small_row (takes_of rfl rfl rfl rfl) (ma_cons (me_v (pv 0)) (ma_nil))) (ma_cons (me_callG (ok__law_small_row T) (hr.mono (by decide)) hgu (by rfl) T.g__law_small_row T.F__law_small_row.kp T.b__law_small_row (takes_of rfl rfl rfl rfl) (ma_cons (me_v (pv 0)) (ma_nil))) (ma_nil)))) (ms_cons (ms_set (i := 3) sc__law_small_right.nd rfl (by first | exact Or.inl rfl | exact Or.inr rfl) (me_callG (ok__law_families T).apart (hr.mono (by decide)) hgu (by rfl) T.g__law_families T.F__law_families.kp T.b__law_families (takes_of rfl rfl rfl rfl) (ma_cons (me_v (pv 1)) (ma_cons (me_v (pv 2)) (ma_nil))))) (ms_cons (ms_for (passes_of rfl) rfl (me_tup (ma_cons (me_bin (od_add (own := false)) (me_bin (od_mod (own := false)) (me_callT (cd_int (own := false)) (by rfl) T.z_int (by decide +kernel) (ma_cons (me_callG (ok__law_draw T) (hr.mono (by decide)) hgu (by rfl) T.g__law_draw T.F__law_draw.kp T.b__law_draw (takes_of rfl rfl rfl rfl) (ma_cons (me_v (pv 0)) (ma_cons (me_int) (ma_nil)))) (ma_nil))) (me_int)) (me_int)) (ma_cons (me_callG (ok__law_draw T) (hr.mono (by decide)) hgu (by rfl) T.g__law_draw T.F__law_draw.kp T.b__law_draw (takes_of rfl rfl rfl rfl) (ma_cons (me_v (pv 0)) (ma_cons (me_int) (ma_nil)))) (ma_nil)))) (mg_name (i := 4) sc__law_small_right.nd rfl (by first | exact Or.inl rfl | exact Or.inr rfl)) (ms_one (ms_if (mt_not (mt_val (me_callG (ok__law_just T).apart (hr.mono (by decide)) hgu (by rfl) T.g__law_just T.F__law_just.kp T.b__law_just (takes_of rfl rfl rfl rfl) (ma_cons (me_callG (ok__law_heard_beats T).apart (hr.mono (by decide)) hgu (by rfl) T.g__law_heard_beats T.F__law_heard_beats.kp T.b__law_heard_beats (takes_of rfl rfl rfl rfl) (ma_cons (me_int) (ma_cons (me_v (pv 1)) (ma_cons (me_v (pv 2)) (ma_cons (me_v (pv 4)) (ma_nil)))))) (ma_cons (me_tup (ma_cons (me_str) (ma_cons (me_callG (ok__law_tried T).apart (hr.mono (by decide)) hgu (by rfl) T.g__law_tried T.F__law_tried.kp T.b__law_tried (takes_of rfl rfl rfl rfl) (ma_cons (me_v (pv 1)) (ma_cons (me_v (pv 2)) (ma_cons (me_v (pv 4)) (ma_nil))))) (ma_nil)))) (ma_nil)))))) (ms_one (ms_ret (me_bl))) (ms_nil)))) (ms_one (ms_ret (me_callG (ok__law_two_right T) (hr.mono (by decide)) hgu (by rfl) T.g__law_two_right T.F__law_two_right.kp T.b__law_two_right (takes_of rfl rfl rfl rfl) (ma_cons (me_v (pv 0)) (ma_cons (me_v (pv 1)) (ma_cons (me_v (pv 2)) (ma_cons (me_v (pv 3)) (ma_nil)))))))))))
theorem ok__law_great_right (T : Txt K mg fa ca fo) : FnG P w K mg base 15 (fa "_law_great_right") (fo "_law_great_right") ["hand"] (spM K ca 1 m__law_great_right) :=
  fnM T.F__law_great_right sc__law_great_right fun cdv A outer s H E hr hgu => (ms_cons (ms_set (i := 1) sc__law_great_right.nd rfl (by first | exact Or.inl rfl | exact Or.inr rfl) (me_ix (hu_of hr) (me_tup (ma_cons (me_int) (ma_cons (me_int) (ma_cons (me_int) (ma_cons (me_int) (ma_cons (me_int) (ma_nil))))))) (me_callG (ok__law_draw T) (hr.mono (by decide)) hgu (by rfl) T.g__law_draw T.F__law_draw.kp T.b__law_draw (takes_of rfl rfl rfl rfl) (ma_cons (me_v (pv 0)) (ma_cons (me_int) (ma_nil)))) (fun _ _ => rfl))) (ms_cons (ms_set (i := 2) sc__law_great_right.nd rfl (by first | exact Or.inl rfl | exact Or.inr rfl) (me_bin (od_add (own := false)) (me_int) (me_bin (od_mul (own := false)) (me_int) (me_callG (ok__law_draw T) (hr.mono (by decide)) hgu (by rfl) T.g__law_draw T.F__law_draw.kp T.b__law_draw (takes_of rfl rfl rfl rfl) (ma_cons (me_v (pv 0)) (ma_cons (me_int) (ma_nil))))))) (ms_cons (ms_set (i := 3) sc__law_great_right.nd rfl (by first | exact Or.inl rfl | exact Or.inr rfl) (me_bin (od_add (own := false)) (me_bin (od_mul (own := false)) (me_v (pv 2)) (me_ix (hu_of hr) (me_tup (ma_cons (me_int) (ma_cons (me_int) (ma_nil)))) (me_callG (ok__law_draw T) (hr.mono (by decide)) hgu (by rfl) T.g__law_draw T.F__law_draw.kp T.b__law_draw (takes_of rfl rfl rfl rfl) (ma_cons (me_v (pv 0)) (ma_cons (me_int) (ma_nil)))) (fun _ _ => rfl))) (me_int))) (ms_cons (ms_set (i := 4) sc__law_great_right.nd rfl (by first | exact Or.inl rfl | exact Or.inr rfl) (me_callG (ok__law_draw T) (hr.mono (by decide)) hgu (by rfl) T.g__law_draw T.F__law_draw.kp T.b__law_draw (takes_of rfl rfl rfl rfl) (ma_cons (me_v (pv 0)) (ma_cons (me_int) (ma_nil))))) (ms_cons (ms_set (i := 4) sc__law_great_right.nd rfl (by first | exact Or.inl rfl | exact Or.inr rfl) (me_bin (od_mod (own := false)) (me_callT (cd_int (own := false)) (by rfl) T.z_int (by decide +kernel) (ma_cons (me_v (pv 4)) (ma_nil))) (me_v (pv 1)))) (ms_cons (ms_set (i := 5) sc__law_great_right.nd rfl (by first | exact Or.inl rfl | exact Or.inr rfl) (me_bin (od_mod (own := false)) (me_callT (cd_int (own := false)) (by rfl) T.z_int (by decide +kernel) (ma_cons (me_callG (ok__law_draw T) (hr.mono (by decide)) hgu (by rfl) T.g__law_draw T.F__law_draw.kp T.b__law_draw (takes_of rfl rfl rfl rfl) (ma_cons (me_v (pv 0)) (ma_cons (me_int) (ma_nil)))) (ma_nil))) (me_bin (od_sub (own := false)) (me_v (pv 1)) (me_v (pv 4))))) (ms_cons (ms_set (i := 6) sc__law_great_right.nd rfl (by first | exact Or.inl rfl | exact Or.inr rfl) (me_bin (od_sub (own := false)) (me_bin (od_mod (own := false)) (me_callT (cd_int (own := false)) (by rfl) T.z_int (by decide +kernel) (ma_cons (me_callG (ok__law_draw T) (hr.mono (by decide)) hgu (by rfl) T.g__law_draw T.F__law_draw.kp T.b__law_draw (takes_of rfl rfl rfl rfl) (ma_cons (me_v (pv 0)) (ma_cons (me_int) (ma_nil)))) (ma_nil))) (me_bin (od_add (own := false)) (me_bin (od_add (own := false)) (me_v (pv 4)) (me_v (pv 5))) (me_int))) (me_v (pv 4)))) (ms_cons (ms_set (i := 7) sc__law_great_right.nd rfl (by first | exact Or.inl rfl | exact Or.inr rfl) (me_bin (od_add (own := false)) (me_int) (me_bin (od_mod (own := false)) (me_callT (cd_int (own := false)) (by rfl) T.z_int (by decide +kernel) (ma_cons (me_bin (od_add (own := false)) (me_bin (od_mul (own := false)) (me_int) (me_callG (ok__law_draw T) (hr.mono (by decide)) hgu (by rfl) T.g__law_draw T.F__law_draw.kp T.b__law_draw (takes_of rfl rfl rfl rfl) (ma_cons (me_v (pv 0)) (ma_cons (me_int) (ma_nil))))) (me_callG (ok__law_draw T) (hr.mono (by decide)) hgu (by rfl) T.g__law_draw T.F__law_draw.kp T.b__law_draw (takes_of rfl rfl rfl rfl) (ma_cons (me_v (pv 0)) (ma_cons (me_int) (ma_nil))))) (ma_nil))) (me_v (pv 3))))) (ms_cons (ms_set (i := 8) sc__law_great_right.nd rfl (by first | exact Or.inl rfl | exact Or.inr rfl) (me_bin (od_add (own := false)) (me_int) (me_bin (od_mul (own := false)) (me_int) (me_callG (ok__law_draw T) (hr.mono (by decide)) hgu (by rfl) T.g__law_draw T.F__law_draw.kp T.b__law_draw (takes_of rfl rfl rfl rfl) (ma_cons (me_v (pv 0)) (ma_cons (me_int) (ma_nil))))))) (ms_cons (ms_if (mt_cmp (od_eq hr.units) (me_callG (ok__law_draw T) (hr.mono (by decide)) hgu (by rfl) T.g__law_draw T.F__law_draw.kp T.b__law_draw (takes_of rfl rfl rfl rfl) (ma_cons (me_v (pv 0)) (ma_cons (me_int) (ma_nil)))) (me_int)) (ms_one (ms_par (i := 7) (j := 8) rfl sc__law_great_right.nd rfl rfl (by decide) rfl rfl (ma_cons (me_bin (od_add (own := false)) (me_int) (me_bin (od_mul (own := false)) (me_int) (me_callG (ok__law_draw T) (hr.mono (by decide)) hgu (by rfl) T.g__law_draw T.F__law_draw.kp T.b__law_draw (takes_of rfl rfl rfl rfl) (ma_cons (me_v (pv 0)) (ma_cons (me_int) (ma_nil)))))) (ma_cons (me_bin (od_add (own := false)) (me_int) (me_bin (od_mod (own := false)) (me_callT (cd_int (own := false)) (by rfl) T.z_int (by decide +kernel) (ma_cons (me_bin (od_add (own := false)) (me_bin (od_mul (own := false)) (me_int) (me_callG (ok__law_draw T) (hr.mono (by decide)) hgu (by rfl) T.g__law_draw T.F__law_draw.kp T.b__law_draw (takes_of rfl rfl rfl rfl) (ma_cons (me_v (pv 0)) (ma_cons (me_int) (ma_nil))))) (me_callG (ok__law_draw T) (hr.mono (by decide)) hgu (by rfl) T.g__law_draw T.F__law_draw.kp T.b__law_draw (takes_of rfl rfl rfl rfl) (ma_cons (me_v (pv 0)) (ma_cons (me_int) (ma_nil))))) (ma_nil))) (me_v (pv 2)))) (ma_nil))))) (ms_nil)) (ms_cons (ms_set (i := 9) sc__law_great_right.nd rfl (by first | exact Or.inl rfl | exact Or.inr rfl) (me_bin (od_sub (own := false)) (me_bin (od_sub (own := false)) (me_bin (od_mul (own := false)) (me_bin (od_mul (own := false)) (me_v (pv 7)) (me_v (pv 2))) (me_v (pv 1))) (me_bin (od_mul (own := false)) (me_bin (od_mul (own := false)) (me_v (pv 8)) (me_v (pv 3))) (me_v (pv 1)))) (me_v (pv 6)))) (ms_cons (ms_set (i := 10) sc__law_great_right.nd rfl (by first | exact Or.inl rfl | exact Or.inr rfl) (me_tup (ma_cons (me_str) (ma_cons (me_call (cd_max (own := false) rfl) (by rfl) T.z_max (by decide +kernel) (ma_cons (me_int) (ma_cons (me_neg (me_v (pv 9))) (ma_nil)))) (ma_cons (me_bin (od_mul (own := false)) (me_v (pv 2)) (me_v (pv 1))) (ma_cons (me_v (pv 4)) (ma_nil))))))) (ms_cons (ms_set (i := 11) sc__law_great_right.nd rfl (by first | exact Or.inl rfl | exact Or.inr rfl) (me_tup (ma_cons (me_str) (ma_cons (me_call (cd_max (own := false) rfl) (by rfl) T.z_max (by decide +kernel) (ma_cons (me_int) (ma_cons (me_v (pv 9)) (ma_nil)))) (ma_cons (me_bin (od_mul (own := false)) (me_v (pv 3)) (me_v (pv 1))) (ma_cons (me_v (pv 5)) (ma_nil))))))) (ms_one (ms_ret (me_callG (ok__law_two_right T) (hr.mono (by decide)) hgu (by rfl) T.g__law_two_right T.F__law_two_right.kp T.b__law_two_right (takes_of rfl rfl rfl rfl) (ma_cons (me_v (pv 0)) (ma_cons (me_v (pv 10)) (ma_cons (me_v (pv 11)) (ma_cons (me_tup (ma_cons (me_tup (ma_cons (me_v (pv 6)) (ma_cons (me_v (pv 7)) (ma_cons (me_v (pv 8)) (ma_cons (me_v (pv 3)) (ma_cons (me_v (pv 2)) (ma_nil))))))) (ma_nil))) (ma_nil)))))))))))))))))))))
theorem ok_law (T : Txt K mg fa ca fo) : FnG P w K mg base 16 (fa "law") (fo "law") ["script"] (spM K ca 1 m_law) :=
  fnM T.F_law sc_law fun cdv A outer s H E hr hgu => (ms_cons (ms_set (i := 1) sc_law.nd rfl (by first | exact Or.inl rfl | exact Or.inr rfl) (me_callG (ok__law_hand T) (hr.mono (by decide)) hgu (by rfl) T.g__law_hand T.F__law_hand.kp T.b__law_hand (takes_of rfl rfl rfl rfl) (ma_cons (me_v (pv 0)) (ma_nil)))) (ms_cons (ms_if ((mw_or (mt_not (mt_val (me_callG (ok__law_small_right T) (hr.mono (by decide)) hgu (by rfl) T.g__law_small_right T.F__law_small_right.kp T.b__law_small_right (takes_of rfl rfl rfl rfl) (ma_cons (me_v (pv 1)) (ma_nil))))) (mw_or1 (mt_not (mt_val (me_callG (ok__law_great_right T) (hr.mono (by decide)) hgu (by rfl) T.g__law_great_right T.F__law_great_right.kp T.b__law_great_right (takes_of rfl rfl rfl rfl) (ma_cons (me_v (pv 1)) (ma_nil))))))).pt) (ms_one (ms_ret (me_bl))) (ms_nil)) (ms_one (ms_ret (me_and (me_callG (ok__law_wide_right T) (hr.mono (by decide)) hgu (by rfl) T.g__law_wide_right T.F__law_wide_right.kp T.b__law_wide_right (takes_of rfl rfl rfl rfl) (ma_cons (me_v (pv 1)) (ma_nil))) (me_one (me_callG (ok__law_refused T) (hr.mono (by decide)) hgu (by rfl) T.g__law_refused T.F__law_refused.kp T.b__law_refused (takes_of rfl rfl rfl rfl) (ma_cons (me_v (pv 1)) (ma_nil)))))))))
end
end K74

set_option Elab.async false
set_option linter.all false
set_option maxRecDepth 100000
set_option maxHeartbeats 4000000
namespace K74
open PySem PySem.Spec PyProof.Rows L2 Mn
def fx (c p s : Int) : D := .tup [.str "fixed", .int c, .int p, .int s]
def fxl (c p s : Int) : D := .fl [.str "fixed", .int c, .int p, .int s]
theorem told_fx (c p s : Int) (g : G) : m_told_plainly 8 [fx c p s] g = .ok (fx c p s) g := by kernel_rfl
theorem told_fxl (c p s : Int) (g : G) : m_told_plainly 8 [fxl c p s] g = .ok (fx c p s) g := by kernel_rfl
theorem refused (g : G) : m__law_refused [.obj 1] g = .ok (.bl true) g := by kernel_rfl
end K74

set_option Elab.async false
set_option linter.all false
set_option maxHeartbeats 4000000
/-! The plain mathematics of k74: families of meeting pairs. -/
namespace K74
def Cop (a b : Int) : Prop := ∃ r q : Int, a * r - 1 = b * q
structure MinP (a b m i j : Int) : Prop where
  i1 : 1 ≤ i
  j1 : 1 ≤ j
  eq : i * a - j * b = m
  mn : i - b < 1 ∨ j - a < 1
theorem sol_diff {a b : Int} (hc : Cop a b) (hb : 0 < b) {i j i' j' : Int} (h : i * a - j * b = i' * a - j' * b) : ∃ t, i = i' + b * t ∧ j = j' + a * t := by
  obtain ⟨r, q, e⟩ := hc
  have e1 : i = i' + b * ((j - j') * r - (i - i') * q) := by grind
  refine ⟨(j - j') * r - (i - i') * q, e1, ?_⟩
  generalize (j - j') * r - (i - i') * q = t at e1
  have e2 : b * (j - (j' + a * t)) = 0 := by grind
  rcases Int.mul_eq_zero.mp e2 with z | z
  · omega
  · omega
theorem le_mul_pos {a t : Int} (ha : 0 < a) (ht : 1 ≤ t) : a ≤ a * t := by
  have := Int.mul_le_mul_of_nonneg_left ht (Int.le_of_lt ha)
  omega
theorem MinP.uniq {a b m i j i' j' : Int} (hc : Cop a b) (ha : 0 < a) (hb : 0 < b) (h : MinP a b m i j) (h' : MinP a b m i' j') : i = i' ∧ j = j' := by
  obtain ⟨t, e1, e2⟩ := sol_diff hc hb (h.eq.trans h'.eq.symm)
  have q1 := h.mn
  have q2 := h'.mn
  have := h.i1
  have := h.j1
  have := h'.i1
  have := h'.j1
  by_cases c : 1 ≤ t
  · have := le_mul_pos ha c
    have := le_mul_pos hb c
    omega
  · by_cases c2 : t ≤ -1
    · have x1 := le_mul_pos ha (show 1 ≤ -t by omega)
      have x2 := le_mul_pos hb (show 1 ≤ -t by omega)
      rw [Int.mul_neg] at x1 x2
      omega
    · have z : t = 0 := by omega
      subst z
      simp at e1 e2
      exact ⟨e1, e2⟩
theorem MinP.swap {a b m i j : Int} (h : MinP a b m i j) : MinP b a (-m) j i := ⟨h.j1, h.i1, by have := h.eq; omega, h.mn.symm⟩
abbrev Tr := Int × Int × Int
structure IsF (a b C D s1 s2 : Int) (L : List Tr) : Prop where
  asc : L.Pairwise fun x y => x.1 < y.1
  ok : ∀ x ∈ L, -s1 ≤ x.1 ∧ x.1 ≤ s2 ∧ ∃ m, x.1 = D + C * m ∧ MinP a b m x.2.1 x.2.2
  all : ∀ m, -s1 ≤ D + C * m → D + C * m ≤ s2 → ∃ x ∈ L, x.1 = D + C * m
theorem pw_uniq : ∀ {l m : List Tr}, l.Pairwise (fun x y => x.1 < y.1) → m.Pairwise (fun x y => x.1 < y.1) → (∀ x, x ∈ l ↔ x ∈ m) → l = m
  | [], [], _, _, _ => rfl
  | [], y :: m, _, _, h => absurd ((h y).mpr List.mem_cons_self) (by simp)
  | x :: l, [], _, _, h => absurd ((h x).mp List.mem_cons_self) (by simp)
  | x :: l, y :: m, hl, hm, h => by
    obtain ⟨l1, l2⟩ := List.pairwise_cons.mp hl
    obtain ⟨m1, m2⟩ := List.pairwise_cons.mp hm
    have e : x = y := by
      rcases List.mem_cons.mp ((h x).mp List.mem_cons_self) with e | hx
      · exact e
      · rcases List.mem_cons.mp ((h y).mpr List.mem_cons_self) with e | hy
        · exact e.symm
        · have a1 := m1 x hx
          have a2 := l1 y hy
          omega
    subst e
    rw [pw_uniq l2 m2 fun z => ?_]
    constructor
    · intro hz
      rcases List.mem_cons.mp ((h z).mp (List.mem_cons_of_mem _ hz)) with e | q
      · have := l1 z hz
        rw [e] at this
        omega
      · exact q
    · intro hz
      rcases List.mem_cons.mp ((h z).mpr (List.mem_cons_of_mem _ hz)) with e | q
      · have := m1 z hz
        rw [e] at this
        omega
      · exact q
section
variable {a b C D s1 s2 : Int} {L L' : List Tr}
theorem IsF.sub (hc : Cop a b) (ha : 0 < a) (hb : 0 < b) (hC : 0 < C) (h : IsF a b C D s1 s2 L) (h' : IsF a b C D s1 s2 L') {x : Tr} (hx : x ∈ L) : x ∈ L' := by
  obtain ⟨w1, w2, m, e, P⟩ := h.ok x hx
  obtain ⟨y, hy, e2⟩ := h'.all m (by omega) (by omega)
  obtain ⟨_, _, m', e3, P'⟩ := h'.ok y hy
  have em : m' = m := by
    have : C * m' = C * m := by omega
    exact Int.eq_of_mul_eq_mul_left (by omega) this
  subst em
  obtain ⟨z1, z2⟩ := P.uniq hc ha hb P'
  have : x = y := Prod.ext (by omega) (Prod.ext z1 z2)
  rw [this]; exact hy
theorem IsF.uniq (hc : Cop a b) (ha : 0 < a) (hb : 0 < b) (hC : 0 < C) (h : IsF a b C D s1 s2 L) (h' : IsF a b C D s1 s2 L') : L = L' :=
  pw_uniq h.asc h'.asc fun _ => ⟨h.sub hc ha hb hC h', h'.sub hc ha hb hC h⟩
def turnT (x : Tr) : Tr := (-x.1, x.2.2, x.2.1)
theorem IsF.swap (h : IsF a b C D s1 s2 L) : IsF b a C (-D) s2 s1 (L.reverse.map turnT) := by
  refine ⟨?_, fun x hx => ?_, fun m h1 h2 => ?_⟩
  · rw [List.pairwise_map, List.pairwise_reverse]
    exact h.asc.imp fun {x y} q => by show -y.1 < -x.1; omega
  · obtain ⟨y, hy, e⟩ := List.mem_map.mp hx
    obtain ⟨w1, w2, m, e1, P⟩ := h.ok y (List.mem_reverse.mp hy)
    subst e
    refine ⟨by show -s2 ≤ -y.1; omega, by show -y.1 ≤ s1; omega, -m, ?_, P.swap⟩
    show -y.1 = -D + C * -m
    rw [Int.mul_neg]; omega
  · have z : C * -m = -(C * m) := Int.mul_neg C m
    obtain ⟨x, hx, e⟩ := h.all (-m) (by omega) (by omega)
    exact ⟨turnT x, List.mem_map.mpr ⟨x, List.mem_reverse.mpr hx, rfl⟩, by show -x.1 = _; omega⟩
end
/-! ### counting -/
def pairs (k : Nat) : List (Int × Int) := (List.range k).flatMap fun (i : Nat) => (List.range k).map fun (j : Nat) => ((i : Int) + 1, (j : Int) + 1)
theorem mem_pairs {k : Nat} {p : Int × Int} : p ∈ pairs k ↔ 1 ≤ p.1 ∧ p.1 ≤ k ∧ 1 ≤ p.2 ∧ p.2 ≤ k := by
  unfold pairs
  rw [List.mem_flatMap]
  constructor
  · rintro ⟨i, hi, h⟩
    obtain ⟨j, hj, e⟩ := List.mem_map.mp h
    have := List.mem_range.mp hi
    have := List.mem_range.mp hj
    subst e
    simp only
    omega
  · rintro ⟨h1, h2, h3, h4⟩
    refine ⟨(p.1 - 1).toNat, List.mem_range.mpr (by omega), List.mem_map.mpr ⟨(p.2 - 1).toNat, List.mem_range.mpr (by omega), ?_⟩⟩
    exact Prod.ext (by simp only; omega) (by simp only; omega)
theorem pairs_nodup (k : Nat) : (pairs k).Nodup := by
  unfold pairs List.Nodup
  rw [List.pairwise_flatMap]
  refine ⟨fun i _ => ?_, ?_⟩
  · rw [List.pairwise_map]
    exact (List.pairwise_lt_range (n := k)).imp fun {x y} q e => by
      have := congrArg Prod.snd e
      simp only at this
      omega
  · exact (List.pairwise_lt_range (n := k)).imp fun {x y} q u hu v hv e => by
      obtain ⟨_, _, e1⟩ := List.mem_map.mp hu
      obtain ⟨_, _, e2⟩ := List.mem_map.mp hv
      rw [← e1, ← e2] at e
      have := congrArg Prod.fst e
      simp only at this
      omega
theorem len_le {α : Type} [DecidableEq α] : ∀ (l m : List α), l.Nodup → (∀ x ∈ l, x ∈ m) → l.length ≤ m.length
  | [], _, _, _ => Nat.zero_le _
  | x :: l, m, hn, h => by
    obtain ⟨h1, h2⟩ := List.nodup_cons.mp hn
    have hx := h x List.mem_cons_self
    have ih := len_le l (m.erase x) h2 fun y hy => (List.mem_erase_of_ne (show y ≠ x from fun e => by subst e; exact h1 hy)).mpr (h y (List.mem_cons_of_mem _ hy))
    have := List.length_erase_of_mem hx
    have := List.length_pos_of_mem hx
    rw [List.length_cons]
    omega
theorem len_eq {α : Type} [DecidableEq α] {l m : List α} (h1 : l.Nodup) (h2 : m.Nodup) (h : ∀ x, x ∈ l ↔ x ∈ m) : l.length = m.length :=
  Nat.le_antisymm (len_le l m h1 fun x => (h x).mp) (len_le m l h2 fun x => (h x).mpr)
/-- how many of a family's pairs lie below k -/
def few (a b k i j : Int) : Int := max 0 (1 + min ((k - i) / b) ((k - j) / a))
theorem fam_count {a b : Int} (hc : Cop a b) (ha : 0 < a) (hb : 0 < b) {m i j : Int} (P : MinP a b m i j) (k : Nat) : (((pairs k).filter fun p => decide (p.1 * a - p.2 * b = m)).length : Int) = few a b k i j := by
  have e : ((pairs k).filter fun p => decide (p.1 * a - p.2 * b = m)).length = ((List.range (few a b k i j).toNat).map fun (t : Nat) => (i + b * (t : Int), j + a * (t : Int))).length := by
    refine len_eq ((pairs_nodup k).filter _) ?_ fun p => ?_
    · show List.Pairwise _ _
      rw [List.pairwise_map]
      exact (List.pairwise_lt_range (n := _)).imp fun {x y} q e => by
        have e1 := congrArg Prod.fst e
        simp only at e1
        have : b * ((y : Int) - x) = 0 := by rw [Int.mul_sub]; omega
        rcases Int.mul_eq_zero.mp this with z | z <;> omega
    · rw [List.mem_filter, mem_pairs, decide_eq_true_eq, List.mem_map]
      constructor
      · rintro ⟨⟨h1, h2, h3, h4⟩, h5⟩
        obtain ⟨t, e1, e2⟩ := sol_diff hc hb (h5.trans P.eq.symm)
        have t0 : 0 ≤ t := by
          by_cases c : 0 ≤ t
          · exact c
          · have x1 := le_mul_pos ha (show 1 ≤ -t by omega)
            have x2 := le_mul_pos hb (show 1 ≤ -t by omega)
            rw [Int.mul_neg] at x1 x2
            have := P.mn
            omega
        have u1 : t ≤ (k - i) / b := (Int.le_ediv_iff_mul_le hb).mpr (by rw [Int.mul_comm]; omega)
        have u2 : t ≤ (k - j) / a := (Int.le_ediv_iff_mul_le ha).mpr (by rw [Int.mul_comm]; omega)
        refine ⟨t.toNat, List.mem_range.mpr (by unfold few; omega), Prod.ext ?_ ?_⟩
        · simp only; rw [Int.toNat_of_nonneg t0]; omega
        · simp only; rw [Int.toNat_of_nonneg t0]; omega
      · rintro ⟨t, ht, rfl⟩
        have ht' := List.mem_range.mp ht
        unfold few at ht'
        have u1 : (t : Int) ≤ (k - i) / b := by omega
        have u2 : (t : Int) ≤ (k - j) / a := by omega
        have v1 := (Int.le_ediv_iff_mul_le hb).mp u1
        have v2 := (Int.le_ediv_iff_mul_le ha).mp u2
        rw [Int.mul_comm] at v1 v2
        have w1 : 0 ≤ b * (t : Int) := Int.mul_nonneg (by omega) (by omega)
        have w2 : 0 ≤ a * (t : Int) := Int.mul_nonneg (by omega) (by omega)
        have := P.i1
        have := P.j1
        refine ⟨⟨by simp only; omega, by simp only; omega, by simp only; omega, by simp only; omega⟩, ?_⟩
        have := P.eq
        simp only
        grind
  rw [e, List.length_map, List.length_range]
  unfold few
  omega
def sumF (f : Tr → Int) : List Tr → Int
  | [] => 0
  | x :: l => f x + sumF f l
theorem split_count {α : Type} {f : α → Int} {P : List α} : ∀ {L : List Tr}, L.Pairwise (fun x y => x.1 < y.1) → ((P.filter fun p => L.any fun x => decide (f p = x.1)).length : Int) = sumF (fun x => ((P.filter fun p => decide (f p = x.1)).length : Int)) L
  | [], _ => by
    show ((P.filter fun p => false).length : Int) = 0
    rw [List.filter_eq_nil_iff.mpr (by simp)]; rfl
  | x :: L, h => by
    obtain ⟨h1, h2⟩ := List.pairwise_cons.mp h
    show _ = _ + sumF _ L
    rw [← split_count h2]
    have key : ∀ P : List α, (P.filter fun p => (x :: L).any fun x => decide (f p = x.1)).length = (P.filter fun p => decide (f p = x.1)).length + (P.filter fun p => L.any fun x => decide (f p = x.1)).length := by
      intro P
      induction P with
      | nil => rfl
      | cons p P ih =>
        by_cases c : f p = x.1
        · have n : (L.any fun y => decide (f p = y.1)) = false := by
            rw [List.any_eq_false]
            intro y hy q
            have := h1 y hy
            have := of_decide_eq_true q
            omega
          have y1 : ((x :: L).any fun x => decide (f p = x.1)) = true := by rw [List.any_cons, decide_eq_true c]; rfl
          rw [List.filter_cons_of_pos (by exact y1), List.filter_cons_of_pos (by exact decide_eq_true c), List.filter_cons_of_neg (by rw [n]; decide), List.length_cons, List.length_cons, ih]
          omega
        · have c' : decide (f p = x.1) = false := decide_eq_false c
          by_cases n : (L.any fun y => decide (f p = y.1)) = true
          · have y1 : ((x :: L).any fun x => decide (f p = x.1)) = true := by rw [List.any_cons, n, Bool.or_true]
            rw [List.filter_cons_of_pos (by exact y1), List.filter_cons_of_neg (by rw [c']; decide), List.filter_cons_of_pos (by exact n), List.length_cons, List.length_cons, ih]
            omega
          · have y1 : ¬ ((x :: L).any fun x => decide (f p = x.1)) = true := by rw [List.any_cons, c', Bool.false_or]; exact n
            rw [List.filter_cons_of_neg (by exact y1), List.filter_cons_of_neg (by rw [c']; decide), List.filter_cons_of_neg (by exact n), ih]
    rw [key P, Int.natCast_add]
theorem sumF_congr {f h : Tr → Int} : ∀ {L : List Tr}, (∀ x ∈ L, f x = h x) → sumF f L = sumF h L
  | [], _ => rfl
  | x :: L, q => by
    show f x + sumF f L = h x + sumF h L
    rw [q x List.mem_cons_self, sumF_congr fun y hy => q y (List.mem_cons_of_mem _ hy)]
/-- all pairs below k whose difference lies in the window -/
theorem count_all {a b C D s1 s2 : Int} {L : List Tr} (hc : Cop a b) (ha : 0 < a) (hb : 0 < b) (hC : 0 < C) (h : IsF a b C D s1 s2 L) (k : Nat) :
    (((pairs k).filter fun p => decide (-s1 ≤ D + C * (p.1 * a - p.2 * b)) && decide (D + C * (p.1 * a - p.2 * b) ≤ s2)).length : Int) = sumF (fun x => few a b k x.2.1 x.2.2) L := by
  have e : (pairs k).filter (fun p => decide (-s1 ≤ D + C * (p.1 * a - p.2 * b)) && decide (D + C * (p.1 * a - p.2 * b) ≤ s2)) = (pairs k).filter fun p => L.any fun x => decide (D + C * (p.1 * a - p.2 * b) = x.1) := by
    refine List.filter_congr fun p _ => ?_
    rw [Bool.eq_iff_iff, Bool.and_eq_true, decide_eq_true_eq, decide_eq_true_eq, List.any_eq_true]
    constructor
    · rintro ⟨h1, h2⟩
      obtain ⟨x, hx, e⟩ := h.all _ h1 h2
      exact ⟨x, hx, decide_eq_true e.symm⟩
    · rintro ⟨x, hx, e⟩
      obtain ⟨w1, w2, _⟩ := h.ok x hx
      have := of_decide_eq_true e
      omega
  rw [e]
  refine (split_count (f := fun (p : Int × Int) => D + C * (p.1 * a - p.2 * b)) h.asc).trans ?_
  refine sumF_congr fun x hx => ?_
  obtain ⟨_, _, m, em, P⟩ := h.ok x hx
  rw [← fam_count hc ha hb P k]
  congr 2
  refine List.filter_congr fun p _ => ?_
  rw [Bool.eq_iff_iff, decide_eq_true_eq, decide_eq_true_eq, em]
  constructor
  · intro q
    exact Int.eq_of_mul_eq_mul_left (show C ≠ 0 by omega) (by omega)
  · intro q
    rw [q]
end K74

set_option Elab.async false
set_option linter.all false
set_option maxRecDepth 100000
set_option maxHeartbeats 4000000
namespace K74
open PySem PySem.Spec PyProof.Rows L2 Mn
theorem cdiv_ok {i j : Int} (h1 : 0 < j) (h2 : j < 1073741824) : cDiv i j = true := by unfold cDiv; simp [h1, h2]
theorem cmod_ok {i j : Int} (h1 : 0 < j) : cMod i j = true := by unfold cMod; simp [h1]
theorem cmul_r {i j : Int} (h : j.natAbs < 2 ^ 64) : cMul i j = true := by unfold cMul; simp only [Bool.or_eq_true, decide_eq_true_eq]; exact .inr (.inl h)
theorem cmul_l {i j : Int} (h : i.natAbs < 2 ^ 64) : cMul i j = true := by unfold cMul; simp only [Bool.or_eq_true, decide_eq_true_eq]; exact .inl h
def famT (d i j b a : Int) : D := .tup [.int d, .int i, .int j, .int b, .int a]
def lst0 (m a b : Int) : Int := if 1 < -((-m - b) / a) then -((-m - b) / a) else 1
def fst0 (m a b inv : Int) : Int := lst0 m a b + (m * inv % b - lst0 m a b) % b
section
variable {c1 p1 s1 c2 p2 s2 C a b inv : Int}
/-- what is known of two rows -/
structure Rows (c1 p1 s1 c2 p2 s2 C a b inv : Int) : Prop where
  g : ((Nat.gcd p1.natAbs p2.natAbs : Nat) : Int) = C
  a_ : p1 / C = a
  b_ : p2 / C = b
  C0 : 0 < C
  C1 : C < 1073741824
  a0 : 0 < a
  a1 : a < 1073741824
  b0 : 0 < b
  b1 : b < 1073741824
  pa : p1 = C * a
  pb : p2 = C * b
  i0 : inv.natAbs < 2 ^ 64
  iv : ∀ g, pureF m_inverse_of [.int a, .int b] g = .ok (.int inv) g
  cop : ∃ q, a * inv - 1 = b * q
theorem fam_run (R : Rows c1 p1 s1 c2 p2 s2 C a b inv) (d : Int) (g : G) : m_family_of [fx c1 p1 s1, fx c2 p2 s2, .int d] g =
    .ok (famT d (fst0 ((d - c1 + c2) / C) a b inv) ((fst0 ((d - c1 + c2) / C) a b inv * a - (d - c1 + c2) / C) / b) b a) g := by
  have z1 : a.natAbs < 2 ^ 64 := by have := R.a0; have := R.a1; omega
  simp [m_family_of, fx, R.g, R.a_, R.b_, R.iv, cdiv_ok R.C0 R.C1, cdiv_ok R.a0 R.a1, cdiv_ok R.b0 R.b1, cmod_ok R.b0, cmul_r R.i0, cmul_r z1, limS, famT, fst0, lst0]
theorem lst0_ge1 {m a b : Int} : 1 ≤ lst0 m a b := by unfold lst0; split <;> omega
theorem ceil_ge {x a : Int} (ha : 0 < a) : x ≤ -((-x) / a) * a := by
  have := Int.ediv_mul_le (-x) (show a ≠ 0 by omega)
  rw [Int.neg_mul]; omega
theorem ceil_lt {x a : Int} (ha : 0 < a) : (-((-x) / a) - 1) * a < x := by
  have := Int.lt_ediv_add_one_mul_self (-x) ha
  have e : (-((-x) / a) - 1) * a = -(((-x) / a + 1) * a) := by rw [← Int.neg_mul]; congr 1; omega
  rw [e]; omega
theorem lst0_ge {m a b : Int} (ha : 0 < a) : m + b ≤ lst0 m a b * a := by
  have c := ceil_ge (x := m + b) ha
  have e : -m - b = -(m + b) := by omega
  unfold lst0
  rw [e]
  split
  · exact c
  · have : -(-(m + b) / a) ≤ 1 := by omega
    have := Int.mul_le_mul_of_nonneg_right this (Int.le_of_lt ha)
    omega
theorem lst0_min {m a b : Int} (ha : 0 < a) : lst0 m a b = 1 ∨ (lst0 m a b - 1) * a < m + b := by
  have c := ceil_lt (x := m + b) ha
  have e : -m - b = -(m + b) := by omega
  unfold lst0
  rw [e]
  split
  · exact .inr c
  · exact .inl rfl
theorem minp_of {m : Int} (ha : 0 < a) (hb : 0 < b) (hq : ∃ q, a * inv - 1 = b * q) : MinP a b m (fst0 m a b inv) ((fst0 m a b inv * a - m) / b) := by
  obtain ⟨q, hq⟩ := hq
  have l1 := lst0_ge1 (m := m) (a := a) (b := b)
  have l2 := lst0_ge (m := m) (b := b) ha
  have l3 := lst0_min (m := m) (b := b) ha
  have r0 := Int.emod_nonneg (m * inv % b - lst0 m a b) (show b ≠ 0 by omega)
  have r1 := Int.emod_lt_of_pos (m * inv % b - lst0 m a b) hb
  have e1 := Int.emod_add_mul_ediv (m * inv % b - lst0 m a b) b
  have e2 := Int.emod_add_mul_ediv (m * inv) b
  unfold fst0
  generalize lst0 m a b = l at *
  generalize (m * inv % b - l) % b = x at *
  generalize (m * inv % b - l) / b = u at *
  generalize m * inv % b = y at *
  generalize m * inv / b = v at *
  have ej : (l + x) * a - m = b * (m * q - (v + u) * a) := by grind
  rw [ej, Int.mul_ediv_cancel_left _ (show b ≠ 0 by omega)]
  generalize hJ : m * q - (v + u) * a = J at *
  have h1 : l * a ≤ (l + x) * a := Int.mul_le_mul_of_nonneg_right (by omega) (by omega)
  have J1 : 1 ≤ J := by
    have : b * 1 ≤ b * J := by omega
    exact Int.le_of_mul_le_mul_left this hb
  refine ⟨by omega, J1, by grind, ?_⟩
  rcases l3 with l3 | l3
  · exact .inl (by omega)
  · right
    have h2 : (l + x - b) * a ≤ (l - 1) * a := Int.mul_le_mul_of_nonneg_right (by omega) (by omega)
    have h3 : b * (J - a) < b * 1 := by
      have : b * (J - a) = (l + x - b) * a - m := by grind
      omega
    have := Int.lt_of_mul_lt_mul_left h3 (by omega)
    omega
/-! ### the families, as the program tells them -/
def famL (c1 c2 C a b inv i j : Int) : List Tr := (rngZ i j C).map fun d => (d, fst0 ((d - c1 + c2) / C) a b inv, (fst0 ((d - c1 + c2) / C) a b inv * a - (d - c1 + c2) / C) / b)
def famD (a b : Int) (L : List Tr) : List D := L.map fun x => famT x.1 x.2.1 x.2.2 b a
abbrev start1 (c1 s1 c2 C : Int) : Int := -s1 + (c1 - c2 + s1) % C
theorem fam_isF (R : Rows c1 p1 s1 c2 p2 s2 C a b inv) : IsF a b C (c1 - c2) s1 s2 (famL c1 c2 C a b inv (start1 c1 s1 c2 C) (s2 + 1)) := by
  have hC := R.C0
  have m0 := Int.emod_nonneg (c1 - c2 + s1) (show C ≠ 0 by omega)
  have m1 := Int.emod_lt_of_pos (c1 - c2 + s1) hC
  have me := Int.emod_add_mul_ediv (c1 - c2 + s1) C
  refine ⟨?_, fun x hx => ?_, fun m h1 h2 => ?_⟩
  · unfold famL
    rw [List.pairwise_map]
    exact rngZ_asc hC
  · obtain ⟨d, hd, e⟩ := List.mem_map.mp hx
    obtain ⟨g1, g2, t, g3⟩ := (mem_rngZ hC).mp hd
    have ed : d - c1 + c2 = C * (t - (c1 - c2 + s1) / C) := by grind
    have em : (d - c1 + c2) / C = t - (c1 - c2 + s1) / C := by rw [ed, Int.mul_ediv_cancel_left _ (show C ≠ 0 by omega)]
    subst e
    have es : start1 c1 s1 c2 C = -s1 + (c1 - c2 + s1) % C := rfl
    refine ⟨by show -s1 ≤ d; omega, by show d ≤ s2; omega, (d - c1 + c2) / C, ?_, minp_of R.a0 R.b0 R.cop⟩
    show d = _
    rw [em]
    omega
  · refine ⟨_, List.mem_map.mpr ⟨c1 - c2 + C * m, (mem_rngZ hC).mpr ⟨?_, by omega, m + (c1 - c2 + s1) / C, by grind⟩, rfl⟩, rfl⟩
    have z : c1 - c2 + C * m = start1 c1 s1 c2 C + C * (m + (c1 - c2 + s1) / C) := by grind
    have y : 0 ≤ m + (c1 - c2 + s1) / C := by
      have : C * (-1) < C * (m + (c1 - c2 + s1) / C) := by unfold start1 at z; omega
      have := Int.lt_of_mul_lt_mul_left this (by omega)
      omega
    have := Int.mul_nonneg (show 0 ≤ C by omega) y
    omega
theorem fams_run (R : Rows c1 p1 s1 c2 p2 s2 C a b inv) (hs1 : 0 ≤ s1) (hs2 : 0 ≤ s2) (hs : s1 + s2 ≤ 2000) (g : G) : m_families_of [fx c1 p1 s1, fx c2 p2 s2] g =
    .ok (.fl (famD a b (famL c1 c2 C a b inv (start1 c1 s1 c2 C) (s2 + 1)))) g := by
  have m0 := Int.emod_nonneg (c1 - c2 + s1) (show C ≠ 0 by have := R.C0; omega)
  have m1 := Int.emod_lt_of_pos (c1 - c2 + s1) R.C0
  have hC1 := R.C1
  have st0 : -(2 ^ 62) ≤ start1 c1 s1 c2 C := by unfold start1; omega
  have st1 : start1 c1 s1 c2 C < 2 ^ 62 := by unfold start1; omega
  have eR := rngA3_ok (i := start1 c1 s1 c2 C) (j := s2 + 1) R.C0 R.C1 st0 st1 (by omega) (by omega)
  have hl : (rngC (start1 c1 s1 c2 C) (s2 + 1) C).length ≤ LIM := by
    rw [rngC_Z, List.length_map]
    have := rngZ_len (i := start1 c1 s1 c2 C) (j := s2 + 1) R.C0
    have : LIM = 1000000 := rfl
    split at * <;> unfold start1 at * <;> omega
  have hp : ∀ d : Int, pureF m_family_of [fx c1 p1 s1, fx c2 p2 s2, .int d] g = .ok (famT d (fst0 ((d - c1 + c2) / C) a b inv) ((fst0 ((d - c1 + c2) / C) a b inv * a - (d - c1 + c2) / C) / b) b a) g :=
    fun d => pureF_ok rfl (fam_run R d []) rfl
  unfold start1 at eR hl
  have eL := lcN_all (g := g) (l := rngC (-s1 + (c1 - c2 + s1) % C) (s2 + 1) C) (pt := .nm 5) (t := yesT) (vs := [5]) (ρ := [some (fx c1 p1 s1), some (fx c2 p2 s2), some (.int C), some (.int (-s1)), some (.int (-s1 + (c1 - c2 + s1) % C)), none])
    (e := callM 3 (pureF m_family_of) (consA (varM 0) (consA (varM 1) (consA (varM 5) nilA))))
    (f := fun d => match d with
      | .int d => famT d (fst0 ((d - c1 + c2) / C) a b inv) ((fst0 ((d - c1 + c2) / C) a b inv * a - (d - c1 + c2) / C) / b) b a
      | _ => .non) (fun d hd => by
        rw [rngC_Z] at hd
        obtain ⟨z, _, e⟩ := List.mem_map.mp hd
        subst e
        exact ⟨_, rfl, rfl, by simp [hp z]⟩) hl
  unfold fx at eL
  simp [m_families_of, fx, R.g, cmod_ok R.C0, eR, eL, e_finL, hl]
  unfold famD famL
  rw [rngC_Z, List.map_map, List.map_map]
  rfl
end
end K74

set_option Elab.async false
set_option linter.all false
set_option maxRecDepth 100000
set_option maxHeartbeats 4000000
namespace K74
open PySem PySem.Spec PyProof.Rows L2 Mn
@[simp] theorem e_try {sub : Str → Str → Option Bool} {b : SM} {hs : List ClM} {ρ : Rho} {g : G} : tryM sub b hs ρ g = match b ρ g with
  | .exc c fs ρ' g' => pickC sub c fs ρ' g' hs
  | r => r := by unfold tryM; cases b ρ g <;> rfl
@[simp] theorem e_eqI {neg : Bool} {g : G} {z y : Int} : eqD neg g (.int z) (.int y) = some (.v (.bl (xor neg (z == y)))) := rfl
theorem check_nat (c p s : Nat) (g : G) : pureF m_check_beats [fx c ((p + 1 : Nat) : Int) s] g = .ok (fx c ((p + 1 : Nat) : Int) s) g := by kernel_rfl
theorem check_natl (c p s : Nat) (g : G) : pureF m_check_beats [fxl c ((p + 1 : Nat) : Int) s] g = .ok (fx c ((p + 1 : Nat) : Int) s) g := by kernel_rfl
theorem num_nat (k : Nat) (g : G) : pureF m_check_number [.int k, .int 0] g = .ok (.int k) g := by kernel_rfl
theorem fixed_ok (c p s c' p' s' : Int) (g : G) : pureF m_are_fixed [fx c p s, fx c' p' s'] g = .ok (.bl true) g := by kernel_rfl
theorem narrow_is (c p s c' p' s' : Int) (g : G) : pureF m_are_narrow [fx c p s, fx c' p' s'] g = .ok (.bl (decide (s + s' ≤ 2000))) g := by kernel_rfl
/-- a row of beats, as a tuple or a list -/
def Bt (x : D) (c p s : Int) : Prop := (x = fx c p s ∨ x = fxl c p s) ∧ 0 ≤ c ∧ 1 ≤ p ∧ 0 ≤ s
theorem Bt.pure {x : D} {c p s : Int} (h : Bt x c p s) : pureD x = true := by rcases h.1 with e | e <;> subst e <;> rfl
theorem Bt.check {x : D} {c p s : Int} (h : Bt x c p s) (g : G) : pureF m_check_beats [x] g = .ok (fx c p s) g := by
  obtain ⟨h0, h1, h2, h3⟩ := h
  obtain ⟨c, rfl⟩ := Int.eq_ofNat_of_zero_le h1
  obtain ⟨s, rfl⟩ := Int.eq_ofNat_of_zero_le h3
  obtain ⟨q, hq⟩ := Int.eq_ofNat_of_zero_le (show 0 ≤ p - 1 by omega)
  obtain rfl : p = ((q + 1 : Nat) : Int) := by omega
  rcases h0 with e | e <;> subst e
  · exact check_nat c q s g
  · exact check_natl c q s g
theorem num_ok {k : Int} (h : 0 ≤ k) (g : G) : pureF m_check_number [.int k, .int 0] g = .ok (.int k) g := by
  obtain ⟨n, rfl⟩ := Int.eq_ofNat_of_zero_le h
  exact num_nat n g
theorem famT_pure (d i j b a : Int) : pureD (famT d i j b a) = true := rfl
theorem famD_pure (a b : Int) (L : List Tr) : pureDs (famD a b L) = true := pureDs_map fun x _ => famT_pure _ _ _ _ _
section
variable {x y : D} {c1 p1 s1 c2 p2 s2 C a b inv k : Int}
abbrev LL (c1 s1 c2 s2 C a b inv : Int) : List Tr := famL c1 c2 C a b inv (start1 c1 s1 c2 C) (s2 + 1)
theorem famsP (R : Rows c1 p1 s1 c2 p2 s2 C a b inv) (hs1 : 0 ≤ s1) (hs2 : 0 ≤ s2) (hs : s1 + s2 ≤ 2000) (g : G) : pureF m_families_of [fx c1 p1 s1, fx c2 p2 s2] g = .ok (.fl (famD a b (LL c1 s1 c2 s2 C a b inv))) g :=
  pureF_ok rfl (fams_run R hs1 hs2 hs []) (by show pureDs _ = true; exact famD_pure _ _ _)
theorem met_run (hx : Bt x c1 p1 s1) (hy : Bt y c2 p2 s2) (R : Rows c1 p1 s1 c2 p2 s2 C a b inv) (hs : s1 + s2 ≤ 2000) (g : G) : pureF m_met_families [x, y] g = .ok (.tup (famD a b (LL c1 s1 c2 s2 C a b inv))) g := by
  refine pureF_ok (g' := []) (by unfold pureDs; rw [hx.pure]; unfold pureDs; rw [hy.pure]; rfl) ?_ (by show pureDs _ = true; exact famD_pure _ _ _)
  simp [m_met_families, hx.check, hy.check, fixed_ok, narrow_is, hs, famsP R hx.2.2.2 hy.2.2.2 hs]
theorem ever_run (hx : Bt x c1 p1 s1) (hy : Bt y c2 p2 s2) (R : Rows c1 p1 s1 c2 p2 s2 C a b inv) (g : G) : pureF m_ever_meet [x, y] g = .ok (.bl (decide ((c1 - c2) % C ≤ s2) || decide (C - (c1 - c2) % C ≤ s1))) g := by
  refine pureF_ok (g' := []) (by unfold pureDs; rw [hx.pure]; unfold pureDs; rw [hy.pure]; rfl) ?_ rfl
  by_cases q : (c1 - c2) % C ≤ s2
  · simp [m_ever_meet, hx.check, hy.check, fixed_ok, fx, R.g, cmod_ok R.C0, q]
    have := fixed_ok c1 p1 s1 c2 p2 s2 []
    unfold fx at this
    simp [this, R.g, cmod_ok R.C0, q]
  · have := fixed_ok c1 p1 s1 c2 p2 s2 []
    unfold fx at this
    simp [m_ever_meet, hx.check, hy.check, fx, this, R.g, cmod_ok R.C0, q]
end
end K74

set_option Elab.async false
set_option linter.all false
set_option maxRecDepth 100000
set_option maxHeartbeats 4000000
namespace K74
open PySem PySem.Spec PyProof.Rows L2 Mn
def mn2 (u v : Int) : Int := if v < u then v else u
def mx2 (u v : Int) : Int := if u < v then v else u
theorem e_max2 {g : G} {z y : Int} : maxC g [.int z, .int y] = some (.v (.int (mx2 z y))) := by unfold maxC; rw [e_top2]; unfold mx2; simp
theorem e_min2 {g : G} {z y : Int} : minC g [.int z, .int y] = some (.v (.int (mn2 z y))) := by unfold minC; rw [e_top2]; unfold mn2; simp
theorem few_is {a b k i j : Int} : mx2 0 (1 + mn2 ((k - i) / b) ((k - j) / a)) = few a b k i j := by
  unfold mx2 mn2 few
  generalize (k - i) / b = u
  generalize (k - j) / a = v
  split <;> split at * <;> omega
abbrev fiveT (n : Nat) : Pt := .tp [.nm n, .nm (n + 1), .nm (n + 2), .nm (n + 3), .nm (n + 4)]
section
variable {x y X : D} {c1 p1 s1 c2 p2 s2 C a b inv k : Int} {g : G}
theorem within_loop (ha : 0 < a) (ha1 : a < 1073741824) (hb : 0 < b) (hb1 : b < 1073741824) : ∀ (L : List Tr) (t : Int) (r3 r4 r5 r6 r7 : Option D), ∃ q3 q4 q5 q6 q7,
    forD (.tp [.nm 3, .nm 4, .nm 5, .nm 6, .nm 7]) (setM 2 (binM false addD (varM 2) (calM false maxC (consA (cM (.int 0)) (consA (binM false addD (cM (.int 1)) (calM false minC (consA (binM false divD (binM false subD (varM 1) (varM 4)) (varM 6)) (consA (binM false divD (binM false subD (varM 1) (varM 5)) (varM 7)) (nilA))))) (nilA))))))
      (famD a b L) [some X, some (.int k), some (.int t), r3, r4, r5, r6, r7] g = .ok (.nx [some X, some (.int k), some (.int (t + sumF (fun x => few a b k x.2.1 x.2.2) L)), q3, q4, q5, q6, q7]) g
  | [], t, r3, r4, r5, r6, r7 => ⟨r3, r4, r5, r6, r7, by unfold sumF; simp [famD]⟩
  | x :: L, t, r3, r4, r5, r6, r7 => by
    obtain ⟨q3, q4, q5, q6, q7, e⟩ := within_loop ha ha1 hb hb1 L (t + few a b k x.2.1 x.2.2) (some (.int x.1)) (some (.int x.2.1)) (some (.int x.2.2)) (some (.int b)) (some (.int a))
    refine ⟨q3, q4, q5, q6, q7, ?_⟩
    have ef : sumF (fun x => few a b k x.2.1 x.2.2) (x :: L) = few a b k x.2.1 x.2.2 + sumF (fun x => few a b k x.2.1 x.2.2) L := rfl
    rw [ef, ← Int.add_assoc, ← e, ← few_is]
    show forD _ _ (famT x.1 x.2.1 x.2.2 b a :: famD a b L) _ _ = _
    rw [e_for]
    simp [famT, cdiv_ok ha ha1, cdiv_ok hb hb1, e_max2, e_min2, -e_top2]
theorem within_run (ha : 0 < a) (ha1 : a < 1073741824) (hb : 0 < b) (hb1 : b < 1073741824) (L : List Tr) (g : G) : pureF m_pairs_within [.fl (famD a b L), .int k] g = .ok (.int (sumF (fun x => few a b k x.2.1 x.2.2) L)) g := by
  refine pureF_ok (g' := []) (by show (pureDs (famD a b L) && _) = true; rw [famD_pure]; rfl) ?_ rfl
  obtain ⟨q3, q4, q5, q6, q7, e⟩ := within_loop (X := .fl (famD a b L)) (k := k) (g := []) ha ha1 hb hb1 L 0 none none none none none
  simp [m_pairs_within, e]
theorem many_loop (ha : 0 < a) (ha1 : a < 1073741824) (hb : 0 < b) (hb1 : b < 1073741824) : ∀ (L : List Tr) (t : Int) (r3 r4 r5 r6 r7 : Option D), ∃ q3 q4 q5 q6 q7,
    forD (.tp [.nm 3, .nm 4, .nm 5, .nm 6, .nm 7]) (ifM (andM (tst (binM false (leD) (varM 4) (varM 1))) (tst (binM false (leD) (varM 5) (varM 1)))) (setM 2 (binM false addD (binM false addD (varM 2) (cM (.int 1))) (calM false minC (consA (binM false divD (binM false subD (varM 1) (varM 4)) (calM false maxC (consA (cM (.int 1)) (consA (varM 6) (nilA))))) (consA (binM false divD (binM false subD (varM 1) (varM 5)) (calM false maxC (consA (cM (.int 1)) (consA (varM 7) (nilA))))) (nilA)))))) (nxM))
      (famD a b L) [some X, some (.int k), some (.int t), r3, r4, r5, r6, r7] g = .ok (.nx [some X, some (.int k), some (.int (t + sumF (fun x => few a b k x.2.1 x.2.2) L)), q3, q4, q5, q6, q7]) g
  | [], t, r3, r4, r5, r6, r7 => ⟨r3, r4, r5, r6, r7, by unfold sumF; simp [famD]⟩
  | x :: L, t, r3, r4, r5, r6, r7 => by
    obtain ⟨q3, q4, q5, q6, q7, e⟩ := many_loop ha ha1 hb hb1 L (t + few a b k x.2.1 x.2.2) (some (.int x.1)) (some (.int x.2.1)) (some (.int x.2.2)) (some (.int b)) (some (.int a))
    refine ⟨q3, q4, q5, q6, q7, ?_⟩
    have ef : sumF (fun x => few a b k x.2.1 x.2.2) (x :: L) = few a b k x.2.1 x.2.2 + sumF (fun x => few a b k x.2.1 x.2.2) L := rfl
    have m1 : (if 1 < b then b else 1) = b := by split <;> omega
    have m2 : (if 1 < a then a else 1) = a := by split <;> omega
    rw [ef, ← Int.add_assoc, ← e]
    show forD _ _ (famT x.1 x.2.1 x.2.2 b a :: famD a b L) _ _ = _
    rw [e_for]
    by_cases c1 : x.2.1 ≤ k
    · by_cases c2 : x.2.2 ≤ k
      · have w1 : 0 ≤ (k - x.2.1) / b := Int.ediv_nonneg (by omega) (by omega)
        have w2 : 0 ≤ (k - x.2.2) / a := Int.ediv_nonneg (by omega) (by omega)
        have ew : few a b k x.2.1 x.2.2 = 1 + if (k - x.2.2) / a < (k - x.2.1) / b then (k - x.2.2) / a else (k - x.2.1) / b := by
          unfold few; split <;> omega
        rw [ew]
        simp [famT, m1, m2, cdiv_ok ha ha1, cdiv_ok hb hb1, c1, c2, Int.add_assoc]
      · have w : (k - x.2.2) / a < 0 := Int.ediv_neg_of_neg_of_pos (by omega) ha
        have ew : few a b k x.2.1 x.2.2 = 0 := by unfold few; omega
        rw [ew]
        simp [famT, c1, c2]
    · have w : (k - x.2.1) / b < 0 := Int.ediv_neg_of_neg_of_pos (by omega) hb
      have ew : few a b k x.2.1 x.2.2 = 0 := by unfold few; omega
      rw [ew]
      simp [famT, c1]
theorem many_run (ha : 0 < a) (ha1 : a < 1073741824) (hb : 0 < b) (hb1 : b < 1073741824) (L : List Tr) (g : G) : pureF m__law_many [.tup (famD a b L), .int k] g = .ok (.int (sumF (fun x => few a b k x.2.1 x.2.2) L)) g := by
  refine pureF_ok (g' := []) (by show (pureDs (famD a b L) && _) = true; rw [famD_pure]; rfl) ?_ rfl
  obtain ⟨q3, q4, q5, q6, q7, e⟩ := many_loop (X := .tup (famD a b L)) (k := k) (g := []) ha ha1 hb hb1 L 0 none none none none none
  simp [m__law_many, e]
theorem number_run (hx : Bt x c1 p1 s1) (hy : Bt y c2 p2 s2) (R : Rows c1 p1 s1 c2 p2 s2 C a b inv) (hs : s1 + s2 ≤ 2000) (hk : 0 ≤ k) (g : G) :
    pureF m_met_number [x, y, .int k] g = .ok (.int (sumF (fun x => few a b k x.2.1 x.2.2) (LL c1 s1 c2 s2 C a b inv))) g := by
  refine pureF_ok (g' := []) (by unfold pureDs; rw [hx.pure]; unfold pureDs; rw [hy.pure]; rfl) ?_ rfl
  simp [m_met_number, hx.check, hy.check, num_ok hk, fixed_ok, narrow_is, hs, famsP R hx.2.2.2 hy.2.2.2 hs, within_run R.a0 R.a1 R.b0 R.b1]
/-! ### the first -/
def mxT (x : Tr) : Int := if x.2.1 < x.2.2 then x.2.2 else x.2.1
def firstD (L : List Tr) : D := match minI (L.map mxT) with
  | some m => .int m
  | none => .non
theorem maxes (a b : Int) (n : Nat) (ρ : Rho) (g : G) (hn : n < ρ.length) (hρ : ∀ d, (ρ.set n (some d))[n]? = some (some d)) {L : List Tr} (hl : L.length ≤ LIM) :
    lcN (fun i _ => some (famD a b L)[i]?) (.nm n) yesT (calM false maxC (consA (binM false ixD (varM n) (cM (.int 1))) (consA (binM false ixD (varM n) (cM (.int 2))) (nilA)))) [n] LK 0 ρ g = .ok ((L.map mxT).map D.int) g := by
  have e := lcN_all (g := g) (l := famD a b L) (pt := .nm n) (t := yesT) (vs := [n]) (ρ := ρ) (e := calM false maxC (consA (binM false ixD (varM n) (cM (.int 1))) (consA (binM false ixD (varM n) (cM (.int 2))) (nilA))))
    (f := fun d => match d with
      | .tup [_, .int i, .int j, _, _] => .int (if i < j then j else i)
      | _ => .non) (fun d hd => by
        obtain ⟨z, _, e⟩ := List.mem_map.mp hd
        subst e
        refine ⟨(ρ.set n none).set n (some (famT z.1 z.2.1 z.2.2 b a)), by simp, rfl, ?_⟩
        have e1 := hρ (famT z.1 z.2.1 z.2.2 b a)
        unfold famT at e1
        simp [famT, e1]) (by unfold famD; rw [List.length_map]; exact hl)
  rw [e]
  unfold famD
  rw [List.map_map, List.map_map]
  rfl
theorem intsOf_map : ∀ l : List Int, intsOf (l.map D.int) = some l
  | [] => rfl
  | n :: l => by
    have ih := intsOf_map l
    rw [List.map_cons]
    unfold intsOf
    rw [ih]
    rfl
theorem e_minF {g : G} {l : List Int} {m : Int} (h : minI l = some m) : minC g [.fl (l.map D.int)] = some (.v (.int m)) := by
  show ((lisOf g (.fl (l.map D.int))).bind fun l => (intsOf l).bind fun ns => (minI ns).map fun m => Nv.v (.int m)) = _
  show ((intsOf (l.map D.int)).bind fun ns => (minI ns).map fun m => Nv.v (.int m)) = _
  rw [intsOf_map]
  show (minI l).map _ = _
  rw [h]; rfl
theorem firstF_run {L : List Tr} (hl : L.length ≤ LIM) (g : G) : pureF m_first_of_families [.fl (famD a b L)] g = .ok (firstD L) g := by
  refine pureF_ok (g' := []) (by show (pureDs (famD a b L) && _) = true; rw [famD_pure]; rfl) ?_ (by unfold firstD; split <;> rfl)
  cases L with
  | nil => simp [m_first_of_families, famD]; rfl
  | cons x L =>
    obtain ⟨m, hm⟩ : ∃ m, minI ((x :: L).map mxT) = some m := ⟨_, rfl⟩
    have em := maxes a b 1 [some (.fl (famD a b (x :: L))), none] [] (by simp) (fun d => rfl) hl
    have e1 : ((((famD a b (x :: L)).length : Nat) : Int) == 0) = false := by
      unfold famD
      rw [List.length_map, List.length_cons]
      exact beq_eq_false_iff_ne.mpr (by omega)
    have hl2 : ((x :: L).map mxT).length ≤ LIM := by rw [List.length_map]; exact hl
    have ef : firstD (x :: L) = .int m := by unfold firstD; rw [hm]
    rw [ef]
    generalize (x :: L).map mxT = ms at *
    generalize famD a b (x :: L) = F at *
    have em2 := e_minF (g := []) hm
    have e3 : finL false (.ok (ms.map D.int) ([] : G)) = .ok (.fl (ms.map D.int)) [] := e_finL (o := false) (by rw [List.length_map]; exact hl2)
    simp [m_first_of_families, e1, em, e3, em2]
theorem firstM_run (hx : Bt x c1 p1 s1) (hy : Bt y c2 p2 s2) (R : Rows c1 p1 s1 c2 p2 s2 C a b inv) (hs : s1 + s2 ≤ 2000) (g : G) (hl : (LL c1 s1 c2 s2 C a b inv).length ≤ LIM) : pureF m_first_met [x, y] g = .ok (firstD (LL c1 s1 c2 s2 C a b inv)) g := by
  refine pureF_ok (g' := []) (by unfold pureDs; rw [hx.pure]; unfold pureDs; rw [hy.pure]; rfl) ?_ (by unfold firstD; split <;> rfl)
  simp [m_first_met, hx.check, hy.check, fixed_ok, narrow_is, hs, famsP R hx.2.2.2 hy.2.2.2 hs, firstF_run hl]
end
end K74

set_option Elab.async false
set_option linter.all false
set_option maxRecDepth 100000
set_option maxHeartbeats 4000000
namespace K74
open PySem PySem.Spec PyProof.Rows L2 Mn
/-! ### the hand -/
def handO (at_ : Int) : O := .dct [(.inr "row", .obj 0), (.inr "at", .int at_)]
structure HandOk (g : G) : Prop where
  ex : ∃ (row : List Int) (at_ : Int), g[0]? = some (.lst (row.map D.int)) ∧ g[1]? = some (handO at_) ∧ 0 ≤ at_ ∧ row.length ≤ 1000 ∧ ∀ x ∈ row, 0 ≤ x
theorem HandOk.app {g : G} (h : HandOk g) (l : G) : HandOk (g ++ l) := by
  obtain ⟨row, at_, h0, h1, h2⟩ := h.ex
  have l0 := (List.getElem?_eq_some_iff.mp h0).1
  have l1 := (List.getElem?_eq_some_iff.mp h1).1
  exact ⟨row, at_, by rw [List.getElem?_append_left l0]; exact h0, by rw [List.getElem?_append_left l1]; exact h1, h2⟩
theorem HandOk.two {g : G} (h : HandOk g) : 2 ≤ g.length := by
  obtain ⟨row, at_, h0, h1, h2⟩ := h.ex
  exact (List.getElem?_eq_some_iff.mp h1).1
theorem ix_at {g : G} {z : Int} (h : g[1]? = some (handO z)) : ixD g (.obj 1) (.str "at") = some (.v (.int z)) := by
  have e : dctAt g 1 = some [(.inr "row", .obj 0), (.inr "at", .int z)] := by unfold dctAt; rw [h]; rfl
  show (match dctAt g 1 with
    | some kvs => (keyOf (.str "at")).bind fun k => (getK kvs k).map Nv.v
    | none => _) = _
  rw [e]; rfl
theorem ix_row {g : G} {z : Int} (h : g[1]? = some (handO z)) : ixD g (.obj 1) (.str "row") = some (.v (.obj 0)) := by
  have e : dctAt g 1 = some [(.inr "row", .obj 0), (.inr "at", .int z)] := by unfold dctAt; rw [h]; rfl
  show (match dctAt g 1 with
    | some kvs => (keyOf (.str "row")).bind fun k => (getK kvs k).map Nv.v
    | none => _) = _
  rw [e]; rfl
theorem draw2 {g : G} (h : HandOk g) {many : Int} (hm : 0 < many) : ∃ v g', m__law_draw [.obj 1, .int many] g = .ok (.int v) g' ∧ HandOk g' ∧ 0 ≤ v ∧ v < many ∧ ∀ n, n ≠ 1 → g'[n]? = g[n]? := by
  obtain ⟨row, z, h0, h1, h2, h4, h3⟩ := h.ex
  have l1 := (List.getElem?_eq_some_iff.mp h1).1
  have g0 : (g.set 1 (handO (z + 1)))[0]? = some (.lst (row.map D.int)) := by rw [List.getElem?_set_ne (by decide)]; exact h0
  have g1 : (g.set 1 (handO (z + 1)))[1]? = some (handO (z + 1)) := by rw [List.getElem?_set_self l1]
  have hk : HandOk (g.set 1 (handO (z + 1))) := ⟨row, z + 1, g0, g1, by omega, h4, h3⟩
  have e1 := ix_at h1
  have e2 := ix_row g1
  have e3 : dctAt g 1 = some [(.inr "row", .obj 0), (.inr "at", .int z)] := by unfold dctAt; rw [h1]; rfl
  have e4 : putD [((.inr "row" : Key), D.obj 0), (.inr "at", .int z)] (.inr "at") (.int (z + 1)) = [(.inr "row", .obj 0), (.inr "at", .int (z + 1))] := rfl
  have e5 : dctAt (g.set 1 (handO (z + 1))) 0 = none := by unfold dctAt; rw [g0]
  have e6 : lstAt (g.set 1 (handO (z + 1))) 0 = some (row.map D.int) := by unfold lstAt; rw [g0]
  have eput : dputM (varM 0) (cM (.str "at")) (binM false addD (varM 2) (cM (.int 1))) [some (.obj 1), some (.int many), some (.int z)] g = .ok (.nx [some (.obj 1), some (.int many), some (.int z)]) (g.set 1 (handO (z + 1))) := by
    show (bindE (binM false addD (varM 2) (cM (.int 1))) _ _ _) = _
    simp
    rw [e3]
    show (if _ < LIM then _ else _) = _
    rw [if_pos (by show 2 < 1000000; decide)]
    rfl
  have elen : lenD (g.set 1 (handO (z + 1))) [.obj 0] = some (.v (.int row.length)) := by
    show (match dctAt (g.set 1 (handO (z + 1))) 0 with
      | some l => some (Nv.v (.int l.length))
      | none => (lstAt (g.set 1 (handO (z + 1))) 0).map fun (l : List D) => Nv.v (.int l.length)) = _
    rw [e5, e6]
    simp
  have fr : ∀ n, n ≠ 1 → (g.set 1 (handO (z + 1)))[n]? = g[n]? := fun n hn => List.getElem?_set_ne (fun e => hn e.symm)
  by_cases c : (row.length : Int) ≤ z
  · refine ⟨0, _, ?_, hk, by omega, hm, fr⟩
    simp [m__law_draw, e1, eput, e2, elen, c]
  · obtain ⟨n, rfl⟩ := Int.eq_ofNat_of_zero_le h2
    have hn : n < row.length := by omega
    have eix : ixD (g.set 1 (handO ((n : Int) + 1))) (.obj 0) (.int n) = some (.v (.int row[n])) := by
      show (match dctAt (g.set 1 (handO ((n : Int) + 1))) 0 with
        | some kvs => (keyOf (.int n)).bind fun k => (getK kvs k).map Nv.v
        | none => (match lstAt (g.set 1 (handO ((n : Int) + 1))) 0, D.int n with
          | some l, .int i => (atI l i).map Nv.v
          | _, _ => none)) = _
      rw [e5, e6]
      show (atI (row.map D.int) n).map Nv.v = _
      rw [atI_nat (j := n) (v := D.int row[n]) (by rw [List.getElem?_map, List.getElem?_eq_getElem hn]; rfl)]
      rfl
    refine ⟨row[n] % many, _, ?_, hk, Int.emod_nonneg _ (by omega), Int.emod_lt_of_pos _ hm, fr⟩
    simp [m__law_draw, e1, eput, e2, elen, c, eix, cmod_ok hm]
theorem draw {g : G} (h : HandOk g) {many : Int} (hm : 0 < many) : ∃ v g', m__law_draw [.obj 1, .int many] g = .ok (.int v) g' ∧ HandOk g' ∧ 0 ≤ v ∧ v < many := by
  obtain ⟨v, g', e, k, l, u, _⟩ := draw2 h hm
  exact ⟨v, g', e, k, l, u⟩
/-! ### heard -/
section
variable {x y r : D} {k : Int}
theorem heard0 (px : pureD x = true) (py : pureD y = true) (pr : pureD r = true) (h : ∀ g, pureF m_met_families [x, y] g = .ok r g) (g : G) : pureF m__law_heard_beats [.int 0, x, y, .int k] g = .ok (.tup [.str "told", r]) g := by
  refine pureF_ok (g' := []) (by simp [pureDs, pureD, px, py]) ?_ (by show pureDs _ = true; simp [pureDs, pureD, pr])
  simp [m__law_heard_beats, h, limS]
theorem heard1 (px : pureD x = true) (py : pureD y = true) (pr : pureD r = true) (h : ∀ g, pureF m_first_met [x, y] g = .ok r g) (g : G) : pureF m__law_heard_beats [.int 1, x, y, .int k] g = .ok (.tup [.str "told", r]) g := by
  refine pureF_ok (g' := []) (by simp [pureDs, pureD, px, py]) ?_ (by show pureDs _ = true; simp [pureDs, pureD, pr])
  simp [m__law_heard_beats, h, limS]
theorem heard2 (px : pureD x = true) (py : pureD y = true) (pr : pureD r = true) (h : ∀ g, pureF m_ever_meet [x, y] g = .ok r g) (g : G) : pureF m__law_heard_beats [.int 2, x, y, .int k] g = .ok (.tup [.str "told", r]) g := by
  refine pureF_ok (g' := []) (by simp [pureDs, pureD, px, py]) ?_ (by show pureDs _ = true; simp [pureDs, pureD, pr])
  simp [m__law_heard_beats, h, limS]
theorem heard3 (px : pureD x = true) (py : pureD y = true) (pr : pureD r = true) (h : ∀ g, pureF m_met_number [x, y, .int k] g = .ok r g) (g : G) : pureF m__law_heard_beats [.int 3, x, y, .int k] g = .ok (.tup [.str "told", r]) g := by
  refine pureF_ok (g' := []) (by simp [pureDs, pureD, px, py]) ?_ (by show pureDs _ = true; simp [pureDs, pureD, pr])
  simp [m__law_heard_beats, h, limS]
end
theorem just_ok {d : D} (h : Fit d) (g : G) : pureF m__law_just [d, d] g = .ok (.bl true) g := just_same h g
end K74

set_option Elab.async false
set_option linter.all false
set_option maxRecDepth 100000
set_option maxHeartbeats 4000000
namespace K74
open PySem PySem.Spec PyProof.Rows L2 Mn
/-! ### sorted, of what comes downwards -/
theorem insS_end {α : Type} {lt : α → α → Bool} {x : α} : ∀ {l : List α}, (∀ y ∈ l, lt y x = true) → insS lt x l = l ++ [x]
  | [], _ => rfl
  | y :: l, h => by
    unfold insS
    rw [if_pos (h y List.mem_cons_self), insS_end fun z hz => h z (List.mem_cons_of_mem _ hz)]
    rfl
theorem srtS_down {α : Type} {lt : α → α → Bool} : ∀ {l : List α}, l.Pairwise (fun x y => lt y x = true) → srtS lt l = l.reverse
  | [], _ => rfl
  | x :: l, h => by
    obtain ⟨h1, h2⟩ := List.pairwise_cons.mp h
    show insS lt x (srtS lt l) = _
    rw [srtS_down h2, insS_end (fun y hy => h1 y (List.mem_reverse.mp hy)), List.reverse_cons]
theorem famT_ints (d i j b a : Int) : intsD (famT d i j b a) = some [d, i, j, b, a] := rfl
theorem lex_fam {d i j d' i' j' a b : Int} (h : d < d') : lexD (famT d i j b a) (famT d' i' j' b a) = true := by
  show (if d = d' then _ else decide (d < d')) = true
  rw [if_neg (by omega), decide_eq_true h]
theorem mapM_fam {b a : Int} {x : Tr} {L : List Tr} : (famD a b (x :: L)).mapM intOf = none := by
  unfold famD
  rw [List.map_cons, List.mapM_cons]
  rfl
theorem all_fam {a b : Int} : ∀ L : List Tr, ((famD a b L).all fun d => match intsD d with | some (_ :: _) => true | _ => false) = true
  | [] => rfl
  | x :: L => by
    show (_ && _) = true
    have := all_fam (a := a) (b := b) L
    unfold famD at this
    rw [this]; rfl
theorem sorted_fam {a b : Int} {L : List Tr} (h : L.Pairwise fun x y => y.1 < x.1) {g : G} {n : Nat} (hg : g[n]? = some (.lst (famD a b L))) : srtC g [.obj n] = some (.n (famD a b L.reverse)) := by
  have e1 : dctAt g n = none := by unfold dctAt; rw [hg]
  have e2 : lstAt g n = some (famD a b L) := by unfold lstAt; rw [hg]
  show (match dctAt g n with
    | some l => _
    | none => (lstAt g n).bind srtC.sl) = _
  rw [e1, e2]
  show srtC.sl (famD a b L) = _
  cases L with
  | nil => rfl
  | cons x L =>
    unfold srtC.sl
    rw [mapM_fam]
    show (if _ then some (Nv.n (srtS lexD (famD a b (x :: L)))) else none) = _
    rw [if_pos (by exact all_fam (x :: L)), srtS_down]
    · unfold famD; rw [← List.map_reverse]
    · unfold famD
      rw [List.pairwise_map]
      exact h.imp fun {u v} q => lex_fam q
/-! ### sizes -/
theorem famD_ok {a b : Int} {L : List Tr} (ha : a.natAbs < 10 ^ 60) (hb : b.natAbs < 10 ^ 60) (h : ∀ x ∈ L, x.1.natAbs < 10 ^ 60 ∧ x.2.1.natAbs < 10 ^ 60 ∧ x.2.2.natAbs < 10 ^ 60) : okDs (famD a b L) = true := by
  induction L with
  | nil => rfl
  | cons x L ih =>
    obtain ⟨h1, h2, h3⟩ := h x List.mem_cons_self
    show (okDs [.int x.1, .int x.2.1, .int x.2.2, .int b, .int a] && okDs (famD a b L)) = true
    rw [ih fun y hy => h y (List.mem_cons_of_mem _ hy)]
    simp only [okDs, okD, decide_eq_true h1, decide_eq_true h2, decide_eq_true h3, decide_eq_true ha, decide_eq_true hb, Bool.and_self]
theorem famD_bk (a b : Int) : ∀ L : List Tr, bkDs (famD a b L) = 6 * L.length
  | [] => rfl
  | x :: L => by
    show 5 + 1 + bkDs (famD a b L) = _
    rw [famD_bk a b L, List.length_cons]; omega
theorem famD_dp (a b : Int) : ∀ L : List Tr, dpDs (famD a b L) ≤ 1
  | [] => by show 0 ≤ 1; decide
  | x :: L => by
    show max 1 (dpDs (famD a b L)) ≤ 1
    have := famD_dp a b L
    omega
theorem fit_told {r : D} (h : okD r = true) (h2 : bkD r ≤ 100000) (h3 : dpD r ≤ 30) : Fit (.tup [.str "told", r]) := by
  refine ⟨?_, rfl, ?_, ?_⟩
  · have t : okD (.str "told") = true := by decide +kernel
    show okDs [.str "told", r] = true
    unfold okDs
    rw [t]
    unfold okDs
    rw [h]; rfl
  · show (4 + 1 + (bkD r + 1 + 0)) ≤ 200000
    omega
  · show max 0 (max (dpD r) 0) + 1 ≤ 40
    omega
theorem minp_bd {a b m i j : Int} (h : MinP a b m i j) (ha : 0 < a) (ha1 : a < 1073741824) (hb : 0 < b) (hb1 : b < 1073741824) (hm : m.natAbs ≤ 10 ^ 14) : i.natAbs < 10 ^ 60 ∧ j.natAbs < 10 ^ 60 := by
  have h1 := h.i1
  have h2 := h.j1
  have e := h.eq
  have ab : a * b ≤ 1073741824 * 1073741824 := Int.mul_le_mul (by omega) (by omega) (by omega) (by omega)
  have ia : i * 1 ≤ i * a := Int.mul_le_mul_of_nonneg_left (by omega) (by omega)
  have jb : j * 1 ≤ j * b := Int.mul_le_mul_of_nonneg_left (by omega) (by omega)
  rcases h.mn with q | q
  · have : i * a ≤ b * a := Int.mul_le_mul_of_nonneg_right (by omega) (by omega)
    rw [Int.mul_comm b a] at this
    omega
  · have : j * b ≤ a * b := Int.mul_le_mul_of_nonneg_right (by omega) (by omega)
    omega
/-- what is known of a pair of rows and their families -/
structure Case (c1 p1 s1 c2 p2 s2 C a b inv inv' : Int) (L : List Tr) : Prop where
  R : Rows c1 p1 s1 c2 p2 s2 C a b inv
  R' : Rows c2 p2 s2 c1 p1 s1 C b a inv'
  F : IsF a b C (c1 - c2) s1 s2 L
  c10 : 0 ≤ c1
  c11 : c1 ≤ 10 ^ 12
  c20 : 0 ≤ c2
  c21 : c2 ≤ 10 ^ 12
  s10 : 0 ≤ s1
  s20 : 0 ≤ s2
  s : s1 + s2 ≤ 2000
  p10 : 1 ≤ p1
  p20 : 1 ≤ p2
section
variable {c1 p1 s1 c2 p2 s2 C a b inv inv' k : Int} {L : List Tr} {x y : D} {g : G}
theorem Rows.co (R : Rows c1 p1 s1 c2 p2 s2 C a b inv) : Cop a b := ⟨inv, R.cop⟩
theorem Case.L_eq (K : Case c1 p1 s1 c2 p2 s2 C a b inv inv' L) : LL c1 s1 c2 s2 C a b inv = L := (fam_isF K.R).uniq K.R.co K.R.a0 K.R.b0 K.R.C0 K.F
theorem Case.swap (K : Case c1 p1 s1 c2 p2 s2 C a b inv inv' L) : Case c2 p2 s2 c1 p1 s1 C b a inv' inv (L.reverse.map turnT) :=
  ⟨K.R', K.R, by have := K.F.swap; rw [Int.neg_sub] at this; exact this, K.c20, K.c21, K.c10, K.c11, K.s20, K.s10, by have := K.s; omega, K.p20, K.p10⟩
theorem Case.len (K : Case c1 p1 s1 c2 p2 s2 C a b inv inv' L) : L.length ≤ 2100 := by
  rw [← K.L_eq]
  show (famL c1 c2 C a b inv _ _).length ≤ _
  unfold famL
  rw [List.length_map]
  have h1 := rngZ_len (i := start1 c1 s1 c2 C) (j := s2 + 1) K.R.C0
  have h2 := Int.emod_nonneg (c1 - c2 + s1) (show C ≠ 0 by have := K.R.C0; omega)
  have h3 := K.s
  have h4 := K.s10
  have h5 := K.s20
  have es : start1 c1 s1 c2 C = -s1 + (c1 - c2 + s1) % C := rfl
  split at h1 <;> omega
theorem Case.lim (K : Case c1 p1 s1 c2 p2 s2 C a b inv inv' L) : L.length ≤ LIM := Nat.le_trans K.len (by decide)
theorem Case.bd (K : Case c1 p1 s1 c2 p2 s2 C a b inv inv' L) : ∀ x ∈ L, x.1.natAbs < 10 ^ 60 ∧ x.2.1.natAbs < 10 ^ 60 ∧ x.2.2.natAbs < 10 ^ 60 := by
  intro x hx
  obtain ⟨w1, w2, m, e, P⟩ := K.F.ok x hx
  have h3 := K.s
  have h4 := K.s10
  have h5 := K.s20
  have h6 := K.c10
  have h7 := K.c11
  have h8 := K.c20
  have h9 := K.c21
  have hC := K.R.C0
  have hm : m.natAbs ≤ 10 ^ 14 := by
    by_cases z : 0 ≤ m
    · have := Int.mul_le_mul_of_nonneg_right (show 1 ≤ C by omega) z
      omega
    · have := Int.mul_le_mul_of_nonneg_right (show 1 ≤ C by omega) (show 0 ≤ -m by omega)
      have e2 : C * -m = -(C * m) := Int.mul_neg C m
      omega
  obtain ⟨b1, b2⟩ := minp_bd P K.R.a0 K.R.a1 K.R.b0 K.R.b1 hm
  exact ⟨by omega, b1, b2⟩
theorem Case.fit (K : Case c1 p1 s1 c2 p2 s2 C a b inv inv' L) : Fit (.tup [.str "told", .tup (famD a b L)]) := by
  have := K.R.a0
  have := K.R.a1
  have := K.R.b0
  have := K.R.b1
  have := K.len
  refine fit_told (famD_ok (by omega) (by omega) K.bd) ?_ ?_
  · show bkDs _ ≤ _
    rw [famD_bk]; omega
  · show dpDs _ + 1 ≤ _
    have := famD_dp a b L
    omega
theorem firstD_fit (h : ∀ x ∈ L, x.2.1.natAbs < 10 ^ 60 ∧ x.2.2.natAbs < 10 ^ 60) : Fit (.tup [.str "told", firstD L]) ∧ pureD (firstD L) = true := by
  unfold firstD
  cases L with
  | nil => exact ⟨fit_told rfl (by decide) (by decide), rfl⟩
  | cons x L =>
    have q := (min_fold (L.map mxT) (mxT x)).1
    show Fit (.tup [.str "told", .int _]) ∧ _
    refine ⟨fit_told ?_ (Nat.zero_le _) (Nat.zero_le _), rfl⟩
    obtain ⟨y, hy, e⟩ := List.mem_map.mp (show _ ∈ (x :: L).map mxT from q)
    obtain ⟨b1, b2⟩ := h y hy
    show decide _ = true
    refine decide_eq_true ?_
    rw [← e]
    unfold mxT
    split <;> assumption
theorem sumF_bd {f : Tr → Int} {B : Int} : ∀ {L : List Tr}, (∀ x ∈ L, 0 ≤ f x ∧ f x ≤ B) → 0 ≤ sumF f L ∧ sumF f L ≤ B * (L.length : Int)
  | [], _ => by unfold sumF; simp
  | x :: L, h => by
    obtain ⟨h1, h2⟩ := h x List.mem_cons_self
    obtain ⟨h3, h4⟩ := sumF_bd fun y hy => h y (List.mem_cons_of_mem _ hy)
    have e : B * ((x :: L).length : Int) = B * L.length + B := by rw [List.length_cons]; grind
    have es : sumF f (x :: L) = f x + sumF f L := rfl
    omega
theorem Case.num_fit (K : Case c1 p1 s1 c2 p2 s2 C a b inv inv' L) (hk : 0 ≤ k) (hk1 : k ≤ 10 ^ 12) : Fit (.tup [.str "told", .int (sumF (fun x => few a b k x.2.1 x.2.2) L)]) := by
  have hl := K.len
  obtain ⟨h1, h2⟩ := sumF_bd (f := fun x => few a b k x.2.1 x.2.2) (B := 10 ^ 13) (L := L) fun x hx => by
    obtain ⟨_, _, m, _, P⟩ := K.F.ok x hx
    have i1 := P.i1
    have : (k - x.2.1) / b ≤ 10 ^ 12 := by
      have := Int.ediv_le_ediv K.R.b0 (show k - x.2.1 ≤ k by omega)
      have := Int.ediv_le_self b hk
      omega
    unfold few
    omega
  have : (10 ^ 13 : Int) * (L.length : Int) ≤ 10 ^ 13 * 2100 := Int.mul_le_mul_of_nonneg_left (by omega) (by decide)
  refine fit_told ?_ (Nat.zero_le _) (Nat.zero_le _)
  show decide _ = true
  refine decide_eq_true ?_
  omega
theorem ever_iff (hC : 0 < C) (h1 : 0 ≤ s1) (h2 : 0 ≤ s2) {D0 : Int} (F : IsF a b C D0 s1 s2 L) : (decide (D0 % C ≤ s2) || decide (C - D0 % C ≤ s1)) = decide (0 < L.length) := by
  have m0 := Int.emod_nonneg D0 (show C ≠ 0 by omega)
  have m1 := Int.emod_lt_of_pos D0 hC
  have me := Int.emod_add_mul_ediv D0 C
  rw [Bool.eq_iff_iff, Bool.or_eq_true, decide_eq_true_eq, decide_eq_true_eq, decide_eq_true_eq]
  constructor
  · intro h
    rcases h with h | h
    · have e : D0 + C * -(D0 / C) = D0 % C := by rw [Int.mul_neg]; omega
      obtain ⟨x, hx, _⟩ := F.all (-(D0 / C)) (by omega) (by omega)
      exact List.length_pos_of_mem hx
    · have e : D0 + C * (-(D0 / C) - 1) = D0 % C - C := by grind
      obtain ⟨x, hx, _⟩ := F.all (-(D0 / C) - 1) (by omega) (by omega)
      exact List.length_pos_of_mem hx
  · intro h
    match L, h, F with
    | x :: L, _, F =>
      obtain ⟨w1, w2, m, e, _⟩ := F.ok x List.mem_cons_self
      have e2 : x.1 = C * (D0 / C + m) + D0 % C := by grind
      generalize D0 / C + m = t at e2
      by_cases z : 0 ≤ t
      · have := Int.mul_nonneg (show 0 ≤ C by omega) z
        omega
      · have := Int.mul_le_mul_of_nonneg_left (show t ≤ -1 by omega) (show 0 ≤ C by omega)
        omega
end
end K74

set_option Elab.async false
set_option linter.all false
set_option maxRecDepth 100000
set_option maxHeartbeats 4000000
namespace K74
open PySem PySem.Spec PyProof.Rows L2 Mn
theorem seq_nx {s s2 : SM} {ρ ρ' : Rho} {g g' : G} (h : s ρ g = .ok (.nx ρ') g') : seqM s s2 ρ g = s2 ρ' g' := by unfold seqM; rw [h]
theorem for_nx {pt : Pt} {s : SM} {d : D} {l : List D} {ρ ρ1 ρ2 : Rho} {g g2 : G} (h1 : pt.put d ρ = some ρ1) (h2 : s ρ1 g = .ok (.nx ρ2) g2) : forD pt s (d :: l) ρ g = forD pt s l ρ2 g2 := by
  rw [e_for, h1]; simp only [h2]
theorem defM_rt {s : SM} {n : Nat} {ds : List D} {g g' : G} {d : D} (h : s (start0 n ds) g = .ok (.rt d) g') : defM n s ds g = .ok d g' := by unfold defM; rw [h]
theorem gt0 {n : Nat} {g : G} : gtD g (.int n) (.int 0) = some (.v (.bl (decide (0 < n)))) := by
  show (if yes2 n 0 = true then some (Nv.v (.bl (decide ((0 : Int) < n)))) else none) = _
  rw [if_pos rfl]
  congr 3
  exact decide_eq_decide.mpr (by omega)
theorem famD_len {a b : Int} {L : List Tr} : (famD a b L).length = L.length := by unfold famD; rw [List.length_map]
/-- the turned families, one by one -/
theorem turn_loop {a b : Int} {n : Nat} {X0 X1 X2 X3 X4 X6 X7 X14 : Option D} (X5 : Option D) : ∀ (L pre : List Tr) (g : G) (r9 r10 r11 r12 r13 : Option D), pre.length + L.length ≤ 5000 → ∃ q9 q10 q11 q12 q13,
    forD (.tp [.nm 9, .nm 10, .nm 11, .nm 12, .nm 13]) (dropM (lmM appF (varM 8) (tupM (consA (unM negD (varM 9)) (consA (varM 11) (consA (varM 10) (consA (varM 13) (consA (varM 12) (nilA)))))))))
      (famD a b L) [X0, X1, X2, X3, X4, X5, X6, X7, some (.obj g.length), r9, r10, r11, r12, r13, X14] (g ++ [.lst (famD b a (pre.map turnT))]) =
      .ok (.nx [X0, X1, X2, X3, X4, X5, X6, X7, some (.obj g.length), q9, q10, q11, q12, q13, X14]) (g ++ [.lst (famD b a ((pre ++ L).map turnT))])
  | [], pre, g, r9, r10, r11, r12, r13, _ => ⟨r9, r10, r11, r12, r13, by rw [List.append_nil]; rfl⟩
  | x :: L, pre, g, r9, r10, r11, r12, r13, hl => by
    rw [List.length_cons] at hl
    obtain ⟨q9, q10, q11, q12, q13, e⟩ := turn_loop (a := a) (b := b) (n := n) (X0 := X0) (X1 := X1) (X2 := X2) (X3 := X3) (X4 := X4) (X6 := X6) (X7 := X7) (X14 := X14) X5 L (pre ++ [x]) g (some (.int x.1)) (some (.int x.2.1)) (some (.int x.2.2)) (some (.int b)) (some (.int a)) (by rw [List.length_append, List.length_singleton]; omega)
    refine ⟨q9, q10, q11, q12, q13, ?_⟩
    rw [List.append_assoc, List.singleton_append] at e
    rw [← e]
    show forD _ _ (famT x.1 x.2.1 x.2.2 b a :: famD a b L) _ _ = _
    have el : lstAt (g ++ [.lst (famD b a (pre.map turnT))]) g.length = some (famD b a (pre.map turnT)) := by unfold lstAt; rw [List.getElem?_append_right (Nat.le_refl _)]; simp
    have ea : appF (famD b a (pre.map turnT)) (.tup [.int (-x.1), .int x.2.2, .int x.2.1, .int a, .int b]) = some (.non, famD b a ((pre ++ [x]).map turnT)) := by
      unfold appF
      rw [if_pos (by rw [famD_len, List.length_map]; have : LIM = 1000000 := rfl; omega), List.map_append]
      unfold famD
      rw [List.map_append]
      rfl
    have es : (g ++ [O.lst (famD b a (pre.map turnT))]).set g.length (.lst (famD b a ((pre ++ [x]).map turnT))) = g ++ [.lst (famD b a ((pre ++ [x]).map turnT))] := by
      rw [List.set_append_right _ _ (Nat.le_refl _)]; simp
    have ebody : ∀ ρ : Rho, ρ[8]? = some (some (.obj g.length)) → ρ[9]? = some (some (.int x.1)) → ρ[10]? = some (some (.int x.2.1)) → ρ[11]? = some (some (.int x.2.2)) → ρ[12]? = some (some (.int b)) → ρ[13]? = some (some (.int a)) →
        dropM (lmM appF (varM 8) (tupM (consA (unM negD (varM 9)) (consA (varM 11) (consA (varM 10) (consA (varM 13) (consA (varM 12) (nilA)))))))) ρ (g ++ [.lst (famD b a (pre.map turnT))]) = .ok (.nx ρ) (g ++ [.lst (famD b a ((pre ++ [x]).map turnT))]) := by
      intro ρ h8 h9 h10 h11 h12 h13
      simp only [e_drop, e_bindE, lmM, e_var, h8, el]
      simp [h9, h10, h11, h12, h13, limS]
      rw [el]
      simp only [ea, es, List.map_append]
      rfl
    exact for_nx rfl (ebody _ rfl rfl rfl rfl rfl rfl)
section
variable {c1 p1 s1 c2 p2 s2 C a b inv inv' : Int} {L : List Tr} {x y : D}
/-- what is asked of two rows, given and back -/
structure Asked (c1 p1 s1 c2 p2 s2 C a b : Int) (L : List Tr) (x y : D) : Prop where
  h0 : ∀ g, pureF m__law_heard_beats [.int 0, x, y, .int 0] g = .ok (.tup [.str "told", .tup (famD a b L)]) g
  h1 : ∀ g, pureF m__law_heard_beats [.int 1, x, y, .int 0] g = .ok (.tup [.str "told", firstD L]) g
  h2 : ∀ g, pureF m__law_heard_beats [.int 2, x, y, .int 0] g = .ok (.tup [.str "told", .bl (decide (0 < L.length))]) g
  h3 : ∀ k, 0 ≤ k → ∀ g, pureF m__law_heard_beats [.int 3, x, y, .int k] g = .ok (.tup [.str "told", .int (sumF (fun x => few a b k x.2.1 x.2.2) L)]) g
theorem asked (K : Case c1 p1 s1 c2 p2 s2 C a b inv inv' L) (hx : Bt x c1 p1 s1) (hy : Bt y c2 p2 s2) : Asked c1 p1 s1 c2 p2 s2 C a b L x y := by
  have e := K.L_eq
  have pf : pureD (.tup (famD a b L)) = true := by show pureDs _ = true; exact famD_pure _ _ _
  refine ⟨heard0 hx.pure hy.pure pf fun g => ?_, heard1 hx.pure hy.pure (firstD_fit fun x hx => (K.bd x hx).2).2 fun g => ?_, heard2 hx.pure hy.pure rfl fun g => ?_, fun k hk => heard3 hx.pure hy.pure rfl fun g => ?_⟩
  · rw [met_run hx hy K.R K.s g, e]
  · rw [firstM_run hx hy K.R K.s g (by rw [e]; exact K.lim), e]
  · rw [ever_run hx hy K.R g, ever_iff K.R.C0 K.s10 K.s20 K.F]
  · rw [number_run hx hy K.R K.s hk g, e]
theorem Bt.t {c p s : Int} (h0 : 0 ≤ c) (h1 : 1 ≤ p) (h2 : 0 ≤ s) : Bt (fx c p s) c p s := ⟨.inl rfl, h0, h1, h2⟩
theorem Bt.l {c p s : Int} (h0 : 0 ≤ c) (h1 : 1 ≤ p) (h2 : 0 ≤ s) : Bt (fxl c p s) c p s := ⟨.inr rfl, h0, h1, h2⟩
theorem pow9 {ρ : Rho} {g : G} : binM false powD (cM (.int 10)) (cM (.int 9)) ρ g = .ok (.int 1000000000) g := by kernel_rfl
theorem pow6 {ρ : Rho} {g : G} : binM false powD (cM (.int 10)) (cM (.int 6)) ρ g = .ok (.int 1000000) g := by kernel_rfl
theorem fx_fit {c p s : Int} (h0 : c.natAbs < 10 ^ 60) (h1 : p.natAbs < 10 ^ 60) (h2 : s.natAbs < 10 ^ 60) : Fit (fx c p s) ∧ Fit (fxl c p s) := by
  have t : okD (.str "fixed") = true := by decide +kernel
  have o : okDs [.str "fixed", .int c, .int p, .int s] = true := by
    unfold okDs; rw [t]
    simp only [okDs, okD, decide_eq_true h0, decide_eq_true h1, decide_eq_true h2, Bool.and_self]
  exact ⟨⟨o, rfl, by show (5 + 1 + (0 + 1 + (0 + 1 + (0 + 1 + 0)))) ≤ 200000; decide, by show 0 + 1 ≤ 40; decide⟩, ⟨o, rfl, by show (5 + 1 + (0 + 1 + (0 + 1 + (0 + 1 + 0)))) ≤ 200000; decide, by show 0 + 1 ≤ 40; decide⟩⟩
/-- just(heard(..), ('told', r)) in a test that goes on -/
theorem just_test {m m2 : EM} {ρ : Rho} {g : G} {d : D} (h1 : m ρ g = .ok d g) (h2 : m2 ρ g = .ok d g) (hf : Fit d) : ifM (notM (tst (callM 2 (pureF m__law_just) (consA m (consA m2 nilA))))) (retM (cM (.bl false))) nxM ρ g = .ok (.nx ρ) g := by
  simp [h1, h2, just_ok hf]
end
end K74

set_option Elab.async false
set_option linter.all false
set_option maxRecDepth 100000
set_option maxHeartbeats 4000000
namespace K74
open PySem PySem.Spec PyProof.Rows L2 Mn
theorem lis_fx {c p s : Int} {g : G} : lisC g [fx c p s] = some (.n [.str "fixed", .int c, .int p, .int s]) := rfl
theorem fl_fx {c p s : Int} : D.fl [.str "fixed", .int c, .int p, .int s] = fxl c p s := rfl
/-- the first of the families, by the law's own line -/
theorem first_line {a b : Int} {L : List Tr} (hl : L.length ≤ LIM) {X0 X1 X2 : Option D} (g : G) :
    ifM (tst (binM false (gtD) (calM false lenD (consA (varM 3) (nilA))) (cM (.int 0)))) (setM 4 (calM false minC (consA (lcM false (varM 3) (.nm 5) (yesT) (calM false maxC (consA (binM false ixD (varM 5) (cM (.int 1))) (consA (binM false ixD (varM 5) (cM (.int 2))) (nilA)))) (([("family", 5)] : List (Str × Nat)).map (·.2))) (nilA)))) (nxM)
      [X0, X1, X2, some (.tup (famD a b L)), some .non, none, none, none, none, none, none, none, none, none, none] g = .ok (.nx [X0, X1, X2, some (.tup (famD a b L)), some (firstD L), none, none, none, none, none, none, none, none, none, none]) g := by
  cases L with
  | nil => simp [famD]; rfl
  | cons x L =>
    obtain ⟨m, hm⟩ : ∃ m, minI ((x :: L).map mxT) = some m := ⟨_, rfl⟩
    have em := maxes a b 5 [X0, X1, X2, some (.tup (famD a b (x :: L))), some .non, none, none, none, none, none, none, none, none, none, none] g (by simp) (fun d => rfl) hl
    have e1 : decide (0 < (famD a b (x :: L)).length) = true := by rw [famD_len]; simp
    have ef : firstD (x :: L) = .int m := by unfold firstD; rw [hm]
    have hl2 : ((x :: L).map mxT).length ≤ LIM := by rw [List.length_map]; exact hl
    rw [ef]
    generalize (x :: L).map mxT = ms at *
    generalize famD a b (x :: L) = F at *
    have e1' : 0 < F.length := of_decide_eq_true e1
    have em2 := e_minF (g := g) hm
    have e3 : finL false (.ok (ms.map D.int) g) = .ok (.fl (ms.map D.int)) g := e_finL (o := false) (by rw [List.length_map]; exact hl2)
    simp [e1', em, e3, em2]
section
variable {c1 p1 s1 c2 p2 s2 C a b inv inv' : Int} {L : List Tr} {g : G}
theorem two_right (K : Case c1 p1 s1 c2 p2 s2 C a b inv inv' L) (f1 : p1.natAbs < 10 ^ 60) (h : HandOk g) : ∃ g', m__law_two_right [.obj 1, fx c1 p1 s1, fx c2 p2 s2, .tup (famD a b L)] g = .ok (.bl true) g' ∧ HandOk g' := by
  have hf := fx_fit (c := c1) (p := p1) (s := s1) (by have := K.c10; have := K.c11; omega) f1 (by have := K.s10; have := K.s20; have := K.s; omega)
  obtain ⟨v1, g1, e1, k1, l1, u1⟩ := draw h (many := 2) (by decide)
  obtain ⟨x, hx, ax, ex⟩ : ∃ x, Bt x c1 p1 s1 ∧ (x = fx c1 p1 s1 ∨ x = fxl c1 p1 s1) ∧ atI [fx c1 p1 s1, fxl c1 p1 s1] v1 = some x := by
    rcases (show v1 = 0 ∨ v1 = 1 by omega) with z | z <;> subst z
    · exact ⟨_, Bt.t K.c10 K.p10 K.s10, .inl rfl, by simp⟩
    · exact ⟨_, Bt.l K.c10 K.p10 K.s10, .inr rfl, by simp⟩
  obtain ⟨v2, g2, e2, k2, l2, u2⟩ := draw k1 (many := 2) (by decide)
  obtain ⟨y, hy, ey⟩ : ∃ y, Bt y c2 p2 s2 ∧ atI [fxl c2 p2 s2, fx c2 p2 s2] v2 = some y := by
    rcases (show v2 = 0 ∨ v2 = 1 by omega) with z | z <;> subst z
    · exact ⟨_, Bt.l K.c20 K.p20 K.s20, by simp⟩
    · exact ⟨_, Bt.t K.c20 K.p20 K.s20, by simp⟩
  have Q := asked K hx hy
  have Q' := asked K.swap hy hx
  obtain ⟨q9, q10, q11, q12, q13, et⟩ := turn_loop (a := a) (b := b) (n := 0) (X0 := some (.obj 1)) (X1 := some (fx c1 p1 s1)) (X2 := some (fx c2 p2 s2)) (X3 := some (.tup (famD a b L))) (X4 := some (firstD L)) (X6 := some x) (X7 := some y) (X14 := none) none L [] g2 none none none none none (by have := K.len; simp; omega)
  have k4 := k2.app [.lst (famD b a (([] ++ L).map turnT))]
  obtain ⟨v3, g5, e5, k5, l5, u5⟩ := draw k4 (many := 30) (by decide)
  obtain ⟨v4, g6, e6, k6, l6, u6⟩ := draw k5 (many := 30) (by decide)
  refine ⟨g6, ?_, k6⟩
  have so : srtC (g2 ++ [.lst (famD b a (([] ++ L).map turnT))]) [.obj g2.length] = some (.n (famD b a (L.reverse.map turnT))) := by
    have := sorted_fam (a := b) (b := a) (L := ([] ++ L).map turnT) (g := g2 ++ [.lst (famD b a (([] ++ L).map turnT))]) (n := g2.length) (by
      rw [List.nil_append, List.pairwise_map]
      exact K.F.asc.imp fun {u v} q => by show -v.1 < -u.1; omega) (by rw [List.getElem?_append_right (Nat.le_refl _)]; simp)
    rw [this, List.nil_append, List.map_reverse]
  have so' : srtC (g2 ++ [.lst (famD b a (L.map turnT))]) [.obj g2.length] = some (.n (famD b a (L.map turnT).reverse)) := by simpa using so
  refine defM_rt ?_
  refine (seq_nx (ρ' := [some (.obj 1), some (fx c1 p1 s1), some (fx c2 p2 s2), some (.tup (famD a b L)), some .non, none, none, none, none, none, none, none, none, none, none]) (g' := g) rfl).trans ?_
  refine (seq_nx (first_line K.lim g)).trans ?_
  refine (seq_nx (ρ' := [some (.obj 1), some (fx c1 p1 s1), some (fx c2 p2 s2), some (.tup (famD a b L)), some (firstD L), none, some x, none, none, none, none, none, none, none, none]) (g' := g1) (by simp [lis_fx, fl_fx, e1, limS, ex])).trans ?_
  refine (seq_nx (ρ' := [some (.obj 1), some (fx c1 p1 s1), some (fx c2 p2 s2), some (.tup (famD a b L)), some (firstD L), none, some x, some y, none, none, none, none, none, none, none]) (g' := g2) (by simp [lis_fx, fl_fx, e2, limS, ey])).trans ?_
  refine (seq_nx (just_test (d := .tup [.str "told", .tup (famD a b L)]) (by simp [Q.h0]) (by simp [limS]) K.fit)).trans ?_
  refine (seq_nx (just_test (d := .tup [.str "told", firstD L]) (by simp [Q.h1]) (by simp [limS]) (firstD_fit fun x hx => (K.bd x hx).2).1)).trans ?_
  refine (seq_nx (just_test (d := .tup [.str "told", .bl (decide (0 < L.length))]) (by simp [Q.h2]) (by simp [limS, famD_len]) (fit_told rfl (Nat.zero_le _) (Nat.zero_le _)))).trans ?_
  refine (seq_nx (ρ' := [some (.obj 1), some (fx c1 p1 s1), some (fx c2 p2 s2), some (.tup (famD a b L)), some (firstD L), none, some x, some y, some (.obj g2.length), none, none, none, none, none, none]) (g' := g2 ++ [.lst (famD b a (([] : List Tr).map turnT))]) (by simp [famD])).trans ?_
  refine (seq_nx et).trans ?_
  refine (seq_nx (just_test (d := .tup [.str "told", .tup (famD b a (L.reverse.map turnT))]) (by simp [Q'.h0]) (by simp [so', limS]) K.swap.fit)).trans ?_
  have tests : ∀ (kk : Int) (g : G) (X14 : Option D), 0 ≤ kk → kk ≤ 10 ^ 12 → ifM (notM (tst (callM 2 (pureF (m__law_just)) (consA (callM 4 (pureF (m__law_heard_beats)) (consA (cM (.int 3)) (consA (varM 6) (consA (varM 7) (consA (varM 14) (nilA)))))) (consA (tupM (consA (cM (.str "told")) (consA (callM 2 (pureF (m__law_many)) (consA (varM 3) (consA (varM 14) (nilA)))) (nilA)))) (nilA)))))) (retM (cM (.bl false))) (nxM)
      [some (.obj 1), some (fx c1 p1 s1), some (fx c2 p2 s2), some (.tup (famD a b L)), some (firstD L), none, some x, some y, some (.obj g2.length), q9, q10, q11, q12, q13, some (.int kk)] g =
      .ok (.nx [some (.obj 1), some (fx c1 p1 s1), some (fx c2 p2 s2), some (.tup (famD a b L)), some (firstD L), none, some x, some y, some (.obj g2.length), q9, q10, q11, q12, q13, some (.int kk)]) g := fun kk g X14 h0 h1 =>
    just_test (d := .tup [.str "told", .int (sumF (fun x => few a b kk x.2.1 x.2.2) L)]) (by simp [Q.h3 kk h0]) (by simp [limS, many_run K.R.a0 K.R.a1 K.R.b0 K.R.b1]) (K.num_fit h0 h1)
  refine (seq_nx (ρ' := [some (.obj 1), some (fx c1 p1 s1), some (fx c2 p2 s2), some (.tup (famD a b L)), some (firstD L), none, some x, some y, some (.obj g2.length), q9, q10, q11, q12, q13, some (.int (1000000 + v4))]) (g' := g6) ?_).trans ?_
  · have ek : tupM (consA (binM false powD (cM (.int 10)) (cM (.int 9))) (consA (binM false addD (binM false mulD (calM false intC (consA (callM 2 (m__law_draw) (consA (varM 0) (consA (cM (.int 30)) (nilA)))) (nilA))) (cM (.int 1000))) (cM (.int 999))) (consA (binM false addD (binM false powD (cM (.int 10)) (cM (.int 6))) (callM 2 (m__law_draw) (consA (varM 0) (consA (cM (.int 30)) (nilA))))) (nilA))))
        [some (.obj 1), some (fx c1 p1 s1), some (fx c2 p2 s2), some (.tup (famD a b L)), some (firstD L), none, some x, some y, some (.obj g2.length), q9, q10, q11, q12, q13, none] (g2 ++ [.lst (famD b a (([] ++ L).map turnT))]) = .ok (.tup [.int 1000000000, .int (v3 * 1000 + 999), .int (1000000 + v4)]) g6 := by
      have cm : cMul v3 1000 = true := cmul_r (by decide)
      generalize hρ : [some (D.obj 1), some (fx c1 p1 s1), some (fx c2 p2 s2), some (.tup (famD a b L)), some (firstD L), none, some x, some y, some (.obj g2.length), q9, q10, q11, q12, q13, none] = ρ
      have h0 : ρ[0]? = some (some (.obj 1)) := by rw [← hρ]; rfl
      have w1 : binM false addD (binM false mulD (calM false intC (consA (callM 2 (m__law_draw) (consA (varM 0) (consA (cM (.int 30)) (nilA)))) (nilA))) (cM (.int 1000))) (cM (.int 999)) ρ (g2 ++ [.lst (famD b a (([] ++ L).map turnT))]) = .ok (.int (v3 * 1000 + 999)) g5 := by
        rw [List.nil_append] at e5 ⊢
        simp [h0, e5, cm]
      have w2 : binM false addD (binM false powD (cM (.int 10)) (cM (.int 6))) (callM 2 (m__law_draw) (consA (varM 0) (consA (cM (.int 30)) (nilA)))) ρ g5 = .ok (.int (1000000 + v4)) g6 := by
        rw [e_bin, e_bindE, pow6]
        simp [h0, e6]
      generalize binM false addD (binM false mulD (calM false intC (consA (callM 2 (m__law_draw) (consA (varM 0) (consA (cM (.int 30)) (nilA)))) (nilA))) (cM (.int 1000))) (cM (.int 999)) = m1 at *
      generalize binM false addD (binM false powD (cM (.int 10)) (cM (.int 6))) (callM 2 (m__law_draw) (consA (varM 0) (consA (cM (.int 30)) (nilA)))) = m2 at *
      have w0 : binM false powD (cM (.int 10)) (cM (.int 9)) ρ (g2 ++ [.lst (famD b a (([] ++ L).map turnT))]) = .ok (.int 1000000000) (g2 ++ [.lst (famD b a (([] ++ L).map turnT))]) := pow9
      generalize binM false powD (cM (.int 10)) (cM (.int 9)) = m0 at *
      rw [List.nil_append] at *
      simp [w0, w1, w2, limS]
    rw [e_forM, e_bindE, ek]
    refine (for_nx rfl (tests _ _ none (by omega) (by omega))).trans ?_
    refine (for_nx rfl (tests _ _ none (by omega) (by omega))).trans ?_
    exact (for_nx rfl (tests _ _ none (by omega) (by omega))).trans rfl
  · rcases ax with ax | ax <;> subst ax
    · simp [hf.1.eq, just_ok hf.1, lis_fx, fl_fx, limS]
    · have en : eqD false g6 (fxl c1 p1 s1) (fx c1 p1 s1) = some (.v (.bl false)) := by
        obtain ⟨p, e1, a1, _, _⟩ := hf.1.py g6
        obtain ⟨q, e2, a2, _, _⟩ := hf.2.py g6
        have z1 : pyG g6 (fx c1 p1 s1) = some (.tuple [.str "fixed", .int c1, .int p1, .int s1]) := rfl
        have z2 : pyG g6 (fxl c1 p1 s1) = some (.list [.str "fixed", .int c1, .int p1, .int s1]) := rfl
        rw [z1] at e1
        rw [z2] at e2
        cases e1
        cases e2
        show eqP false g6 (fxl c1 p1 s1) (fx c1 p1 s1) = _
        unfold eqP
        simp only [z1, z2, a1, a2, Bool.and_self, if_true]
        rfl
      simp [en, just_ok hf.2, lis_fx, fl_fx, limS]
end
end K74

set_option Elab.async false
set_option linter.all false
set_option maxRecDepth 100000
set_option maxHeartbeats 4000000
namespace K74
open PySem PySem.Spec PyProof.Rows L2 Mn
/-- what the program's own inverse tells -/
def invO (a b : Int) : Option Int := match m_inverse_of [.int a, .int b] [] with
  | .ok (.int i) _ => some i
  | _ => none
def chk (C a b : Int) : Bool := match invO a b with
  | some i => decide (((Nat.gcd (a * C).natAbs (b * C).natAbs : Nat) : Int) = C) && decide (a * C / C = a) && decide (b * C / C = b) && decide (0 < C) && decide (C < 1073741824) && decide (0 < a) && decide (a < 1073741824) && decide (0 < b) && decide (b < 1073741824) && decide (i.natAbs < 2 ^ 64) && decide ((a * i - 1) % b = 0)
  | none => false
theorem rows_of {C a b : Int} (h : chk C a b = true) : ∃ inv, ∀ c1 s1 c2 s2, Rows c1 (a * C) s1 c2 (b * C) s2 C a b inv := by
  unfold chk at h
  split at h
  · rename_i i e
    simp only [Bool.and_eq_true, decide_eq_true_eq] at h
    obtain ⟨⟨⟨⟨⟨⟨⟨⟨⟨⟨h1, h2⟩, h3⟩, h4⟩, h5⟩, h6⟩, h7⟩, h8⟩, h9⟩, h10⟩, h11⟩ := h
    refine ⟨i, fun c1 s1 c2 s2 => ⟨h1, h2, h3, h4, h5, h6, h7, h8, h9, Int.mul_comm _ _, Int.mul_comm _ _, h10, fun g => ?_, Int.dvd_of_emod_eq_zero h11⟩⟩
    unfold invO at e
    split at e
    · rename_i i' g' e2
      cases e
      exact pureF_ok rfl e2 rfl
    · cases e
  · cases h
def Cs : List Int := [6, 300, 1, 17, 2]
theorem chk_great : (Cs.all fun C => (List.range 30).all fun v => [1, 0].all fun w => chk C (2 + 33 * (v : Int)) ((2 + 33 * (v : Int)) * w + 1) && chk C ((2 + 33 * (v : Int)) * w + 1) (2 + 33 * (v : Int))) = true := by decide +kernel
theorem chk_small : ((List.range 12).all fun p => (List.range 12).all fun q =>
    let C : Int := ((Nat.gcd (p + 1) (q + 1) : Nat) : Int)
    chk C (((p + 1 : Nat) : Int) / C) (((q + 1 : Nat) : Int) / C) && decide (((p + 1 : Nat) : Int) / C * C = ((p + 1 : Nat) : Int)) && decide (((q + 1 : Nat) : Int) / C * C = ((q + 1 : Nat) : Int))) = true := by decide +kernel
end K74

set_option Elab.async false
set_option linter.all false
set_option maxRecDepth 100000
set_option maxHeartbeats 4000000
namespace K74
open PySem PySem.Spec PyProof.Rows L2 Mn
theorem great_isF {a b C c1 c2 s t d i j : Int} (hC : 0 < C) (h0 : -s ≤ d) (h1 : d ≤ t) (hw : s + t < C) (hD : c1 - c2 + C * (i * a - j * b) = d) (i1 : 1 ≤ i) (j1 : 1 ≤ j) (mn : i ≤ b ∨ j ≤ a) : IsF a b C (c1 - c2) s t [(d, i, j)] := by
  refine ⟨List.pairwise_singleton _ _, fun x hx => ?_, fun m g1 g2 => ?_⟩
  · have e : x = (d, i, j) := by simpa using hx
    subst e
    exact ⟨h0, h1, i * a - j * b, hD.symm, i1, j1, rfl, by show i - b < 1 ∨ j - a < 1; omega⟩
  · refine ⟨(d, i, j), List.mem_cons_self, ?_⟩
    show d = _
    have e : C * (m - (i * a - j * b)) = (c1 - c2 + C * m) - d := by grind
    generalize m - (i * a - j * b) = u at e
    by_cases z : u = 0
    · subst z
      simp at e
      omega
    · by_cases y : 1 ≤ u
      · have := Int.mul_le_mul_of_nonneg_left y (show 0 ≤ C by omega)
        omega
      · have := Int.mul_le_mul_of_nonneg_left (show u ≤ -1 by omega) (show 0 ≤ C by omega)
        omega
theorem at5 {v : Int} (h0 : 0 ≤ v) (h1 : v < 5) : ∃ C ∈ Cs, atI [D.int 6, .int 300, .int 1, .int 17, .int 2] v = some (.int C) := by
  rcases (show v = 0 ∨ v = 1 ∨ v = 2 ∨ v = 3 ∨ v = 4 by omega) with z | z | z | z | z <;> subst z
  · exact ⟨6, by simp [Cs], by simp⟩
  · exact ⟨300, by simp [Cs], by simp⟩
  · exact ⟨1, by simp [Cs], by simp⟩
  · exact ⟨17, by simp [Cs], by simp⟩
  · exact ⟨2, by simp [Cs], atI_nat (j := 4) rfl⟩
theorem at2 {v : Int} (h0 : 0 ≤ v) (h1 : v < 2) : ∃ w : Int, (w = 1 ∨ w = 0) ∧ atI [D.int 1, .int 0] v = some (.int w) := by
  rcases (show v = 0 ∨ v = 1 by omega) with z | z <;> subst z
  · exact ⟨1, .inl rfl, by simp⟩
  · exact ⟨0, .inr rfl, by simp⟩
theorem Cs_bd {C : Int} (h : C ∈ Cs) : 1 ≤ C ∧ C ≤ 300 := by
  have : C = 6 ∨ C = 300 ∨ C = 1 ∨ C = 17 ∨ C = 2 := by simpa [Cs] using h
  omega
theorem chk_at {C v w : Int} (hC : C ∈ Cs) (h0 : 0 ≤ v) (h1 : v < 30) (hw : w = 1 ∨ w = 0) : chk C (2 + 33 * v) ((2 + 33 * v) * w + 1) = true ∧ chk C ((2 + 33 * v) * w + 1) (2 + 33 * v) = true := by
  obtain ⟨n, rfl⟩ := Int.eq_ofNat_of_zero_le h0
  have h := chk_great
  rw [List.all_eq_true] at h
  have h2 := h C hC
  rw [List.all_eq_true] at h2
  have h3 := h2 n (List.mem_range.mpr (by omega))
  rw [List.all_eq_true] at h3
  have h4 := h3 w (by rcases hw with e | e <;> subst e <;> simp)
  rwa [Bool.and_eq_true] at h4
theorem great_right {g : G} (h : HandOk g) : ∃ g', m__law_great_right [.obj 1] g = .ok (.bl true) g' ∧ HandOk g' := by
  obtain ⟨v1, g1, e1, k1, l1, u1⟩ := draw h (many := 5) (by decide)
  obtain ⟨C, hC, eC⟩ := at5 l1 u1
  obtain ⟨C0, C1⟩ := Cs_bd hC
  obtain ⟨v2, g2, e2, k2, l2, u2⟩ := draw k1 (many := 30) (by decide)
  obtain ⟨v3, g3, e3, k3, l3, u3⟩ := draw k2 (many := 2) (by decide)
  obtain ⟨w, hw, ew⟩ := at2 l3 u3
  obtain ⟨ck1, ck2⟩ := chk_at hC l2 u2 hw
  have ha : 2 ≤ 2 + 33 * v2 ∧ 2 + 33 * v2 ≤ 959 := by omega
  have hb : 1 ≤ (2 + 33 * v2) * w + 1 ∧ (2 + 33 * v2) * w + 1 ≤ 960 := by rcases hw with e | e <;> subst e <;> omega
  have cm0 : cMul 33 v2 = true := cmul_r (by omega)
  have cm1 : cMul (2 + 33 * v2) w = true := cmul_r (by omega)
  generalize ha' : 2 + 33 * v2 = a at *
  generalize hb' : a * w + 1 = b at *
  obtain ⟨v4, g4, e4, k4, l4, u4⟩ := draw k3 (many := 30) (by decide)
  have s0 := Int.emod_nonneg v4 (show C ≠ 0 by omega)
  have s1 := Int.emod_lt_of_pos v4 (show 0 < C by omega)
  generalize hs : v4 % C = s at *
  obtain ⟨v5, g5, e5, k5, l5, u5⟩ := draw k4 (many := 30) (by decide)
  have t0 := Int.emod_nonneg v5 (show C - s ≠ 0 by omega)
  have t1 := Int.emod_lt_of_pos v5 (show 0 < C - s by omega)
  generalize ht : v5 % (C - s) = t at *
  obtain ⟨v6, g6, e6, k6, l6, u6⟩ := draw k5 (many := 30) (by decide)
  have d0 := Int.emod_nonneg v6 (show s + t + 1 ≠ 0 by omega)
  have d1 := Int.emod_lt_of_pos v6 (show 0 < s + t + 1 by omega)
  generalize hd : v6 % (s + t + 1) = d' at *
  obtain ⟨v7, g7, e7, k7, l7, u7⟩ := draw k6 (many := 30) (by decide)
  obtain ⟨v8, g8, e8, k8, l8, u8⟩ := draw k7 (many := 30) (by decide)
  have i0 := Int.emod_nonneg (33 * v7 + v8) (show b ≠ 0 by omega)
  have i1 := Int.emod_lt_of_pos (33 * v7 + v8) (show 0 < b by omega)
  generalize hi : (33 * v7 + v8) % b = i' at *
  obtain ⟨v9, g9, e9, k9, l9, u9⟩ := draw k8 (many := 30) (by decide)
  obtain ⟨v10, g10, e10, k10, l10, u10⟩ := draw k9 (many := 2) (by decide)
  have cm7 : cMul 33 v7 = true := cmul_r (by omega)
  have cm9 : cMul 7 v9 = true := cmul_r (by omega)
  -- the least pair
  obtain ⟨I, J, gJ, kJ, hI, hJ, hI2, hJ2, mn, eIJ⟩ : ∃ I J gJ, HandOk gJ ∧ 1 ≤ I ∧ 1 ≤ J ∧ I ≤ 1000 ∧ J ≤ 1000 ∧ (I ≤ b ∨ J ≤ a) ∧
      ifM (tst (binM false (eqD false) (callM 2 (m__law_draw) (consA (varM 0) (consA (cM (.int 2)) (nilA)))) (cM (.int 1)))) (parM 7 8 (consA (binM false addD (cM (.int 1)) (binM false mulD (cM (.int 7)) (callM 2 (m__law_draw) (consA (varM 0) (consA (cM (.int 30)) (nilA)))))) (consA (binM false addD (cM (.int 1)) (binM false modD (calM false intC (consA (binM false addD (binM false mulD (cM (.int 33)) (callM 2 (m__law_draw) (consA (varM 0) (consA (cM (.int 30)) (nilA))))) (callM 2 (m__law_draw) (consA (varM 0) (consA (cM (.int 30)) (nilA))))) (nilA))) (varM 2))) (nilA)))) (nxM)
        [some (.obj 1), some (.int C), some (.int a), some (.int b), some (.int s), some (.int t), some (.int (d' - s)), some (.int (1 + i')), some (.int (1 + 7 * v9)), none, none, none] g9 = .ok (.nx [some (.obj 1), some (.int C), some (.int a), some (.int b), some (.int s), some (.int t), some (.int (d' - s)), some (.int I), some (.int J), none, none, none]) gJ := by
    rcases (show v10 = 1 ∨ v10 = 0 by omega) with z | z <;> subst z
    · obtain ⟨v11, g11, e11, k11, l11, u11⟩ := draw k10 (many := 30) (by decide)
      obtain ⟨v12, g12, e12, k12, l12, u12⟩ := draw k11 (many := 30) (by decide)
      obtain ⟨v13, g13, e13, k13, l13, u13⟩ := draw k12 (many := 30) (by decide)
      have j0 := Int.emod_nonneg (33 * v12 + v13) (show a ≠ 0 by omega)
      have j1 := Int.emod_lt_of_pos (33 * v12 + v13) (show 0 < a by omega)
      have cm11 : cMul 7 v11 = true := cmul_r (by omega)
      have cm12 : cMul 33 v12 = true := cmul_r (by omega)
      exact ⟨1 + 7 * v11, 1 + (33 * v12 + v13) % a, g13, k13, by omega, by omega, by omega, by omega, .inr (by omega), by simp [e10, e11, e12, e13, cm11, cm12, cmod_ok (show 0 < a by omega)]⟩
    · exact ⟨1 + i', 1 + 7 * v9, g10, k10, by omega, by omega, by omega, by omega, .inl (by omega), by simp [e10]⟩
  have x1 : I * a ≤ 1000 * 1000 := Int.mul_le_mul (by omega) (by omega) (by omega) (by omega)
  have x2 : J * b ≤ 1000 * 1000 := Int.mul_le_mul (by omega) (by omega) (by omega) (by omega)
  have x3 : 0 ≤ I * a := Int.mul_nonneg (by omega) (by omega)
  have x4 : 0 ≤ J * b := Int.mul_nonneg (by omega) (by omega)
  have y1 : I * a * C ≤ 1000000 * 300 := Int.mul_le_mul (by omega) (by omega) (by omega) (by omega)
  have y2 : J * b * C ≤ 1000000 * 300 := Int.mul_le_mul (by omega) (by omega) (by omega) (by omega)
  have y3 : 0 ≤ I * a * C := Int.mul_nonneg (by omega) (by omega)
  have y4 : 0 ≤ J * b * C := Int.mul_nonneg (by omega) (by omega)
  have z1 : a * C ≤ 1000 * 300 := Int.mul_le_mul (by omega) (by omega) (by omega) (by omega)
  have z2 : b * C ≤ 1000 * 300 := Int.mul_le_mul (by omega) (by omega) (by omega) (by omega)
  have z3 : 1 * 1 ≤ a * C := Int.mul_le_mul (by omega) (by omega) (by omega) (by omega)
  have z4 : 1 * 1 ≤ b * C := Int.mul_le_mul (by omega) (by omega) (by omega) (by omega)
  have ca : ∀ q : Int, cMul q a = true := fun q => cmul_r (by omega)
  have cb : ∀ q : Int, cMul q b = true := fun q => cmul_r (by omega)
  have cc : ∀ q : Int, cMul q C = true := fun q => cmul_r (by omega)
  obtain ⟨inv, hR⟩ := rows_of ck1
  obtain ⟨inv', hR'⟩ := rows_of ck2
  let late : Int := I * a * C - J * b * C - (d' - s)
  have hlate : late = I * a * C - J * b * C - (d' - s) := rfl
  have m1 : mx2 0 (-late) - mx2 0 late = -late := by unfold mx2; split <;> split <;> omega
  have m2 : 0 ≤ mx2 0 (-late) ∧ mx2 0 (-late) ≤ 10 ^ 12 := by unfold mx2; split <;> omega
  have m3 : 0 ≤ mx2 0 late ∧ mx2 0 late ≤ 10 ^ 12 := by unfold mx2; split <;> omega
  have K : Case (mx2 0 (-late)) (a * C) s (mx2 0 late) (b * C) t C a b inv inv' [(d' - s, I, J)] :=
    ⟨hR _ _ _ _, hR' _ _ _ _, great_isF (by omega) (by omega) (by omega) (by omega) (by rw [m1]; have : C * (I * a - J * b) = I * a * C - J * b * C := by grind
                                                                                        omega) hI hJ mn, m2.1, m2.2, m3.1, m3.2, s0, t0, by omega, by omega, by omega⟩
  obtain ⟨gf, ef, kf⟩ := two_right K (by omega) kJ
  refine ⟨gf, ?_, kf⟩
  refine defM_rt ?_
  refine (seq_nx (ρ' := [some (.obj 1), some (.int C), none, none, none, none, none, none, none, none, none, none]) (g' := g1) (by simp [e1, limS, eC])).trans ?_
  refine (seq_nx (ρ' := [some (.obj 1), some (.int C), some (.int a), none, none, none, none, none, none, none, none, none]) (g' := g2) (by simp [e2, cm0, ha'])).trans ?_
  refine (seq_nx (ρ' := [some (.obj 1), some (.int C), some (.int a), some (.int b), none, none, none, none, none, none, none, none]) (g' := g3) (by simp [e3, cm1, ew, hb', limS])).trans ?_
  refine (seq_nx (ρ' := [some (.obj 1), some (.int C), some (.int a), some (.int b), some (.int v4), none, none, none, none, none, none, none]) (g' := g4) (by simp [e4])).trans ?_
  refine (seq_nx (ρ' := [some (.obj 1), some (.int C), some (.int a), some (.int b), some (.int s), none, none, none, none, none, none, none]) (g' := g4) (by simp [hs, cmod_ok (show 0 < C by omega)])).trans ?_
  refine (seq_nx (ρ' := [some (.obj 1), some (.int C), some (.int a), some (.int b), some (.int s), some (.int t), none, none, none, none, none, none]) (g' := g5) (by simp [e5, ht, cmod_ok (show 0 < C - s by omega)])).trans ?_
  refine (seq_nx (ρ' := [some (.obj 1), some (.int C), some (.int a), some (.int b), some (.int s), some (.int t), some (.int (d' - s)), none, none, none, none, none]) (g' := g6) (by simp [e6, hd, cmod_ok (show 0 < s + t + 1 by omega)])).trans ?_
  refine (seq_nx (ρ' := [some (.obj 1), some (.int C), some (.int a), some (.int b), some (.int s), some (.int t), some (.int (d' - s)), some (.int (1 + i')), none, none, none, none]) (g' := g8) (by simp [e7, e8, hi, cm7, cmod_ok (show 0 < b by omega)])).trans ?_
  refine (seq_nx (ρ' := [some (.obj 1), some (.int C), some (.int a), some (.int b), some (.int s), some (.int t), some (.int (d' - s)), some (.int (1 + i')), some (.int (1 + 7 * v9)), none, none, none]) (g' := g9) (by simp [e9, cm9])).trans ?_
  refine (seq_nx eIJ).trans ?_
  refine (seq_nx (ρ' := [some (.obj 1), some (.int C), some (.int a), some (.int b), some (.int s), some (.int t), some (.int (d' - s)), some (.int I), some (.int J), some (.int late), none, none]) (g' := gJ) (by simp [ca, cb, cc, hlate])).trans ?_
  refine (seq_nx (ρ' := [some (.obj 1), some (.int C), some (.int a), some (.int b), some (.int s), some (.int t), some (.int (d' - s)), some (.int I), some (.int J), some (.int late), some (fx (mx2 0 (-late)) (a * C) s), none]) (g' := gJ) (by simp [cc, e_max2, -e_top2, limS, fx])).trans ?_
  refine (seq_nx (ρ' := [some (.obj 1), some (.int C), some (.int a), some (.int b), some (.int s), some (.int t), some (.int (d' - s)), some (.int I), some (.int J), some (.int late), some (fx (mx2 0 (-late)) (a * C) s), some (fx (mx2 0 late) (b * C) t)]) (g' := gJ) (by simp [cc, e_max2, -e_top2, limS, fx])).trans ?_
  have ef' : m__law_two_right [.obj 1, fx (mx2 0 (-late)) (a * C) s, fx (mx2 0 late) (b * C) t, .tup [.tup [.int (d' - s), .int I, .int J, .int b, .int a]]] gJ = .ok (.bl true) gf := ef
  simp [limS, ef']
end K74

set_option Elab.async false
set_option linter.all false
set_option maxRecDepth 100000
set_option maxHeartbeats 4000000
namespace K74
open PySem PySem.Spec PyProof.Rows L2 Mn
theorem pureF_exc {m : FM} {ds : List D} {g g' : G} {c : Str} {x : Str} {ρ : Rho} (h1 : pureDs ds = true) (h2 : m ds [] = .exc c [("at", .str x)] ρ g') : pureF m ds g = .exc c [("at", .str x)] [] g := by
  unfold pureF
  simp only [h1, if_true, h2]
  rfl
theorem told_wide (g : G) : m_told_plainly 8 [.str "wide"] g = .ok (.str "wide") g := by kernel_rfl
@[simp] theorem e_raise {c : Str} {tm : FM} {na : AM} {ρ : Rho} {g : G} : raiseM c tm na ρ g = bindA na (fun ds => fun ρ g => match ds with
  | [d] => match tm [d] g with
    | .ok d' g' => .exc c [("at", d')] ρ g'
    | _ => .no
  | _ => .no) ρ g := rfl
section
variable {x y : D} {c1 p1 s1 c2 p2 s2 k : Int}
theorem wide_met (hx : Bt x c1 p1 s1) (hy : Bt y c2 p2 s2) (hs : ¬ s1 + s2 ≤ 2000) (g : G) : pureF m_met_families [x, y] g = .exc "BadCase" [("at", .str "wide")] [] g := by
  refine pureF_exc (ρ := [some x, some y, some (fx c1 p1 s1), some (fx c2 p2 s2)]) (g' := []) (by unfold pureDs; rw [hx.pure]; unfold pureDs; rw [hy.pure]; rfl) ?_
  simp [m_met_families, hx.check, hy.check, fixed_ok, narrow_is, hs, told_wide]
theorem wide_first (hx : Bt x c1 p1 s1) (hy : Bt y c2 p2 s2) (hs : ¬ s1 + s2 ≤ 2000) (g : G) : pureF m_first_met [x, y] g = .exc "BadCase" [("at", .str "wide")] [] g := by
  refine pureF_exc (ρ := [some x, some y, some (fx c1 p1 s1), some (fx c2 p2 s2)]) (g' := []) (by unfold pureDs; rw [hx.pure]; unfold pureDs; rw [hy.pure]; rfl) ?_
  simp [m_first_met, hx.check, hy.check, fixed_ok, narrow_is, hs, told_wide]
theorem wide_num (hx : Bt x c1 p1 s1) (hy : Bt y c2 p2 s2) (hk : 0 ≤ k) (hs : ¬ s1 + s2 ≤ 2000) (g : G) : pureF m_met_number [x, y, .int k] g = .exc "BadCase" [("at", .str "wide")] [] g := by
  refine pureF_exc (ρ := [some x, some y, some (.int k), some (fx c1 p1 s1), some (fx c2 p2 s2)]) (g' := []) (by unfold pureDs; rw [hx.pure]; unfold pureDs; rw [hy.pure]; rfl) ?_
  simp [m_met_number, hx.check, hy.check, num_ok hk, fixed_ok, narrow_is, hs, told_wide]
def caseW : D := .tup [.str "case", .str "wide", .bl true, .bl false]
theorem hear_exc {z : Int} {y' : D} (px : pureD x = true) (py : pureD y = true) (hz : (z = 0 ∧ ∀ g, pureF m_met_families [x, y] g = .exc "BadCase" [("at", .str "wide")] [] g) ∨ (z = 1 ∧ ∀ g, pureF m_first_met [x, y] g = .exc "BadCase" [("at", .str "wide")] [] g) ∨
    (z = 3 ∧ ∀ g, pureF m_met_number [x, y, .int k] g = .exc "BadCase" [("at", .str "wide")] [] g)) (g : G) : pureF m__law_heard_beats [.int z, x, y, .int k] g = .ok caseW g := by
  refine pureF_ok (g' := []) (by simp [pureDs, pureD, px, py]) ?_ rfl
  rcases hz with ⟨e, h⟩ | ⟨e, h⟩ | ⟨e, h⟩ <;> subst e <;> simp [m__law_heard_beats, h, limS] <;> rfl
end
/-- the wide rows' own list -/
def wideT (c d : Int) : Tr := (d, mx2 1 (1 + (d - c)), mx2 1 (1 - (d - c)))
theorem wide_isF {c lo hi : Int} : IsF 1 1 1 (c - 0) (-lo) (hi - 1) ((rngZ lo hi 1).map (wideT c)) := by
  refine ⟨?_, fun x hx => ?_, fun m h1 h2 => ?_⟩
  · rw [List.pairwise_map]
    exact rngZ_asc (by decide)
  · obtain ⟨d, hd, e⟩ := List.mem_map.mp hx
    obtain ⟨g1, g2, _⟩ := (mem_rngZ (by decide)).mp hd
    subst e
    refine ⟨by show - -lo ≤ d; omega, by show d ≤ hi - 1; omega, d - c, by show d = _; omega, ?_⟩
    show MinP 1 1 (d - c) (mx2 1 (1 + (d - c))) (mx2 1 (1 - (d - c)))
    unfold mx2
    refine ⟨?_, ?_, ?_, ?_⟩ <;> split <;> (try split) <;> omega
  · exact ⟨_, List.mem_map.mpr ⟨c - 0 + 1 * m, (mem_rngZ (by decide)).mpr ⟨by omega, by omega, c - 0 + 1 * m - lo, by omega⟩, rfl⟩, rfl⟩
theorem rngL_Z (lo hi : Int) : rngL lo hi = (rngZ lo hi 1).map D.int := by
  unfold rngL rngZ
  rw [List.map_map, size_pos (by decide)]
  have : (hi - lo).toNat = (if lo < hi then (hi - lo - 1) / 1 + 1 else 0).toNat := by
    rw [Int.ediv_one]; split <;> omega
  rw [this]
  refine List.map_congr_left fun k _ => ?_
  show D.int (lo + (k : Int)) = D.int (lo + (k : Int) * 1)
  rw [Int.mul_one]
theorem due_loop {c : Int} {X0 X2 X3 X4 : Option D} : ∀ (l pre : List Int) (g : G) (r6 r7 : Option D), pre.length + l.length ≤ 5000 → ∃ q6 q7,
    forD (.nm 6) (seqM (setM 7 (binM false subD (varM 6) (varM 1))) (dropM (lmM appF (varM 5) (tupM (consA (varM 6) (consA (calM false maxC (consA (cM (.int 1)) (consA (binM false addD (cM (.int 1)) (varM 7)) (nilA)))) (consA (calM false maxC (consA (cM (.int 1)) (consA (binM false subD (cM (.int 1)) (varM 7)) (nilA)))) (consA (cM (.int 1)) (consA (cM (.int 1)) (nilA))))))))))
      (l.map D.int) [X0, some (.int c), X2, X3, X4, some (.obj g.length), r6, r7, none, none] (g ++ [.lst (famD 1 1 (pre.map (wideT c)))]) =
      .ok (.nx [X0, some (.int c), X2, X3, X4, some (.obj g.length), q6, q7, none, none]) (g ++ [.lst (famD 1 1 ((pre ++ l).map (wideT c)))])
  | [], pre, g, r6, r7, _ => ⟨r6, r7, by rw [List.append_nil]; rfl⟩
  | d :: l, pre, g, r6, r7, hl => by
    rw [List.length_cons] at hl
    obtain ⟨q6, q7, e⟩ := due_loop (c := c) (X0 := X0) (X2 := X2) (X3 := X3) (X4 := X4) l (pre ++ [d]) g (some (.int d)) (some (.int (d - c))) (by rw [List.length_append, List.length_singleton]; omega)
    refine ⟨q6, q7, ?_⟩
    rw [List.append_assoc, List.singleton_append] at e
    rw [← e, List.map_cons]
    have el : lstAt (g ++ [.lst (famD 1 1 (pre.map (wideT c)))]) g.length = some (famD 1 1 (pre.map (wideT c))) := by unfold lstAt; rw [List.getElem?_append_right (Nat.le_refl _)]; simp
    have ea : appF (famD 1 1 (pre.map (wideT c))) (.tup [.int d, .int (mx2 1 (1 + (d - c))), .int (mx2 1 (1 - (d - c))), .int 1, .int 1]) = some (.non, famD 1 1 ((pre ++ [d]).map (wideT c))) := by
      unfold appF
      rw [if_pos (by rw [famD_len, List.length_map]; have : LIM = 1000000 := rfl; omega), List.map_append]
      unfold famD
      rw [List.map_append]
      rfl
    have es : (g ++ [O.lst (famD 1 1 (pre.map (wideT c)))]).set g.length (.lst (famD 1 1 ((pre ++ [d]).map (wideT c)))) = g ++ [.lst (famD 1 1 ((pre ++ [d]).map (wideT c)))] := by
      rw [List.set_append_right _ _ (Nat.le_refl _)]; simp
    have ebody : ∀ ρ : Rho, ρ[5]? = some (some (.obj g.length)) → ρ[6]? = some (some (.int d)) → ρ[7]? = some (some (.int (d - c))) →
        dropM (lmM appF (varM 5) (tupM (consA (varM 6) (consA (calM false maxC (consA (cM (.int 1)) (consA (binM false addD (cM (.int 1)) (varM 7)) (nilA)))) (consA (calM false maxC (consA (cM (.int 1)) (consA (binM false subD (cM (.int 1)) (varM 7)) (nilA)))) (consA (cM (.int 1)) (consA (cM (.int 1)) (nilA)))))))) ρ (g ++ [.lst (famD 1 1 (pre.map (wideT c)))]) = .ok (.nx ρ) (g ++ [.lst (famD 1 1 ((pre ++ [d]).map (wideT c)))]) := by
      intro ρ h5 h6 h7
      simp only [e_drop, e_bindE, lmM, e_var, h5, el]
      simp [h6, h7, limS, e_max2, -e_top2]
      rw [el]
      simp only [ea, es, List.map_append]
      rfl
    refine for_nx (ρ2 := [X0, some (.int c), X2, X3, X4, some (.obj g.length), some (.int d), some (.int (d - c)), none, none]) rfl ?_
    refine (seq_nx (ρ' := [X0, some (.int c), X2, X3, X4, some (.obj g.length), some (.int d), some (.int (d - c)), none, none]) (g' := g ++ [.lst (famD 1 1 (pre.map (wideT c)))]) (by simp)).trans ?_
    exact ebody _ rfl rfl rfl
theorem wide49 {c half : Int} (c0 : 0 ≤ c) (c1 : c < 30) (h0 : 970 ≤ half) (h1 : half < 1000) {L : List Tr} (F : IsF 1 1 1 (c - 0) half (2000 - half) L) : sumF (fun x => few 1 1 7 x.2.1 x.2.2) L = 49 := by
  have h := count_all (k := 7) ⟨1, 0, by decide⟩ (by decide) (by decide) (by decide) F
  rw [List.filter_eq_self.mpr (fun p hp => by
    obtain ⟨q1, q2, q3, q4⟩ := mem_pairs.mp hp
    rw [Bool.and_eq_true, decide_eq_true_eq, decide_eq_true_eq]
    omega)] at h
  exact h.symm.trans (by decide +kernel)
end K74

set_option Elab.async false
set_option linter.all false
set_option maxRecDepth 100000
set_option maxHeartbeats 4000000
namespace K74
open PySem PySem.Spec PyProof.Rows L2 Mn
theorem chk1 : chk 1 1 1 = true := by decide +kernel
theorem case_fit : Fit caseW := ⟨by decide +kernel, rfl, by decide +kernel, by decide +kernel⟩
theorem wide_right {g : G} (h : HandOk g) : ∃ g', m__law_wide_right [.obj 1] g = .ok (.bl true) g' := by
  obtain ⟨c, g1, e1, k1, l1, u1⟩ := draw h (many := 30) (by decide)
  obtain ⟨v2, g2, e2, k2, l2, u2⟩ := draw k1 (many := 30) (by decide)
  obtain ⟨inv, hR⟩ := rows_of chk1
  have hR' : ∀ c1 s1 c2 s2, Rows c1 1 s1 c2 1 s2 1 1 1 inv := fun c1 s1 c2 s2 => hR c1 s1 c2 s2
  generalize hh : 970 + v2 = half at *
  have b0 : 970 ≤ half ∧ half < 1000 := by omega
  have F : IsF 1 1 1 (c - 0) half (2000 - half) ((rngZ (-half) (2001 - half) 1).map (wideT c)) := by
    have := wide_isF (c := c) (lo := -half) (hi := 2001 - half)
    rw [Int.neg_neg] at this
    have e : 2001 - half - 1 = 2000 - half := by omega
    rw [e] at this
    exact this
  have K : Case c 1 half 0 1 (2000 - half) 1 1 1 inv inv ((rngZ (-half) (2001 - half) 1).map (wideT c)) :=
    ⟨hR' _ _ _ _, hR' _ _ _ _, F, by omega, by omega, by omega, by omega, by omega, by omega, by omega, by omega, by omega⟩
  have hx := Bt.t (c := c) (p := 1) (s := half) (by omega) (by omega) (by omega)
  have hy := Bt.t (c := 0) (p := 1) (s := 2000 - half) (by omega) (by omega) (by omega)
  have hw := Bt.t (c := 0) (p := 1) (s := 2001 - half) (by omega) (by omega) (by omega)
  have Q := asked K hx hy
  have hl := K.len
  have Q7 := Q.h3 7 (by decide)
  rw [wide49 l1 u1 b0.1 b0.2 F] at Q7
  obtain ⟨q6, q7, ed⟩ := due_loop (c := c) (X0 := some (.obj 1)) (X2 := some (.int half)) (X3 := some (fx c 1 half)) (X4 := some (fx 0 1 (2000 - half))) (rngZ (-half) (2001 - half) 1) [] g2 none none (by rw [List.length_map] at hl; simp; omega)
  have k3 := k2.app [.lst (famD 1 1 (([] ++ rngZ (-half) (2001 - half) 1).map (wideT c)))]
  obtain ⟨v4, g4, e4, k4, l4, u4, fr4⟩ := draw2 k3 (many := 6) (by decide)
  have el4 : g4[g2.length]? = some (.lst (famD 1 1 (([] ++ rngZ (-half) (2001 - half) 1).map (wideT c)))) := by
    rw [fr4 _ (by have := k2.two; omega), List.getElem?_append_right (Nat.le_refl _)]; simp
  refine ⟨g4, ?_⟩
  refine defM_rt ?_
  refine (seq_nx (ρ' := [some (.obj 1), some (.int c), some (.int half), none, none, none, none, none, none, none]) (g' := g2) (by simp [e1, e2, hh])).trans ?_
  refine (seq_nx (ρ' := [some (.obj 1), some (.int c), some (.int half), some (fx c 1 half), some (fx 0 1 (2000 - half)), none, none, none, none, none]) (g' := g2) (by simp [limS, fx])).trans ?_
  refine (seq_nx (ρ' := [some (.obj 1), some (.int c), some (.int half), some (fx c 1 half), some (fx 0 1 (2000 - half)), some (.obj g2.length), none, none, none, none]) (g' := g2 ++ [.lst (famD 1 1 (([] : List Int).map (wideT c)))]) (by simp [famD])).trans ?_
  have er : rngA2 [.int (-half), .int (2001 - half)] = some ((rngZ (-half) (2001 - half) 1).map D.int) := by rw [rngA2_ok (by omega) (by omega) (by omega) (by omega), rngL_Z]
  refine (seq_nx (ρ' := [some (.obj 1), some (.int c), some (.int half), some (fx c 1 half), some (fx 0 1 (2000 - half)), some (.obj g2.length), q6, q7, none, none]) (g' := g2 ++ [.lst (famD 1 1 (([] ++ rngZ (-half) (2001 - half) 1).map (wideT c)))]) ?_).trans ?_
  · have eA : consA (unM negD (varM 2)) (consA (binM false subD (cM (.int 2001)) (varM 2)) (nilA)) [some (.obj 1), some (.int c), some (.int half), some (fx c 1 half), some (fx 0 1 (2000 - half)), some (.obj g2.length), none, none, none, none] (g2 ++ [.lst (famD 1 1 (([] : List Int).map (wideT c)))]) = .ok [.int (-half), .int (2001 - half)] (g2 ++ [.lst (famD 1 1 (([] : List Int).map (wideT c)))]) := by simp
    rw [e_forR, e_bindA, eA]
    simp only [er]
    exact ed
  rw [List.nil_append] at *
  generalize hW : (rngZ (-half) (2001 - half) 1).map (wideT c) = W at *
  refine (seq_nx (ρ' := [some (.obj 1), some (.int c), some (.int half), some (fx c 1 half), some (fx 0 1 (2000 - half)), some (.obj g2.length), q6, q7, none, none]) (g' := g4) ?_).trans ?_
  · by_cases z : v4 = 5
    · subst z
      have tu : tupC g4 [.obj g2.length] = some (.v (.tup (famD 1 1 W))) := by
        show (lisOf g4 (.obj g2.length)).map _ = _
        have : lisOf g4 (.obj g2.length) = some (famD 1 1 W) := by show lstAt g4 g2.length = _; unfold lstAt; rw [el4]
        rw [this]; rfl
      have w1 : ifM (notM (tst (callM 2 (pureF (m__law_just)) (consA (callM 4 (pureF (m__law_heard_beats)) (consA (cM (.int 0)) (consA (varM 3) (consA (varM 4) (consA (cM (.int 0)) (nilA)))))) (consA (tupM (consA (cM (.str "told")) (consA (calM false tupC (consA (varM 5) (nilA))) (nilA)))) (nilA)))))) (retM (cM (.bl false))) (nxM)
          [some (.obj 1), some (.int c), some (.int half), some (fx c 1 half), some (fx 0 1 (2000 - half)), some (.obj g2.length), q6, q7, none, none] g4 = .ok (.nx [some (.obj 1), some (.int c), some (.int half), some (fx c 1 half), some (fx 0 1 (2000 - half)), some (.obj g2.length), q6, q7, none, none]) g4 :=
        just_test (d := .tup [.str "told", .tup (famD 1 1 W)]) (by simp [Q.h0]) (by simp [tu, limS]) K.fit
      have w2 : ifM (notM (tst (callM 2 (pureF (m__law_just)) (consA (callM 4 (pureF (m__law_heard_beats)) (consA (cM (.int 3)) (consA (varM 3) (consA (varM 4) (consA (cM (.int 7)) (nilA)))))) (consA (tupM (consA (cM (.str "told")) (consA (cM (.int 49)) (nilA)))) (nilA)))))) (retM (cM (.bl false))) (nxM)
          [some (.obj 1), some (.int c), some (.int half), some (fx c 1 half), some (fx 0 1 (2000 - half)), some (.obj g2.length), q6, q7, none, none] g4 = .ok (.nx [some (.obj 1), some (.int c), some (.int half), some (fx c 1 half), some (fx 0 1 (2000 - half)), some (.obj g2.length), q6, q7, none, none]) g4 :=
        just_test (d := .tup [.str "told", .int 49]) (by simp [Q7]) (by simp [limS]) (fit_told (by decide) (by decide) (by decide))
      have et : tst (binM false (eqD false) (callM 2 (m__law_draw) (consA (varM 0) (consA (cM (.int 6)) (nilA)))) (cM (.int 5))) [some (.obj 1), some (.int c), some (.int half), some (fx c 1 half), some (fx 0 1 (2000 - half)), some (.obj g2.length), q6, q7, none, none] (g2 ++ [.lst (famD 1 1 W)]) = .ok true g4 := by simp [e4]
      rw [e_if, e_bindT, et]
      exact (seq_nx w1).trans w2
    · have et : tst (binM false (eqD false) (callM 2 (m__law_draw) (consA (varM 0) (consA (cM (.int 6)) (nilA)))) (cM (.int 5))) [some (.obj 1), some (.int c), some (.int half), some (fx c 1 half), some (fx 0 1 (2000 - half)), some (.obj g2.length), q6, q7, none, none] (g2 ++ [.lst (famD 1 1 W)]) = .ok false g4 := by simp [e4, z]
      rw [e_if, e_bindT, et]
      rfl
  refine (seq_nx (ρ' := [some (.obj 1), some (.int c), some (.int half), some (fx c 1 half), some (fx 0 1 (2000 - half)), some (.obj g2.length), q6, q7, some (fx 0 1 (2001 - half)), none]) (g' := g4) (by simp [limS, fx])).trans ?_
  have hn : ¬ half + (2001 - half) ≤ 2000 := by omega
  have tst3 : ∀ z : Int, z = 0 ∨ z = 1 ∨ z = 3 → ∀ g, pureF m__law_heard_beats [.int z, fx c 1 half, fx 0 1 (2001 - half), .int 5] g = .ok caseW g := fun z hz g => hear_exc (y' := .non) hx.pure hw.pure (by
    rcases hz with e | e | e
    · exact .inl ⟨e, wide_met hx hw hn⟩
    · exact .inr (.inl ⟨e, wide_first hx hw hn⟩)
    · exact .inr (.inr ⟨e, wide_num hx hw (by decide) hn⟩)) g
  have step : ∀ z : Int, z = 0 ∨ z = 1 ∨ z = 3 → ifM (notM (tst (callM 2 (pureF (m__law_just)) (consA (callM 4 (pureF (m__law_heard_beats)) (consA (varM 9) (consA (varM 3) (consA (varM 8) (consA (cM (.int 5)) (nilA)))))) (consA (tupM (consA (cM (.str "case")) (consA (cM (.str "wide")) (consA (cM (.bl true)) (consA (cM (.bl false)) (nilA)))))) (nilA)))))) (retM (cM (.bl false))) (nxM)
      [some (.obj 1), some (.int c), some (.int half), some (fx c 1 half), some (fx 0 1 (2000 - half)), some (.obj g2.length), q6, q7, some (fx 0 1 (2001 - half)), some (.int z)] g4 =
      .ok (.nx [some (.obj 1), some (.int c), some (.int half), some (fx c 1 half), some (fx 0 1 (2000 - half)), some (.obj g2.length), q6, q7, some (fx 0 1 (2001 - half)), some (.int z)]) g4 := fun z hz =>
    just_test (d := caseW) (by simp [tst3 z hz]) (by simp [limS, caseW]) case_fit
  refine (seq_nx (ρ' := [some (.obj 1), some (.int c), some (.int half), some (fx c 1 half), some (fx 0 1 (2000 - half)), some (.obj g2.length), q6, q7, some (fx 0 1 (2001 - half)), some (.int 3)]) (g' := g4) ?_).trans ?_
  · have ek : tupM (consA (cM (.int 0)) (consA (cM (.int 1)) (consA (cM (.int 3)) (nilA)))) [some (.obj 1), some (.int c), some (.int half), some (fx c 1 half), some (fx 0 1 (2000 - half)), some (.obj g2.length), q6, q7, some (fx 0 1 (2001 - half)), none] g4 = .ok (.tup [.int 0, .int 1, .int 3]) g4 := by simp [limS]
    rw [e_forM, e_bindE, ek]
    refine (for_nx rfl (step 0 (.inl rfl))).trans ?_
    refine (for_nx rfl (step 1 (.inr (.inl rfl)))).trans ?_
    exact (for_nx rfl (step 3 (.inr (.inr rfl)))).trans rfl
  · have ew : ∀ g, pureF m__law_heard_beats [.int 2, fx c 1 half, fx 0 1 (2001 - half), .int 0] g = .ok (.tup [.str "told", .bl true]) g := heard2 hx.pure hw.pure rfl fun g => by
      rw [ever_run hx hw (hR' _ _ _ _) g]
      have : decide ((c - 0) % 1 ≤ 2001 - half) = true := decide_eq_true (by omega)
      rw [this]; rfl
    simp [ew, just_ok (fit_told (r := .bl true) rfl (by decide) (by decide)), limS]
end K74

set_option Elab.async false
set_option linter.all false
set_option maxRecDepth 100000
set_option maxHeartbeats 4000000
namespace K74
open PySem PySem.Spec PyProof.Rows L2 Mn
theorem pow24 {ρ : Rho} {g : G} : binM false powD (cM (.int 30)) (cM (.int 24)) ρ g = .ok (.int 282429536481000000000000000000000000) g := by kernel_rfl
theorem for_bk {pt : Pt} {s : SM} {d : D} {l : List D} {ρ ρ1 ρ2 : Rho} {g g2 : G} (h1 : pt.put d ρ = some ρ1) (h2 : s ρ1 g = .ok (.bk ρ2) g2) : forD pt s (d :: l) ρ g = .ok (.nx ρ2) g2 := by
  rw [e_for, h1]; simp only [h2]
theorem append_ok {mo m : EM} {ρ : Rho} {g : G} {n : Nat} {l : List D} {d : D} (h1 : mo ρ g = .ok (.obj n) g) (hl : lstAt g n = some l) (h2 : m ρ g = .ok d g) (hd : l.length < LIM) : lmM appF mo m ρ g = .ok .non (g.set n (.lst (l ++ [d]))) := by
  unfold lmM
  rw [e_bindE, h1]
  simp only [hl]
  rw [e_bindE, h2]
  simp only [hl, appF, if_pos hd]
/-- the digits of one number -/
theorem hand_inner {X0 X2 : Option D} : ∀ (l : List D) (row : List Int) (left : Int) (r4 : Option D), 0 ≤ left → row.length + l.length ≤ 5000 → (∀ x ∈ row, 0 ≤ x) → ∃ (row' : List Int) (q3 q4 : Option D),
    forD (.nm 4) (seqM (dropM (lmM appF (varM 1) (binM false modD (calM false intC (consA (varM 3) (nilA))) (cM (.int 30))))) (seqM (setM 3 (binM false divD (varM 3) (cM (.int 30)))) (ifM (tst (binM false (eqD false) (varM 3) (cM (.int 0)))) (brkM) (nxM))))
      l [X0, some (.obj 0), X2, some (.int left), r4] [.lst (row.map D.int)] = .ok (.nx [X0, some (.obj 0), X2, q3, q4]) [.lst (row'.map D.int)] ∧ row'.length ≤ row.length + l.length ∧ ∀ x ∈ row', 0 ≤ x
  | [], row, left, r4, _, _, h => ⟨row, _, r4, rfl, Nat.le_refl _, h⟩
  | d :: l, row, left, r4, h0, hl, h => by
    rw [List.length_cons] at hl
    have hm := Int.emod_nonneg left (show (30 : Int) ≠ 0 by decide)
    have hd : 0 ≤ left / 30 := Int.ediv_nonneg h0 (by decide)
    have h' : ∀ x ∈ row ++ [left % 30], 0 ≤ x := fun x hx => by
      rcases List.mem_append.mp hx with z | z
      · exact h x z
      · rw [show x = left % 30 by simpa using z]; exact hm
    obtain ⟨row', q3, q4, e, el, er⟩ := hand_inner (X0 := X0) (X2 := X2) l (row ++ [left % 30]) (left / 30) (some d) hd (by rw [List.length_append, List.length_singleton]; omega) h'
    have e1 : dropM (lmM appF (varM 1) (binM false modD (calM false intC (consA (varM 3) (nilA))) (cM (.int 30)))) [X0, some (.obj 0), X2, some (.int left), some d] [.lst (row.map D.int)] = .ok (.nx [X0, some (.obj 0), X2, some (.int left), some d]) [.lst ((row ++ [left % 30]).map D.int)] := by
      rw [e_drop, e_bindE, append_ok (n := 0) (l := row.map D.int) (d := .int (left % 30)) (by simp) rfl (by simp [cmod_ok (show (0 : Int) < 30 by decide)]) (by rw [List.length_map]; have : LIM = 1000000 := rfl; omega), List.map_append]
      rfl
    have e2 : setM 3 (binM false divD (varM 3) (cM (.int 30))) [X0, some (.obj 0), X2, some (.int left), some d] [.lst ((row ++ [left % 30]).map D.int)] = .ok (.nx [X0, some (.obj 0), X2, some (.int (left / 30)), some d]) [.lst ((row ++ [left % 30]).map D.int)] := by
      simp [cdiv_ok (show (0 : Int) < 30 by decide) (show (30 : Int) < 1073741824 by decide)]
    by_cases z : left / 30 = 0
    · refine ⟨row ++ [left % 30], some (.int (left / 30)), some d, ?_, by simp only [List.length_append, List.length_cons, List.length_nil]; omega, h'⟩
      refine for_bk (ρ1 := [X0, some (.obj 0), X2, some (.int left), some d]) rfl ?_
      refine (seq_nx e1).trans ((seq_nx e2).trans ?_)
      simp [z]
    · refine ⟨row', q3, q4, ?_, by rw [List.length_append, List.length_singleton] at el; rw [List.length_cons]; omega, er⟩
      rw [← e]
      refine for_nx (ρ1 := [X0, some (.obj 0), X2, some (.int left), some d]) rfl ?_
      refine (seq_nx e1).trans ((seq_nx e2).trans ?_)
      have zb : (left / 30 == 0) = false := beq_eq_false_iff_ne.mpr z
      simp [zb]
theorem hand_outer {ns : List Int} : ∀ (js : List Nat) (row : List Int) (r2 r3 r4 : Option D), (∀ j ∈ js, j < ns.length) → row.length + 24 * js.length ≤ 2000 → (∀ x ∈ row, 0 ≤ x) → ∃ (row' : List Int) (q2 q3 q4 : Option D),
    forD (.nm 2) (seqM (setM 3 (calM false intC (consA (binM false ixD (varM 0) (varM 2)) (nilA)))) (seqM (ifM (tst (binM false (ltD) (varM 3) (cM (.int 0)))) (setM 3 (binM false subD (cM (.int 1)) (binM false mulD (cM (.int 2)) (varM 3)))) (nxM)) (seqM (setM 3 (binM false modD (calM false intC (consA (varM 3) (nilA))) (binM false powD (cM (.int 30)) (cM (.int 24))))) (forR rngA1 (.nm 4) (consA (cM (.int 24)) (nilA)) (seqM (dropM (lmM appF (varM 1) (binM false modD (calM false intC (consA (varM 3) (nilA))) (cM (.int 30))))) (seqM (setM 3 (binM false divD (varM 3) (cM (.int 30)))) (ifM (tst (binM false (eqD false) (varM 3) (cM (.int 0)))) (brkM) (nxM))))))))
      (js.map fun (j : Nat) => D.int (j : Int)) [some (.fz (ns.map D.int)), some (.obj 0), r2, r3, r4] [.lst (row.map D.int)] = .ok (.nx [some (.fz (ns.map D.int)), some (.obj 0), q2, q3, q4]) [.lst (row'.map D.int)] ∧ row'.length ≤ row.length + 24 * js.length ∧ ∀ x ∈ row', 0 ≤ x
  | [], row, r2, r3, r4, _, _, h => ⟨row, r2, r3, r4, rfl, Nat.le_refl _, h⟩
  | j :: js, row, r2, r3, r4, hj, hl, h => by
    rw [List.length_cons] at hl
    have hjl := hj j List.mem_cons_self
    have eix : atI (ns.map D.int) j = some (.int ns[j]) := atI_nat (j := j) (by rw [List.getElem?_map, List.getElem?_eq_getElem hjl]; rfl)
    have n0 := Int.emod_nonneg (if ns[j] < 0 then 1 - 2 * ns[j] else ns[j]) (show (282429536481000000000000000000000000 : Int) ≠ 0 by decide)
    obtain ⟨row1, q3, q4, e1, el1, er1⟩ := hand_inner (X0 := some (.fz (ns.map D.int))) (X2 := some (.int j)) (rngL 0 24) row ((if ns[j] < 0 then 1 - 2 * ns[j] else ns[j]) % 282429536481000000000000000000000000) r4 n0 (by show row.length + 24 ≤ 5000; omega) h
    have el2 : row1.length ≤ row.length + 24 := el1
    obtain ⟨row', w2, w3, w4, e2, el, er⟩ := hand_outer js row1 (some (.int j)) q3 q4 (fun i hi => hj i (List.mem_cons_of_mem _ hi)) (by omega) er1
    refine ⟨row', w2, w3, w4, ?_, by rw [List.length_cons]; omega, er⟩
    rw [← e2, List.map_cons]
    refine for_nx (ρ1 := [some (.fz (ns.map D.int)), some (.obj 0), some (.int j), r3, r4]) rfl ?_
    refine (seq_nx (ρ' := [some (.fz (ns.map D.int)), some (.obj 0), some (.int j), some (.int ns[j]), r4]) (g' := [.lst (row.map D.int)]) (by simp [eix])).trans ?_
    refine (seq_nx (ρ' := [some (.fz (ns.map D.int)), some (.obj 0), some (.int j), some (.int (if ns[j] < 0 then 1 - 2 * ns[j] else ns[j])), r4]) (g' := [.lst (row.map D.int)]) ?_).trans ?_
    · have cm : cMul 2 ns[j] = true := cmul_l (by decide)
      by_cases z : ns[j] < 0
      · simp [z, cm]
      · simp [z]
    refine (seq_nx (ρ' := [some (.fz (ns.map D.int)), some (.obj 0), some (.int j), some (.int ((if ns[j] < 0 then 1 - 2 * ns[j] else ns[j]) % 282429536481000000000000000000000000)), r4]) (g' := [.lst (row.map D.int)]) ?_).trans ?_
    · rw [e_set, e_bindE, e_bin, e_bindE]
      generalize (if ns[j] < 0 then 1 - 2 * ns[j] else ns[j]) = left
      have ew : calM false intC (consA (varM 3) nilA) [some (.fz (ns.map D.int)), some (.obj 0), some (.int (j : Int)), some (.int left), r4] [.lst (row.map D.int)] = .ok (.int left) [.lst (row.map D.int)] := by simp
      rw [ew]
      simp only
      rw [e_bindE, pow24]
      simp [cmod_ok (show (0 : Int) < 282429536481000000000000000000000000 by decide)]
    · have e24 : rngA1 [.int 24] = some (rngL 0 24) := rngA1_ok (by decide) (by decide)
      rw [e_forR, e_bindA]
      show (match rngA1 [.int 24] with
        | some l => forD _ _ l
        | none => fun _ _ => .no) _ _ = _
      rw [e24]
      exact e1
theorem dic_run {X0 X2 X3 X4 : Option D} {l : List D} : retM (dicM [(cM (.str "row"), varM 1), (cM (.str "at"), cM (.int 0))]) [X0, some (.obj 0), X2, X3, X4] [.lst l] = .ok (.rt (.obj 1)) [.lst l, handO 0] := by kernel_rfl
end K74

set_option Elab.async false
set_option linter.all false
set_option maxRecDepth 100000
set_option maxHeartbeats 4000000
namespace K74
open PySem PySem.Spec PyProof.Rows L2 Mn
theorem hand_j {ns : List Int} {g : G} : consA (calM false minC (consA (calM false lenD (consA (varM 0) (nilA))) (consA (cM (.int 30)) (nilA)))) (nilA) [some (.fz (ns.map D.int)), some (.obj 0), none, none, none] g = .ok [.int ((min ns.length 30 : Nat) : Int)] g := by
  have hm : mn2 ns.length 30 = ((min ns.length 30 : Nat) : Int) := by unfold mn2; split <;> omega
  simp [e_min2, -e_top2, hm]
theorem hand_r {k : Nat} (hk : k ≤ 30) : rngA1 [.int (k : Int)] = some ((List.range k).map fun (j : Nat) => D.int (j : Int)) := by
  rw [rngA1_ok (by omega) (by omega)]
  unfold rngL
  rw [Int.sub_zero, Int.toNat_natCast]
  refine congrArg some (List.map_congr_left fun k _ => ?_)
  rw [Int.zero_add]
theorem st1 (ns : List Int) : setM 1 (lstM true nilA) [some (.fz (ns.map D.int)), none, none, none, none] [] = .ok (.nx [some (.fz (ns.map D.int)), some (.obj 0), none, none, none]) [.lst (([] : List Int).map D.int)] := rfl
theorem hok {row : List Int} (el2 : row.length ≤ 1000) (er : ∀ x ∈ row, 0 ≤ x) : HandOk [.lst (row.map D.int), handO 0] := ⟨row, 0, rfl, rfl, Int.le_refl 0, el2, er⟩
theorem hsum {k : Nat} {row : List Int} (hk : k ≤ 30) (el : row.length ≤ ([] : List Int).length + 24 * (List.range k).length) : row.length ≤ 1000 := by
  rw [List.length_range] at el
  simp at el
  omega
theorem hsum0 {k : Nat} (hk : k ≤ 30) : ([] : List Int).length + 24 * (List.range k).length ≤ 2000 := by
  rw [List.length_range]
  simp
  omega
theorem hand_k {ns : List Int} {k : Nat} {z : Int} (hk : k ≤ 30) (hk2 : ∀ j ∈ List.range k, j < ns.length) (ez : rngA1 [.int z] = some ((List.range k).map fun (j : Nat) => D.int (j : Int)))
    (ej : ∀ g : G, consA (calM false minC (consA (calM false lenD (consA (varM 0) (nilA))) (consA (cM (.int 30)) (nilA)))) (nilA) [some (.fz (ns.map D.int)), some (.obj 0), none, none, none] g = .ok [.int z] g) : ∃ g, m__law_hand [.fz (ns.map D.int)] [] = .ok (.obj 1) g ∧ HandOk g := by
  obtain ⟨row, q2, q3, q4, e, el, er⟩ := hand_outer (ns := ns) (List.range k) [] none none none hk2 (hsum0 hk) (fun x hx => absurd hx List.not_mem_nil)
  refine ⟨_, ?_, hok (hsum hk el) er⟩
  unfold m__law_hand
  refine defM_rt ?_
  refine (seq_nx (st1 ns)).trans ?_
  refine (seq_nx (ρ' := [some (.fz (ns.map D.int)), some (.obj 0), q2, q3, q4]) (g' := [.lst (row.map D.int)]) ?_).trans dic_run
  rw [e_forR, e_bindA, ej]
  simp only [ez]
  exact e
theorem hand_run (ns : List Int) : ∃ g, m__law_hand [.fz (ns.map D.int)] [] = .ok (.obj 1) g ∧ HandOk g :=
  hand_k (z := ((min ns.length 30 : Nat) : Int)) (Nat.min_le_right _ _) (fun j hj => by have := List.mem_range.mp hj; omega) (hand_r (Nat.min_le_right _ _)) fun g => hand_j
end K74

set_option Elab.async false
set_option linter.all false
set_option maxRecDepth 100000
set_option maxHeartbeats 4000000
namespace K74
open PySem PySem.Spec PyProof.Rows L2 Mn
/-! ### a small row -/
theorem at6 {v : Int} (h0 : 0 ≤ v) (h1 : v < 6) : ∃ c : Int, 0 ≤ c ∧ c ≤ 20 ∧ atI [D.int 0, .int 2, .int 5, .int 1, .int 13, .int 20] v = some (.int c) := by
  rcases (show v = 0 ∨ v = 1 ∨ v = 2 ∨ v = 3 ∨ v = 4 ∨ v = 5 by omega) with z | z | z | z | z | z <;> subst z
  · exact ⟨0, by omega, by omega, atI_nat (j := 0) rfl⟩
  · exact ⟨2, by omega, by omega, atI_nat (j := 1) rfl⟩
  · exact ⟨5, by omega, by omega, atI_nat (j := 2) rfl⟩
  · exact ⟨1, by omega, by omega, atI_nat (j := 3) rfl⟩
  · exact ⟨13, by omega, by omega, atI_nat (j := 4) rfl⟩
  · exact ⟨20, by omega, by omega, atI_nat (j := 5) rfl⟩
theorem at12 {v : Int} (h0 : 0 ≤ v) (h1 : v < 12) : ∃ p : Int, 1 ≤ p ∧ p ≤ 12 ∧ atI [D.int 6, .int 4, .int 9, .int 1, .int 2, .int 3, .int 5, .int 7, .int 8, .int 10, .int 11, .int 12] v = some (.int p) := by
  rcases (show v = 0 ∨ v = 1 ∨ v = 2 ∨ v = 3 ∨ v = 4 ∨ v = 5 ∨ v = 6 ∨ v = 7 ∨ v = 8 ∨ v = 9 ∨ v = 10 ∨ v = 11 by omega) with z | z | z | z | z | z | z | z | z | z | z | z <;> subst z
  · exact ⟨6, by omega, by omega, atI_nat (j := 0) rfl⟩
  · exact ⟨4, by omega, by omega, atI_nat (j := 1) rfl⟩
  · exact ⟨9, by omega, by omega, atI_nat (j := 2) rfl⟩
  · exact ⟨1, by omega, by omega, atI_nat (j := 3) rfl⟩
  · exact ⟨2, by omega, by omega, atI_nat (j := 4) rfl⟩
  · exact ⟨3, by omega, by omega, atI_nat (j := 5) rfl⟩
  · exact ⟨5, by omega, by omega, atI_nat (j := 6) rfl⟩
  · exact ⟨7, by omega, by omega, atI_nat (j := 7) rfl⟩
  · exact ⟨8, by omega, by omega, atI_nat (j := 8) rfl⟩
  · exact ⟨10, by omega, by omega, atI_nat (j := 9) rfl⟩
  · exact ⟨11, by omega, by omega, atI_nat (j := 10) rfl⟩
  · exact ⟨12, by omega, by omega, atI_nat (j := 11) rfl⟩
theorem at5s {v : Int} (h0 : 0 ≤ v) (h1 : v < 5) : ∃ s : Int, 0 ≤ s ∧ s ≤ 5 ∧ atI [D.int 1, .int 0, .int 2, .int 5, .int 3] v = some (.int s) := by
  rcases (show v = 0 ∨ v = 1 ∨ v = 2 ∨ v = 3 ∨ v = 4 by omega) with z | z | z | z | z <;> subst z
  · exact ⟨1, by omega, by omega, atI_nat (j := 0) rfl⟩
  · exact ⟨0, by omega, by omega, atI_nat (j := 1) rfl⟩
  · exact ⟨2, by omega, by omega, atI_nat (j := 2) rfl⟩
  · exact ⟨5, by omega, by omega, atI_nat (j := 3) rfl⟩
  · exact ⟨3, by omega, by omega, atI_nat (j := 4) rfl⟩
theorem row_run {g : G} (h : HandOk g) : ∃ c p s g', m__law_small_row [.obj 1] g = .ok (fx c p s) g' ∧ HandOk g' ∧ 0 ≤ c ∧ c ≤ 20 ∧ 1 ≤ p ∧ p ≤ 12 ∧ 0 ≤ s ∧ s ≤ 5 := by
  obtain ⟨v1, g1, e1, k1, l1, u1⟩ := draw h (many := 6) (by decide)
  obtain ⟨c, c0, c1, ec⟩ := at6 l1 u1
  obtain ⟨v2, g2, e2, k2, l2, u2⟩ := draw k1 (many := 12) (by decide)
  obtain ⟨p, p0, p1, ep⟩ := at12 l2 u2
  obtain ⟨v3, g3, e3, k3, l3, u3⟩ := draw k2 (many := 5) (by decide)
  obtain ⟨s, s0, s1, es⟩ := at5s l3 u3
  exact ⟨c, p, s, g3, by simp [m__law_small_row, e1, e2, e3, ec, ep, es, limS, fx], k3, c0, c1, p0, p1, s0, s1⟩
end K74

set_option Elab.async false
set_option linter.all false
set_option maxRecDepth 100000
set_option maxHeartbeats 4000000
namespace K74
open PySem PySem.Spec PyProof.Rows L2 Mn
/-- 1 .. k -/
def upK (k : Nat) : List Int := (List.range k).map fun (n : Nat) => (n : Int) + 1
theorem upK_rng {k : Nat} {z : Int} (h : z = (k : Int)) : rngL 1 (z + 1) = (upK k).map D.int := by
  subst h
  unfold rngL upK
  have : ((k : Int) + 1 - 1).toNat = k := by omega
  rw [this, List.map_map]
  refine List.map_congr_left fun n _ => ?_
  show D.int (1 + (n : Int)) = D.int ((n : Int) + 1)
  rw [Int.add_comm]
theorem pairs_up (k : Nat) : pairs k = (upK k).flatMap fun i => (upK k).map fun j => (i, j) := by
  unfold pairs upK
  rw [List.flatMap_map]
  simp only [List.map_map]
  rfl
section
variable {c1 p1 s1 c2 p2 s2 : Int}
abbrev ap (c1 p1 c2 p2 : Int) (p : Int × Int) : Int := c1 + p.1 * p1 - c2 - p.2 * p2
abbrev win (c1 p1 s1 c2 p2 s2 : Int) (p : Int × Int) : Bool := decide (-s1 ≤ ap c1 p1 c2 p2 p) && decide (ap c1 p1 c2 p2 p ≤ s2)
theorem tried_inner {k i : Int} {g : G} (h1 : p1.natAbs < 2 ^ 64) (h2 : p2.natAbs < 2 ^ 64) : ∀ (js : List Int) (tot : Int) (r5 r6 : Option D), ∃ q5 q6,
    forD (.nm 5) (seqM (setM 6 (binM false subD (binM false subD (binM false addD (binM false ixD (varM 0) (cM (.int 1))) (binM false mulD (varM 4) (binM false ixD (varM 0) (cM (.int 2))))) (binM false ixD (varM 1) (cM (.int 1)))) (binM false mulD (varM 5) (binM false ixD (varM 1) (cM (.int 2)))))) (ifM (tst (chM (leD) (leD) (unM negD (binM false ixD (varM 0) (cM (.int 3)))) (varM 6) (binM false ixD (varM 1) (cM (.int 3))))) (setM 3 (binM false addD (varM 3) (cM (.int 1)))) (nxM)))
      (js.map D.int) [some (fx c1 p1 s1), some (fx c2 p2 s2), some (.int k), some (.int tot), some (.int i), r5, r6] g =
      .ok (.nx [some (fx c1 p1 s1), some (fx c2 p2 s2), some (.int k), some (.int (tot + (((js.map fun j => (i, j)).filter (win c1 p1 s1 c2 p2 s2)).length : Int))), some (.int i), q5, q6]) g
  | [], tot, r5, r6 => ⟨r5, r6, by simp⟩
  | j :: js, tot, r5, r6 => by
    have m1 : cMul i p1 = true := cmul_r h1
    have m2 : cMul j p2 = true := cmul_r h2
    have e0 : setM 6 (binM false subD (binM false subD (binM false addD (binM false ixD (varM 0) (cM (.int 1))) (binM false mulD (varM 4) (binM false ixD (varM 0) (cM (.int 2))))) (binM false ixD (varM 1) (cM (.int 1)))) (binM false mulD (varM 5) (binM false ixD (varM 1) (cM (.int 2))))) [some (fx c1 p1 s1), some (fx c2 p2 s2), some (.int k), some (.int tot), some (.int i), some (.int j), r6] g = .ok (.nx [some (fx c1 p1 s1), some (fx c2 p2 s2), some (.int k), some (.int tot), some (.int i), some (.int j), some (.int (ap c1 p1 c2 p2 (i, j)))]) g := by
      simp [fx, m1, m2]
    by_cases c : win c1 p1 s1 c2 p2 s2 (i, j) = true
    · obtain ⟨q5, q6, e⟩ := tried_inner (k := k) (i := i) (g := g) h1 h2 js (tot + 1) (some (.int j)) (some (.int (ap c1 p1 c2 p2 (i, j))))
      refine ⟨q5, q6, ?_⟩
      have ec : tot + ((((j :: js).map fun j => (i, j)).filter (win c1 p1 s1 c2 p2 s2)).length : Int) = tot + 1 + (((js.map fun j => (i, j)).filter (win c1 p1 s1 c2 p2 s2)).length : Int) := by
        rw [List.map_cons, List.filter_cons_of_pos c, List.length_cons]; omega
      rw [ec, ← e, List.map_cons]
      refine for_nx (ρ1 := [some (fx c1 p1 s1), some (fx c2 p2 s2), some (.int k), some (.int tot), some (.int i), some (.int j), r6]) rfl ?_
      refine (seq_nx e0).trans ?_
      rw [Bool.and_eq_true, decide_eq_true_eq, decide_eq_true_eq] at c
      simp [fx, c.1, c.2]
    · obtain ⟨q5, q6, e⟩ := tried_inner (k := k) (i := i) (g := g) h1 h2 js tot (some (.int j)) (some (.int (ap c1 p1 c2 p2 (i, j))))
      refine ⟨q5, q6, ?_⟩
      have ec : tot + ((((j :: js).map fun j => (i, j)).filter (win c1 p1 s1 c2 p2 s2)).length : Int) = tot + (((js.map fun j => (i, j)).filter (win c1 p1 s1 c2 p2 s2)).length : Int) := by
        rw [List.map_cons, List.filter_cons_of_neg c]
      rw [ec, ← e, List.map_cons]
      refine for_nx (ρ1 := [some (fx c1 p1 s1), some (fx c2 p2 s2), some (.int k), some (.int tot), some (.int i), some (.int j), r6]) rfl ?_
      refine (seq_nx e0).trans ?_
      by_cases d1 : -s1 ≤ ap c1 p1 c2 p2 (i, j)
      · have d2 : ¬ ap c1 p1 c2 p2 (i, j) ≤ s2 := fun d2 => c (by rw [Bool.and_eq_true, decide_eq_true_eq, decide_eq_true_eq]; exact ⟨d1, d2⟩)
        simp [fx, d1, d2]
      · simp [fx, d1]
theorem tried_outer {k : Int} {n : Nat} {g : G} (h1 : p1.natAbs < 2 ^ 64) (h2 : p2.natAbs < 2 ^ 64) (eR : rngA2 [.int 1, .int (k + 1)] = some ((upK n).map D.int)) : ∀ (is : List Int) (tot : Int) (r4 r5 r6 : Option D), ∃ q4 q5 q6,
    forD (.nm 4) (forR rngA2 (.nm 5) (consA (cM (.int 1)) (consA (binM false addD (varM 2) (cM (.int 1))) (nilA))) (seqM (setM 6 (binM false subD (binM false subD (binM false addD (binM false ixD (varM 0) (cM (.int 1))) (binM false mulD (varM 4) (binM false ixD (varM 0) (cM (.int 2))))) (binM false ixD (varM 1) (cM (.int 1)))) (binM false mulD (varM 5) (binM false ixD (varM 1) (cM (.int 2)))))) (ifM (tst (chM (leD) (leD) (unM negD (binM false ixD (varM 0) (cM (.int 3)))) (varM 6) (binM false ixD (varM 1) (cM (.int 3))))) (setM 3 (binM false addD (varM 3) (cM (.int 1)))) (nxM))))
      (is.map D.int) [some (fx c1 p1 s1), some (fx c2 p2 s2), some (.int k), some (.int tot), r4, r5, r6] g =
      .ok (.nx [some (fx c1 p1 s1), some (fx c2 p2 s2), some (.int k), some (.int (tot + (((is.flatMap fun i => (upK n).map fun j => (i, j)).filter (win c1 p1 s1 c2 p2 s2)).length : Int))), q4, q5, q6]) g
  | [], tot, r4, r5, r6 => ⟨r4, r5, r6, by simp⟩
  | i :: is, tot, r4, r5, r6 => by
    obtain ⟨w5, w6, e1⟩ := tried_inner (c1 := c1) (s1 := s1) (c2 := c2) (s2 := s2) (k := k) (i := i) (g := g) h1 h2 (upK n) tot r5 r6
    obtain ⟨q4, q5, q6, e⟩ := tried_outer h1 h2 eR is (tot + ((((upK n).map fun j => (i, j)).filter (win c1 p1 s1 c2 p2 s2)).length : Int)) (some (.int i)) w5 w6
    refine ⟨q4, q5, q6, ?_⟩
    rw [List.flatMap_cons, List.filter_append, List.length_append, Int.natCast_add, ← Int.add_assoc, ← e, List.map_cons]
    refine for_nx (ρ1 := [some (fx c1 p1 s1), some (fx c2 p2 s2), some (.int k), some (.int tot), some (.int i), r5, r6]) rfl ?_
    have eA : consA (cM (.int 1)) (consA (binM false addD (varM 2) (cM (.int 1))) (nilA)) [some (fx c1 p1 s1), some (fx c2 p2 s2), some (.int k), some (.int tot), some (.int i), r5, r6] g = .ok [.int 1, .int (k + 1)] g := by simp
    rw [e_forR, e_bindA, eA]
    simp only [eR]
    exact e1
theorem tried_run {k : Int} {n : Nat} (hk : k = (n : Int)) (hn : n ≤ 1000) (h1 : p1.natAbs < 2 ^ 64) (h2 : p2.natAbs < 2 ^ 64) (g : G) : pureF m__law_tried [fx c1 p1 s1, fx c2 p2 s2, .int k] g = .ok (.int (((pairs n).filter (win c1 p1 s1 c2 p2 s2)).length : Int)) g := by
  have eR : rngA2 [.int 1, .int (k + 1)] = some ((upK n).map D.int) := by rw [rngA2_ok (by decide) (by decide) (by omega) (by omega), upK_rng hk]
  refine pureF_ok (g' := []) rfl ?_ rfl
  obtain ⟨q4, q5, q6, e⟩ := tried_outer (c1 := c1) (s1 := s1) (c2 := c2) (s2 := s2) (k := k) (n := n) (g := []) h1 h2 eR (upK n) 0 none none none
  refine defM_rt ?_
  refine (seq_nx (ρ' := [some (fx c1 p1 s1), some (fx c2 p2 s2), some (.int k), some (.int 0), none, none, none]) (g' := []) (by simp)).trans ?_
  refine (seq_nx (ρ' := [some (fx c1 p1 s1), some (fx c2 p2 s2), some (.int k), some (.int (((pairs n).filter (win c1 p1 s1 c2 p2 s2)).length : Int)), q4, q5, q6]) (g' := []) ?_).trans ?_
  · have eA : consA (cM (.int 1)) (consA (binM false addD (varM 2) (cM (.int 1))) (nilA)) [some (fx c1 p1 s1), some (fx c2 p2 s2), some (.int k), some (.int 0), none, none, none] [] = .ok [.int 1, .int (k + 1)] [] := by simp
    rw [e_forR, e_bindA, eA]
    simp only [eR]
    rw [e, pairs_up, Int.zero_add]
  · simp
end
end K74

set_option Elab.async false
set_option linter.all false
set_option maxRecDepth 100000
set_option maxHeartbeats 4000000
namespace K74
open PySem PySem.Spec PyProof.Rows L2 Mn
def kvs (M : List Tr) : List (Key × D) := M.map fun x => (Sum.inl x.1, .tup [.int x.2.1, .int x.2.2])
def hasK (M : List Tr) (d : Int) : Bool := M.any fun x => decide (x.1 = d)
theorem getK_has : ∀ (M : List Tr) (d : Int), (getK (kvs M) (.inl d)).isSome = hasK M d
  | [], d => rfl
  | x :: M, d => by
    show (if (Sum.inl x.1 : Key) = .inl d then some (D.tup [.int x.2.1, .int x.2.2]) else getK (kvs M) (.inl d)).isSome = (decide (x.1 = d) || hasK M d)
    by_cases c : x.1 = d
    · rw [if_pos (by rw [c]), decide_eq_true c]; rfl
    · rw [if_neg (by intro z; cases z; exact c rfl), decide_eq_false c, Bool.false_or]
      exact getK_has M d
def fnd : List Tr → Int → Tr
  | [], d => (d, 0, 0)
  | x :: M, d => if x.1 = d then x else fnd M d
theorem fnd_ok : ∀ {M : List Tr} {d : Int}, d ∈ M.map (·.1) → getK (kvs M) (.inl d) = some (.tup [.int (fnd M d).2.1, .int (fnd M d).2.2]) ∧ fnd M d ∈ M ∧ (fnd M d).1 = d
  | [], d, h => by simp at h
  | x :: M, d, h => by
    by_cases c : x.1 = d
    · have e : fnd (x :: M) d = x := if_pos c
      rw [e]
      refine ⟨?_, List.mem_cons_self, c⟩
      show (if (Sum.inl x.1 : Key) = .inl d then some (D.tup [.int x.2.1, .int x.2.2]) else getK (kvs M) (.inl d)) = _
      rw [if_pos (by rw [c])]
    · have e : fnd (x :: M) d = fnd M d := if_neg c
      have hm : d ∈ M.map (·.1) := by
        rw [List.map_cons] at h
        rcases List.mem_cons.mp h with z | z
        · exact absurd z.symm c
        · exact z
      obtain ⟨h1, h2, h3⟩ := fnd_ok hm
      rw [e]
      refine ⟨?_, List.mem_cons_of_mem _ h2, h3⟩
      show (if (Sum.inl x.1 : Key) = .inl d then some (D.tup [.int x.2.1, .int x.2.2]) else getK (kvs M) (.inl d)) = _
      rw [if_neg (by intro z; cases z; exact c rfl)]
      exact h1
section
variable {c1 p1 s1 c2 p2 s2 C a b inv : Int}
def stp (c1 p1 s1 c2 p2 s2 : Int) (M : List Tr) (p : Int × Int) : List Tr := if (win c1 p1 s1 c2 p2 s2 p && !hasK M (ap c1 p1 c2 p2 p)) = true then M ++ [(ap c1 p1 c2 p2 p, p.1, p.2)] else M
theorem put_new {M : List Tr} {d i j : Int} (h : hasK M d = false) : putD (kvs M) (.inl d) (.tup [.int i, .int j]) = kvs (M ++ [(d, i, j)]) := by
  have e : getK (kvs M) (.inl d) = none := by
    have := getK_has M d
    rw [h] at this
    cases z : getK (kvs M) (.inl d) with
    | none => rfl
    | some v => rw [z] at this; cases this
  unfold putD
  rw [e]
  unfold kvs
  rw [List.map_append]
  rfl
theorem in_new {M : List Tr} {d : Int} {o : O} {l : G} (ho : o = .dct (kvs M)) : inD true (o :: l) (.int d) (.obj 0) = some (.v (.bl (!hasK M d))) := by
  subst ho
  show ((keyOf (.int d)).map fun k => Nv.v (.bl (xor true (getK (kvs M) k).isSome))) = _
  show some (Nv.v (.bl (xor true (getK (kvs M) (.inl d)).isSome))) = _
  rw [getK_has, Bool.true_xor]
theorem srch_inner {i : Int} (h1 : p1.natAbs < 2 ^ 64) (h2 : p2.natAbs < 2 ^ 64) : ∀ (js : List Int) (M : List Tr) (r5 r6 : Option D), M.length + js.length ≤ 100000 → ∃ q5 q6,
    forD (.nm 5) (seqM (setM 6 (binM false subD (binM false subD (binM false addD (binM false ixD (varM 0) (cM (.int 1))) (binM false mulD (varM 4) (binM false ixD (varM 0) (cM (.int 2))))) (binM false ixD (varM 1) (cM (.int 1)))) (binM false mulD (varM 5) (binM false ixD (varM 1) (cM (.int 2)))))) (ifM (andM (tst (chM (leD) (leD) (unM negD (binM false ixD (varM 0) (cM (.int 3)))) (varM 6) (binM false ixD (varM 1) (cM (.int 3))))) (tst (binM false (inD true) (varM 6) (varM 3)))) (dputM (varM 3) (varM 6) (tupM (consA (varM 4) (consA (varM 5) (nilA))))) (nxM)))
      (js.map D.int) [some (fx c1 p1 s1), some (fx c2 p2 s2), some (.int C), some (.obj 0), some (.int i), r5, r6, none] [.dct (kvs M)] =
      .ok (.nx [some (fx c1 p1 s1), some (fx c2 p2 s2), some (.int C), some (.obj 0), some (.int i), q5, q6, none]) [.dct (kvs ((js.map fun j => (i, j)).foldl (stp c1 p1 s1 c2 p2 s2) M))] ∧ ((js.map fun j => (i, j)).foldl (stp c1 p1 s1 c2 p2 s2) M).length ≤ M.length + js.length
  | [], M, r5, r6, _ => ⟨r5, r6, rfl, Nat.le_refl _⟩
  | j :: js, M, r5, r6, hl => by
    rw [List.length_cons] at hl
    have m1 : cMul i p1 = true := cmul_r h1
    have m2 : cMul j p2 = true := cmul_r h2
    have e0 : setM 6 (binM false subD (binM false subD (binM false addD (binM false ixD (varM 0) (cM (.int 1))) (binM false mulD (varM 4) (binM false ixD (varM 0) (cM (.int 2))))) (binM false ixD (varM 1) (cM (.int 1)))) (binM false mulD (varM 5) (binM false ixD (varM 1) (cM (.int 2))))) [some (fx c1 p1 s1), some (fx c2 p2 s2), some (.int C), some (.obj 0), some (.int i), some (.int j), r6, none] [.dct (kvs M)] = .ok (.nx [some (fx c1 p1 s1), some (fx c2 p2 s2), some (.int C), some (.obj 0), some (.int i), some (.int j), some (.int (ap c1 p1 c2 p2 (i, j))), none]) [.dct (kvs M)] := by
      simp [fx, m1, m2]
    have hl' : (stp c1 p1 s1 c2 p2 s2 M (i, j)).length ≤ M.length + 1 := by
      unfold stp; split
      · rw [List.length_append]; exact Nat.le_refl _
      · omega
    obtain ⟨q5, q6, e, el⟩ := srch_inner (i := i) h1 h2 js (stp c1 p1 s1 c2 p2 s2 M (i, j)) (some (.int j)) (some (.int (ap c1 p1 c2 p2 (i, j)))) (by omega)
    refine ⟨q5, q6, ?_, by rw [List.map_cons, List.foldl_cons, List.length_cons]; omega⟩
    rw [List.map_cons, List.map_cons, List.foldl_cons, ← e]
    refine for_nx (ρ1 := [some (fx c1 p1 s1), some (fx c2 p2 s2), some (.int C), some (.obj 0), some (.int i), some (.int j), r6, none]) rfl ?_
    refine (seq_nx e0).trans ?_
    have hM : (kvs M).length < LIM := by unfold kvs; rw [List.length_map]; have : LIM = 1000000 := rfl; omega
    have ein : inD true [.dct (kvs M)] (.int (ap c1 p1 c2 p2 (i, j))) (.obj 0) = some (.v (.bl (!hasK M (ap c1 p1 c2 p2 (i, j))))) := in_new rfl
    have ch : ∀ bb, win c1 p1 s1 c2 p2 s2 (i, j) = bb → chM (leD) (leD) (unM negD (binM false ixD (varM 0) (cM (.int 3)))) (varM 6) (binM false ixD (varM 1) (cM (.int 3))) [some (fx c1 p1 s1), some (fx c2 p2 s2), some (.int C), some (.obj 0), some (.int i), some (.int j), some (.int (ap c1 p1 c2 p2 (i, j))), none] [.dct (kvs M)] = .ok (.bl bb) [.dct (kvs M)] := by
      intro bb hb
      subst hb
      by_cases d1 : -s1 ≤ ap c1 p1 c2 p2 (i, j)
      · by_cases d2 : ap c1 p1 c2 p2 (i, j) ≤ s2
        · simp [fx, d1, d2]
        · simp [fx, d1, d2]
      · simp [fx, d1]
    generalize hd : ap c1 p1 c2 p2 (i, j) = d at *
    cases hw : win c1 p1 s1 c2 p2 s2 (i, j) with
    | false =>
      have es : stp c1 p1 s1 c2 p2 s2 M (i, j) = M := by unfold stp; rw [hw]; rfl
      rw [es, e_if, e_bindT, e_andM, e_bindT, e_tst, e_bindE, ch _ hw]
      rfl
    | true =>
      have ew := ch _ hw
      generalize chM (leD) (leD) (unM negD (binM false ixD (varM 0) (cM (.int 3)))) (varM 6) (binM false ixD (varM 1) (cM (.int 3))) = cm at *
      cases hh : hasK M d with
      | true =>
        have es : stp c1 p1 s1 c2 p2 s2 M (i, j) = M := by unfold stp; rw [hw, hd, hh]; rfl
        rw [hh] at ein
        rw [es]
        simp [ew, ein]
      | false =>
        have es : stp c1 p1 s1 c2 p2 s2 M (i, j) = M ++ [(d, i, j)] := by unfold stp; rw [hw, hd, hh]; rfl
        rw [hh] at ein
        have ed : dputM (varM 3) (varM 6) (tupM (consA (varM 4) (consA (varM 5) (nilA)))) [some (fx c1 p1 s1), some (fx c2 p2 s2), some (.int C), some (.obj 0), some (.int i), some (.int j), some (.int d), none] [.dct (kvs M)] = .ok (.nx [some (fx c1 p1 s1), some (fx c2 p2 s2), some (.int C), some (.obj 0), some (.int i), some (.int j), some (.int d), none]) [.dct (kvs (M ++ [(d, i, j)]))] := by
          unfold dputM
          rw [e_bindE]
          have et : tupM (consA (varM 4) (consA (varM 5) nilA)) [some (fx c1 p1 s1), some (fx c2 p2 s2), some (.int C), some (.obj 0), some (.int i), some (.int j), some (.int d), none] [O.dct (kvs M)] = .ok (.tup [.int i, .int j]) [.dct (kvs M)] := by simp [limS]
          rw [et]
          show (if (kvs M).length < LIM then Res.ok (Fl.nx _) (([O.dct (kvs M)] : G).set 0 (.dct (putD (kvs M) (.inl d) (.tup [.int i, .int j])))) else .no) = _
          rw [if_pos hM, put_new hh]
          rfl
        rw [es]
        simp [ew, ein, ed]
end
end K74

set_option Elab.async false
set_option linter.all false
set_option maxRecDepth 100000
set_option maxHeartbeats 4000000
namespace K74
open PySem PySem.Spec PyProof.Rows L2 Mn
section
variable {c1 p1 s1 c2 p2 s2 C a b inv : Int}
abbrev inB : SM := forR rngA2 (.nm 5) (consA (cM (.int 1)) (consA (cM (.int 61)) (nilA))) (seqM (setM 6 (binM false subD (binM false subD (binM false addD (binM false ixD (varM 0) (cM (.int 1))) (binM false mulD (varM 4) (binM false ixD (varM 0) (cM (.int 2))))) (binM false ixD (varM 1) (cM (.int 1)))) (binM false mulD (varM 5) (binM false ixD (varM 1) (cM (.int 2)))))) (ifM (andM (tst (chM (leD) (leD) (unM negD (binM false ixD (varM 0) (cM (.int 3)))) (varM 6) (binM false ixD (varM 1) (cM (.int 3))))) (tst (binM false (inD true) (varM 6) (varM 3)))) (dputM (varM 3) (varM 6) (tupM (consA (varM 4) (consA (varM 5) (nilA))))) (nxM)))
theorem up60 : rngA2 [.int 1, .int 61] = some ((upK 60).map D.int) := by rw [rngA2_ok (by decide) (by decide) (by decide) (by decide)]; exact congrArg some (upK_rng (k := 60) (z := 60) rfl)
theorem srch_outer (h1 : p1.natAbs < 2 ^ 64) (h2 : p2.natAbs < 2 ^ 64) : ∀ (is : List Int) (M : List Tr) (r4 r5 r6 : Option D), M.length + 60 * is.length ≤ 90000 → ∃ q4 q5 q6,
    forD (.nm 4) inB (is.map D.int) [some (fx c1 p1 s1), some (fx c2 p2 s2), some (.int C), some (.obj 0), r4, r5, r6, none] [.dct (kvs M)] =
      .ok (.nx [some (fx c1 p1 s1), some (fx c2 p2 s2), some (.int C), some (.obj 0), q4, q5, q6, none]) [.dct (kvs ((is.flatMap fun i => (upK 60).map fun j => (i, j)).foldl (stp c1 p1 s1 c2 p2 s2) M))]
  | [], M, r4, r5, r6, _ => ⟨r4, r5, r6, rfl⟩
  | i :: is, M, r4, r5, r6, hl => by
    rw [List.length_cons] at hl
    have hu : (upK 60).length = 60 := by unfold upK; rw [List.length_map, List.length_range]
    obtain ⟨w5, w6, e1, el⟩ := srch_inner (c1 := c1) (p1 := p1) (s1 := s1) (c2 := c2) (p2 := p2) (s2 := s2) (C := C) (i := i) h1 h2 (upK 60) M r5 r6 (by omega)
    obtain ⟨q4, q5, q6, e⟩ := srch_outer h1 h2 is (((upK 60).map fun j => (i, j)).foldl (stp c1 p1 s1 c2 p2 s2) M) (some (.int i)) w5 w6 (by omega)
    refine ⟨q4, q5, q6, ?_⟩
    rw [List.flatMap_cons, List.foldl_append, ← e, List.map_cons]
    refine for_nx (ρ1 := [some (fx c1 p1 s1), some (fx c2 p2 s2), some (.int C), some (.obj 0), some (.int i), r5, r6, none]) rfl ?_
    have eA : consA (cM (.int 1)) (consA (cM (.int 61)) (nilA)) [some (fx c1 p1 s1), some (fx c2 p2 s2), some (.int C), some (.obj 0), some (.int i), r5, r6, none] [.dct (kvs M)] = .ok [.int 1, .int 61] [.dct (kvs M)] := rfl
    unfold inB
    rw [e_forR, e_bindA, eA]
    simp only [up60]
    exact e1
/-! ### what the search leaves -/
structure MI (c1 p1 s1 c2 p2 s2 : Int) (pre : List (Int × Int)) (M : List Tr) : Prop where
  nd : (M.map (·.1)).Nodup
  bk : ∀ x ∈ M, (x.2.1, x.2.2) ∈ pre ∧ win c1 p1 s1 c2 p2 s2 (x.2.1, x.2.2) = true ∧ x.1 = ap c1 p1 c2 p2 (x.2.1, x.2.2)
  cv : ∀ p ∈ pre, win c1 p1 s1 c2 p2 s2 p = true → ∃ x ∈ M, x.1 = ap c1 p1 c2 p2 p ∧ x.2.1 ≤ p.1
theorem has_iff {M : List Tr} {d : Int} : hasK M d = true ↔ ∃ x ∈ M, x.1 = d := by
  unfold hasK
  rw [List.any_eq_true]
  exact ⟨fun ⟨x, h, e⟩ => ⟨x, h, of_decide_eq_true e⟩, fun ⟨x, h, e⟩ => ⟨x, h, decide_eq_true e⟩⟩
theorem MI.step {pre : List (Int × Int)} {M : List Tr} (h : MI c1 p1 s1 c2 p2 s2 pre M) {p : Int × Int} (hs : ∀ q ∈ pre, q.1 ≤ p.1) : MI c1 p1 s1 c2 p2 s2 (pre ++ [p]) (stp c1 p1 s1 c2 p2 s2 M p) := by
  unfold stp
  split
  · rename_i c
    rw [Bool.and_eq_true, Bool.not_eq_true'] at c
    obtain ⟨cw, ch⟩ := c
    refine ⟨?_, fun x hx => ?_, fun q hq hw => ?_⟩
    · rw [List.map_append, List.nodup_append]
      refine ⟨h.nd, by simp, fun u hu v hv e => ?_⟩
      obtain ⟨y, hy, ey⟩ := List.mem_map.mp hu
      have hv' : v = ap c1 p1 c2 p2 p := by simpa using hv
      have : hasK M (ap c1 p1 c2 p2 p) = true := has_iff.mpr ⟨y, hy, by rw [ey, e, hv']⟩
      rw [ch] at this
      cases this
    · rcases List.mem_append.mp hx with z | z
      · obtain ⟨b1, b2, b3⟩ := h.bk x z
        exact ⟨List.mem_append_left _ b1, b2, b3⟩
      · have e : x = (ap c1 p1 c2 p2 p, p.1, p.2) := by simpa using z
        subst e
        exact ⟨List.mem_append_right _ (by simp), cw, rfl⟩
    · rcases List.mem_append.mp hq with z | z
      · obtain ⟨x, hx, e1, e2⟩ := h.cv q z hw
        exact ⟨x, List.mem_append_left _ hx, e1, e2⟩
      · have e : q = p := by simpa using z
        subst e
        exact ⟨_, List.mem_append_right _ List.mem_cons_self, rfl, Int.le_refl _⟩
  · rename_i c
    refine ⟨h.nd, fun x hx => ?_, fun q hq hw => ?_⟩
    · obtain ⟨b1, b2, b3⟩ := h.bk x hx
      exact ⟨List.mem_append_left _ b1, b2, b3⟩
    · rcases List.mem_append.mp hq with z | z
      · exact h.cv q z hw
      · have e : q = p := by simpa using z
        subst e
        have ch : hasK M (ap c1 p1 c2 p2 q) = true := by
          cases hh : hasK M (ap c1 p1 c2 p2 q) with
          | true => rfl
          | false => exact absurd (by rw [hw, hh]; rfl) c
        obtain ⟨x, hx, ex⟩ := has_iff.mp ch
        exact ⟨x, hx, ex, hs _ (h.bk x hx).1⟩
theorem MI.fold : ∀ (l pre : List (Int × Int)) (M : List Tr), (pre ++ l).Pairwise (fun p q => p.1 ≤ q.1) → MI c1 p1 s1 c2 p2 s2 pre M → MI c1 p1 s1 c2 p2 s2 (pre ++ l) (l.foldl (stp c1 p1 s1 c2 p2 s2) M)
  | [], pre, M, _, h => by rw [List.append_nil]; exact h
  | p :: l, pre, M, hp, h => by
    have e : pre ++ p :: l = (pre ++ [p]) ++ l := by simp
    rw [e] at hp ⊢
    rw [List.foldl_cons]
    refine MI.fold l (pre ++ [p]) _ hp (h.step fun q hq => ?_)
    have h2 := (List.pairwise_append.mp hp).1
    exact (List.pairwise_append.mp h2).2.2 q hq p (by simp)
theorem pairs_le (k : Nat) : (pairs k).Pairwise fun p q => p.1 ≤ q.1 := by
  unfold pairs
  rw [List.pairwise_flatMap]
  refine ⟨fun i _ => ?_, ?_⟩
  · rw [List.pairwise_map]
    exact (List.pairwise_lt_range (n := k)).imp fun {x y} q => Int.le_refl _
  · exact (List.pairwise_lt_range (n := k)).imp fun {x y} q u hu v hv => by
      obtain ⟨_, _, e1⟩ := List.mem_map.mp hu
      obtain ⟨_, _, e2⟩ := List.mem_map.mp hv
      rw [← e1, ← e2]
      show (x : Int) + 1 ≤ (y : Int) + 1
      omega
theorem srch_MI : MI c1 p1 s1 c2 p2 s2 (pairs 60) ((pairs 60).foldl (stp c1 p1 s1 c2 p2 s2) []) := by
  have := MI.fold (c1 := c1) (p1 := p1) (s1 := s1) (c2 := c2) (p2 := p2) (s2 := s2) (pairs 60) [] [] (by rw [List.nil_append]; exact pairs_le 60) ⟨by simp, by simp, by simp⟩
  rw [List.nil_append] at this
  exact this
/-- the found ones, by their keys upwards -/
def outL (M : List Tr) : List Tr := (srtS ltI (M.map (·.1))).map (fnd M)
theorem out_mem {M : List Tr} {x : Tr} (h : x ∈ outL M) : x ∈ M := by
  obtain ⟨d, hd, e⟩ := List.mem_map.mp h
  have := (srtS_perm (lt := ltI) (M.map (·.1))).mem_iff.mp hd
  rw [← e]
  exact (fnd_ok this).2.1
theorem mem_out {M : List Tr} (hn : (M.map (·.1)).Nodup) {x : Tr} (h : x ∈ M) : ∃ y ∈ outL M, y.1 = x.1 := by
  have hd : x.1 ∈ M.map (·.1) := List.mem_map.mpr ⟨x, h, rfl⟩
  exact ⟨fnd M x.1, List.mem_map.mpr ⟨x.1, (srtS_perm (lt := ltI) (M.map (·.1))).mem_iff.mpr hd, rfl⟩, (fnd_ok hd).2.2⟩
theorem out_asc {M : List Tr} (hn : (M.map (·.1)).Nodup) : (outL M).Pairwise fun x y => x.1 < y.1 := by
  unfold outL
  rw [List.pairwise_map]
  have h1 : (srtS ltI (M.map (·.1))).Pairwise (fun x y => ltI y x = false) := srtS_srtd swoI _
  have h2 : (srtS ltI (M.map (·.1))).Nodup := (srtS_perm (lt := ltI) (M.map (·.1))).nodup_iff.mpr hn
  have h3 := h1.and h2
  refine List.Pairwise.imp_of_mem (fun {x y} hx hy q => ?_) h3
  rw [(fnd_ok ((srtS_perm (lt := ltI) (M.map (·.1))).mem_iff.mp hx)).2.2, (fnd_ok ((srtS_perm (lt := ltI) (M.map (·.1))).mem_iff.mp hy)).2.2]
  have q1 : ¬ y < x := of_decide_eq_false q.1
  have q2 := q.2
  omega
theorem key_uniq {M : List Tr} (hn : (M.map (·.1)).Nodup) : ∀ {x y : Tr}, x ∈ M → y ∈ M → x.1 = y.1 → x = y := by
  induction M with
  | nil => intro x y h; simp at h
  | cons z M ih =>
    intro x y hx hy e
    rw [List.map_cons, List.nodup_cons] at hn
    rcases List.mem_cons.mp hx with c | c <;> rcases List.mem_cons.mp hy with c' | c'
    · rw [c, c']
    · exact absurd (List.mem_map.mpr ⟨y, c', by rw [← e, c]⟩) hn.1
    · exact absurd (List.mem_map.mpr ⟨x, c, by rw [e, c']⟩) hn.1
    · exact ih hn.2 c c' e
theorem out_isF (R : Rows c1 p1 s1 c2 p2 s2 C a b inv) (hp1 : p1 ≤ 12) (hp2 : p2 ≤ 12) (hc1 : 0 ≤ c1 ∧ c1 ≤ 20) (hc2 : 0 ≤ c2 ∧ c2 ≤ 20) (hs1 : 0 ≤ s1 ∧ s1 ≤ 5) (hs2 : 0 ≤ s2 ∧ s2 ≤ 5) {M : List Tr} (h : MI c1 p1 s1 c2 p2 s2 (pairs 60) M) :
    IsF a b C (c1 - c2) s1 s2 (outL M) := by
  have apE : ∀ i j : Int, ap c1 p1 c2 p2 (i, j) = c1 - c2 + C * (i * a - j * b) := fun i j => by
    show c1 + i * p1 - c2 - j * p2 = _
    rw [R.pa, R.pb]; grind
  have hC := R.C0
  have ha := R.a0
  have hb := R.b0
  have a12 : a ≤ 12 := by have := R.pa; have := Int.mul_le_mul_of_nonneg_right (show 1 ≤ C by omega) (show 0 ≤ a by omega); omega
  have b12 : b ≤ 12 := by have := R.pb; have := Int.mul_le_mul_of_nonneg_right (show 1 ≤ C by omega) (show 0 ≤ b by omega); omega
  refine ⟨out_asc h.nd, fun x hx => ?_, fun m g1 g2 => ?_⟩
  · have hM := out_mem hx
    obtain ⟨b1, b2, b3⟩ := h.bk x hM
    have b2' := b2
    rw [Bool.and_eq_true, decide_eq_true_eq, decide_eq_true_eq] at b2'
    obtain ⟨i1, i2, j1, j2⟩ := mem_pairs.mp b1
    simp only at i1 i2 j1 j2
    refine ⟨by rw [b3]; exact b2'.1, by rw [b3]; exact b2'.2, x.2.1 * a - x.2.2 * b, b3.trans (apE _ _), i1, j1, rfl, ?_⟩
    by_cases q1 : x.2.1 - b < 1
    · exact .inl q1
    · by_cases q2 : x.2.2 - a < 1
      · exact .inr q2
      · exfalso
        have e : ap c1 p1 c2 p2 (x.2.1 - b, x.2.2 - a) = ap c1 p1 c2 p2 (x.2.1, x.2.2) := by rw [apE, apE]; grind
        obtain ⟨y, hy, e1, e2⟩ := h.cv (x.2.1 - b, x.2.2 - a) (mem_pairs.mpr ⟨by simp only; omega, by simp only; omega, by simp only; omega, by simp only; omega⟩) (by
          show (decide _ && decide _) = true
          rw [e]; exact b2)
        have exy : y = x := key_uniq h.nd hy hM (by rw [e1, e, b3])
        rw [exy] at e2
        simp only at e2
        omega
  · have P := minp_of (m := m) ha hb R.cop
    generalize fst0 m a b inv = i0 at P
    generalize (i0 * a - m) / b = j0 at P
    have pe := P.eq
    have pi := P.i1
    have pj := P.j1
    have hm : -25 ≤ m ∧ m ≤ 25 := by
      by_cases z : 0 ≤ m
      · have := Int.mul_le_mul_of_nonneg_right (show 1 ≤ C by omega) z
        omega
      · have := Int.mul_le_mul_of_nonneg_right (show 1 ≤ C by omega) (show 0 ≤ -m by omega)
        have e2 : C * -m = -(C * m) := Int.mul_neg C m
        omega
    have bnd : i0 ≤ 60 ∧ j0 ≤ 60 := by
      rcases P.mn with q | q
      · have u1 : i0 * a ≤ b * a := Int.mul_le_mul_of_nonneg_right (by omega) (by omega)
        have u2 : j0 * b ≤ (a + 25) * b := by
          have : (a + 25) * b = b * a + 25 * b := by grind
          have : 25 * 1 ≤ 25 * b := by omega
          omega
        have := Int.le_of_mul_le_mul_right u2 hb
        omega
      · have u1 : j0 * b ≤ a * b := Int.mul_le_mul_of_nonneg_right (by omega) (by omega)
        have u2 : i0 * a ≤ (b + 25) * a := by
          have : (b + 25) * a = a * b + 25 * a := by grind
          omega
        have := Int.le_of_mul_le_mul_right u2 ha
        omega
    obtain ⟨x, hx, e1, _⟩ := h.cv (i0, j0) (mem_pairs.mpr ⟨by simp only; omega, by simp only; omega, by simp only; omega, by simp only; omega⟩) (by
      show (decide _ && decide _) = true
      rw [apE, pe, Bool.and_eq_true, decide_eq_true_eq, decide_eq_true_eq]
      exact ⟨g1, g2⟩)
    obtain ⟨y, hy, e2⟩ := mem_out h.nd hx
    exact ⟨y, hy, by rw [e2, e1, apE, pe]⟩
end
end K74

set_option Elab.async false
set_option linter.all false
set_option maxRecDepth 100000
set_option maxHeartbeats 4000000
namespace K74
open PySem PySem.Spec PyProof.Rows L2 Mn
def comO (p q : Int) : Bool := match m__law_common [.int p, .int q] [] with
  | .ok (.int c) [] => decide (c = ((Nat.gcd p.natAbs q.natAbs : Nat) : Int))
  | _ => false
theorem com_all : ((List.range 12).all fun p => (List.range 12).all fun q => comO ((p + 1 : Nat) : Int) ((q + 1 : Nat) : Int)) = true := by decide +kernel
theorem com_run {p q : Int} (p0 : 1 ≤ p) (p1 : p ≤ 12) (q0 : 1 ≤ q) (q1 : q ≤ 12) (g : G) : pureF m__law_common [.int p, .int q] g = .ok (.int ((Nat.gcd p.natAbs q.natAbs : Nat) : Int)) g := by
  have h := com_all
  rw [List.all_eq_true] at h
  have h2 := h (p - 1).toNat (List.mem_range.mpr (by omega))
  rw [List.all_eq_true] at h2
  have h3 := h2 (q - 1).toNat (List.mem_range.mpr (by omega))
  have ep : (((p - 1).toNat + 1 : Nat) : Int) = p := by omega
  have eq : (((q - 1).toNat + 1 : Nat) : Int) = q := by omega
  rw [ep, eq] at h3
  unfold comO at h3
  split at h3
  · rename_i c e
    rw [← of_decide_eq_true h3]
    exact pureF_ok rfl e rfl
  · cases h3
theorem small_chk {p q : Int} (p0 : 1 ≤ p) (p1 : p ≤ 12) (q0 : 1 ≤ q) (q1 : q ≤ 12) : ∃ C a b : Int, chk C a b = true ∧ a * C = p ∧ b * C = q := by
  have h := chk_small
  rw [List.all_eq_true] at h
  have h2 := h (p - 1).toNat (List.mem_range.mpr (by omega))
  rw [List.all_eq_true] at h2
  have h3 := h2 (q - 1).toNat (List.mem_range.mpr (by omega))
  have ep : (((p - 1).toNat + 1 : Nat) : Int) = p := by omega
  have eq : (((q - 1).toNat + 1 : Nat) : Int) = q := by omega
  simp only [Bool.and_eq_true, decide_eq_true_eq] at h3
  rw [ep, eq] at h3
  exact ⟨_, _, _, h3.1.1, h3.1.2, h3.2⟩
theorem chk_swap {p q : Int} {C a b : Int} (h : chk C a b = true) (ha : a * C = p) (hb : b * C = q) (p0 : 1 ≤ p) (p1 : p ≤ 12) (q0 : 1 ≤ q) (q1 : q ≤ 12) : chk C b a = true := by
  obtain ⟨C', b', a', h', hb', ha'⟩ := small_chk q0 q1 p0 p1
  obtain ⟨i, R⟩ := rows_of h
  obtain ⟨i', R'⟩ := rows_of h'
  have r := R 0 0 0 0
  have r' := R' 0 0 0 0
  have eC : C' = C := by
    rw [← r.g, ← r'.g, ha, hb, ha', hb', Nat.gcd_comm]
  subst eC
  have e1 : b' = b := Int.eq_of_mul_eq_mul_right (by have := r.C0; omega) (hb'.trans hb.symm)
  have e2 : a' = a := Int.eq_of_mul_eq_mul_right (by have := r.C0; omega) (ha'.trans ha.symm)
  subst e1; subst e2
  exact h'
section
variable {c1 p1 s1 c2 p2 s2 C a b inv : Int}
theorem told_loop {X2 X4 X5 : Option D} {M : List Tr} (hC : 0 < C) (hC1 : C < 1073741824) (ea : p1 / C = a) (eb : p2 / C = b) : ∀ (ks : List Int) (pre : List Tr) (r6 : Option D), (∀ d ∈ ks, d ∈ M.map (·.1)) → pre.length + ks.length ≤ 5000 → ∃ q6,
    forD (.nm 6) (dropM (lmM appF (varM 7) (binM false addD (binM false addD (tupM (consA (varM 6) (nilA))) (binM false ixD (varM 3) (varM 6))) (tupM (consA (binM false divD (binM false ixD (varM 1) (cM (.int 2))) (varM 2)) (consA (binM false divD (binM false ixD (varM 0) (cM (.int 2))) (varM 2)) (nilA)))))))
      (ks.map D.int) [some (fx c1 p1 s1), some (fx c2 p2 s2), some (.int C), some (.obj 0), X4, X5, r6, some (.obj 1)] [.dct (kvs M), .lst (famD a b pre)] =
      .ok (.nx [some (fx c1 p1 s1), some (fx c2 p2 s2), some (.int C), some (.obj 0), X4, X5, q6, some (.obj 1)]) [.dct (kvs M), .lst (famD a b (pre ++ ks.map (fnd M)))]
  | [], pre, r6, _, _ => ⟨r6, by rw [List.map_nil, List.map_nil, List.append_nil]; rfl⟩
  | d :: ks, pre, r6, hk, hl => by
    rw [List.length_cons] at hl
    obtain ⟨e1, e2, e3⟩ := fnd_ok (hk d List.mem_cons_self)
    obtain ⟨q6, e⟩ := told_loop (X2 := X2) (X4 := X4) (X5 := X5) hC hC1 ea eb ks (pre ++ [fnd M d]) (some (.int d)) (fun z hz => hk z (List.mem_cons_of_mem _ hz)) (by rw [List.length_append, List.length_singleton]; omega)
    refine ⟨q6, ?_⟩
    rw [List.append_assoc, List.singleton_append] at e
    rw [List.map_cons, List.map_cons, ← e]
    refine for_nx (ρ1 := [some (fx c1 p1 s1), some (fx c2 p2 s2), some (.int C), some (.obj 0), X4, X5, some (.int d), some (.obj 1)]) rfl ?_
    have eix : ∀ l : G, ixD (O.dct (kvs M) :: l) (.obj 0) (.int d) = some (.v (.tup [.int (fnd M d).2.1, .int (fnd M d).2.2])) := fun l => by
      show (getK (kvs M) (.inl d)).map Nv.v = _
      rw [e1]; rfl
    have ev : binM false addD (binM false addD (tupM (consA (varM 6) (nilA))) (binM false ixD (varM 3) (varM 6))) (tupM (consA (binM false divD (binM false ixD (varM 1) (cM (.int 2))) (varM 2)) (consA (binM false divD (binM false ixD (varM 0) (cM (.int 2))) (varM 2)) (nilA)))) [some (fx c1 p1 s1), some (fx c2 p2 s2), some (.int C), some (.obj 0), X4, X5, some (.int d), some (.obj 1)] [.dct (kvs M), .lst (famD a b pre)] = .ok (famT (fnd M d).1 (fnd M d).2.1 (fnd M d).2.2 b a) [.dct (kvs M), .lst (famD a b pre)] := by
      rw [e3]
      simp [fx, eix, limS, cdiv_ok hC hC1, ea, eb, famT]
    rw [e_drop, e_bindE, append_ok (n := 1) (l := famD a b pre) (by simp) rfl ev (by rw [famD_len]; have : LIM = 1000000 := rfl; omega)]
    show Res.ok _ [.dct (kvs M), .lst (famD a b pre ++ [famT _ _ _ b a])] = _
    have : famD a b pre ++ [famT (fnd M d).1 (fnd M d).2.1 (fnd M d).2.2 b a] = famD a b (pre ++ [fnd M d]) := by unfold famD; rw [List.map_append]; rfl
    rw [this]
theorem keys_map (M : List Tr) : (kvs M).mapM (fun (p : Key × D) => match p.1 with | .inl i => some i | .inr _ => none) = some (M.map (·.1)) := by
  induction M with
  | nil => rfl
  | cons x M ih =>
    show (kvs (x :: M)).mapM _ = _
    unfold kvs at ih ⊢
    rw [List.map_cons, List.mapM_cons, ih]
    rfl
theorem fams_search (R : Rows c1 p1 s1 c2 p2 s2 C a b inv) (p10 : 1 ≤ p1) (p11 : p1 ≤ 12) (p20 : 1 ≤ p2) (p21 : p2 ≤ 12) (hs1 : 0 ≤ s1 ∧ s1 ≤ 5) (hs2 : 0 ≤ s2 ∧ s2 ≤ 5) (g : G) : pureF m__law_families [fx c1 p1 s1, fx c2 p2 s2] g = .ok (.tup (famD a b (outL ((pairs 60).foldl (stp c1 p1 s1 c2 p2 s2) [])))) g := by
  obtain ⟨q4, q5, q6, eo⟩ := srch_outer (c1 := c1) (p1 := p1) (s1 := s1) (c2 := c2) (p2 := p2) (s2 := s2) (C := C) (by omega) (by omega) (upK 60) [] none none none (by unfold upK; rw [List.length_map, List.length_range]; decide)
  rw [← pairs_up] at eo
  have mi := srch_MI (c1 := c1) (p1 := p1) (s1 := s1) (c2 := c2) (p2 := p2) (s2 := s2)
  generalize (pairs 60).foldl (stp c1 p1 s1 c2 p2 s2) [] = M at *
  have hlen : (M.map (·.1)).length ≤ 12 := by
    have := len_le (M.map (·.1)) (rngZ (-s1) (s2 + 1) 1) mi.nd fun d hd => by
      obtain ⟨x, hx, e⟩ := List.mem_map.mp hd
      obtain ⟨_, b2, b3⟩ := mi.bk x hx
      rw [Bool.and_eq_true, decide_eq_true_eq, decide_eq_true_eq] at b2
      refine (mem_rngZ (by decide)).mpr ⟨by omega, by omega, d + s1, by omega⟩
    have h2 := rngZ_len (i := -s1) (j := s2 + 1) (c := 1) (by decide)
    split at h2 <;> omega
  have hsl : (srtS ltI (M.map (·.1))).length ≤ 12 := by rw [(srtS_perm (lt := ltI) (M.map (·.1))).length_eq]; exact hlen
  obtain ⟨w6, et⟩ := told_loop (c1 := c1) (p1 := p1) (s1 := s1) (c2 := c2) (p2 := p2) (s2 := s2) (X2 := none) (X4 := q4) (X5 := q5) (M := M) R.C0 R.C1 R.a_ R.b_ (srtS ltI (M.map (·.1))) [] q6 (fun d hd => (srtS_perm (lt := ltI) (M.map (·.1))).mem_iff.mp hd) (by simp only [List.length_nil]; omega)
  refine pureF_ok (g' := [.dct (kvs M), .lst (famD a b (outL M))]) rfl ?_ (by show pureDs _ = true; exact famD_pure _ _ _)
  refine defM_rt ?_
  refine (seq_nx (ρ' := [some (fx c1 p1 s1), some (fx c2 p2 s2), some (.int C), none, none, none, none, none]) (g' := []) (by
    have := com_run p10 p11 p20 p21 []
    rw [R.g] at this
    simp [fx, this])).trans ?_
  refine (seq_nx (ρ' := [some (fx c1 p1 s1), some (fx c2 p2 s2), some (.int C), some (.obj 0), none, none, none, none]) (g' := [.dct (kvs [])]) rfl).trans ?_
  refine (seq_nx (ρ' := [some (fx c1 p1 s1), some (fx c2 p2 s2), some (.int C), some (.obj 0), q4, q5, q6, none]) (g' := [.dct (kvs M)]) ?_).trans ?_
  · have eA : consA (cM (.int 1)) (consA (cM (.int 61)) (nilA)) [some (fx c1 p1 s1), some (fx c2 p2 s2), some (.int C), some (.obj 0), none, none, none, none] [.dct (kvs [])] = .ok [.int 1, .int 61] [.dct (kvs [])] := rfl
    rw [e_forR, e_bindA, eA]
    simp only [up60]
    exact eo
  refine (seq_nx (ρ' := [some (fx c1 p1 s1), some (fx c2 p2 s2), some (.int C), some (.obj 0), q4, q5, q6, some (.obj 1)]) (g' := [.dct (kvs M), .lst (famD a b [])]) (by simp [famD])).trans ?_
  refine (seq_nx (ρ' := [some (fx c1 p1 s1), some (fx c2 p2 s2), some (.int C), some (.obj 0), q4, q5, w6, some (.obj 1)]) (g' := [.dct (kvs M), .lst (famD a b (outL M))]) ?_).trans ?_
  · have es : srtC [.dct (kvs M), .lst (famD a b [])] [.obj 0] = some (.n ((srtS ltI (M.map (·.1))).map D.int)) := by
      show (((kvs M).mapM (fun (p : Key × D) => match p.1 with | .inl i => some i | .inr _ => none)).bind fun ks => if ks.length < 64 then some (Nv.n ((srtS ltI ks).map D.int)) else none) = _
      rw [keys_map]
      show (if (M.map (·.1)).length < 64 then some (Nv.n ((srtS ltI (M.map (·.1))).map D.int)) else none) = _
      rw [if_pos (by omega)]
    have ew : calM false srtC (consA (varM 3) (nilA)) [some (fx c1 p1 s1), some (fx c2 p2 s2), some (.int C), some (.obj 0), q4, q5, q6, some (.obj 1)] [.dct (kvs M), .lst (famD a b [])] = .ok (.fl ((srtS ltI (M.map (·.1))).map D.int)) [.dct (kvs M), .lst (famD a b [])] := by simp [es]
    rw [e_forM, e_bindE, ew]
    exact et
  · have eT : tupC [.dct (kvs M), .lst (famD a b (outL M))] [.obj 1] = some (.v (.tup (famD a b (outL M)))) := rfl
    simp [eT]
end
end K74

set_option Elab.async false
set_option linter.all false
set_option maxRecDepth 100000
set_option maxHeartbeats 4000000
namespace K74
open PySem PySem.Spec PyProof.Rows L2 Mn
theorem small_right {g : G} (h : HandOk g) : ∃ g', m__law_small_right [.obj 1] g = .ok (.bl true) g' ∧ HandOk g' := by
  obtain ⟨c1, p1, s1, g1, e1, k1, c10, c11, p10, p11, s10, s11⟩ := row_run h
  obtain ⟨c2, p2, s2, g2, e2, k2, c20, c21, p20, p21, s20, s21⟩ := row_run k1
  obtain ⟨C, a, b, ck, ea, eb⟩ := small_chk p10 p11 p20 p21
  obtain ⟨inv, hR⟩ := rows_of ck
  obtain ⟨inv', hR'⟩ := rows_of (chk_swap ck ea eb p10 p11 p20 p21)
  rw [ea, eb] at hR
  rw [ea, eb] at hR'
  have R := hR c1 s1 c2 s2
  have R' := hR' c2 s2 c1 s1
  have F := out_isF R p11 p21 ⟨c10, c11⟩ ⟨c20, c21⟩ ⟨s10, s11⟩ ⟨s20, s21⟩ (srch_MI (c1 := c1) (p1 := p1) (s1 := s1) (c2 := c2) (p2 := p2) (s2 := s2))
  have es := fams_search R p10 p11 p20 p21 ⟨s10, s11⟩ ⟨s20, s21⟩
  generalize outL ((pairs 60).foldl (stp c1 p1 s1 c2 p2 s2) []) = L at *
  have K : Case c1 p1 s1 c2 p2 s2 C a b inv inv' L := ⟨R, R', F, c10, by omega, c20, by omega, s10, s20, by omega, p10, p20⟩
  obtain ⟨v3, g3, e3, k3, l3, u3⟩ := draw k2 (many := 30) (by decide)
  obtain ⟨v4, g4, e4, k4, l4, u4⟩ := draw k3 (many := 6) (by decide)
  obtain ⟨gf, ef, kf⟩ := two_right K (by omega) k4
  have hx := Bt.t c10 p10 s10
  have hy := Bt.t c20 p20 s20
  have Q := asked K hx hy
  -- the count of all pairs
  have cnt : ∀ n : Nat, (((pairs n).filter (win c1 p1 s1 c2 p2 s2)).length : Int) = sumF (fun x => few a b n x.2.1 x.2.2) L := fun n => by
    rw [← count_all R.co R.a0 R.b0 R.C0 F n]
    congr 2
    refine List.filter_congr fun p _ => ?_
    have : ap c1 p1 c2 p2 p = c1 - c2 + C * (p.1 * a - p.2 * b) := by
      show c1 + p.1 * p1 - c2 - p.2 * p2 = _
      rw [← ea, ← eb]; grind
    show (decide _ && decide _) = (decide _ && decide _)
    rw [this]
  have num : ∀ kk : Int, 0 ≤ kk → kk ≤ 1000 → ∀ g, pureF m__law_tried [fx c1 p1 s1, fx c2 p2 s2, .int kk] g = .ok (.int (sumF (fun x => few a b kk x.2.1 x.2.2) L)) g := fun kk h0 h1 g => by
    obtain ⟨n, rfl⟩ := Int.eq_ofNat_of_zero_le h0
    rw [tried_run (n := n) rfl (by omega) (by omega) (by omega) g, cnt n]
  have tests : ∀ (kk : Int), 0 ≤ kk → kk ≤ 1000 → ifM (notM (tst (callM 2 (pureF (m__law_just)) (consA (callM 4 (pureF (m__law_heard_beats)) (consA (cM (.int 3)) (consA (varM 1) (consA (varM 2) (consA (varM 4) (nilA)))))) (consA (tupM (consA (cM (.str "told")) (consA (callM 3 (pureF (m__law_tried)) (consA (varM 1) (consA (varM 2) (consA (varM 4) (nilA))))) (nilA)))) (nilA)))))) (retM (cM (.bl false))) (nxM)
      [some (.obj 1), some (fx c1 p1 s1), some (fx c2 p2 s2), some (.tup (famD a b L)), some (.int kk)] g4 = .ok (.nx [some (.obj 1), some (fx c1 p1 s1), some (fx c2 p2 s2), some (.tup (famD a b L)), some (.int kk)]) g4 := fun kk h0 h1 =>
    just_test (d := .tup [.str "told", .int (sumF (fun x => few a b kk x.2.1 x.2.2) L)]) (by simp [Q.h3 kk h0]) (by simp [limS, num kk h0 h1]) (K.num_fit h0 (by omega))
  refine ⟨gf, ?_, kf⟩
  refine defM_rt ?_
  refine (seq_nx (ρ' := [some (.obj 1), some (fx c1 p1 s1), some (fx c2 p2 s2), none, none]) (g' := g2) (by simp [e1, e2])).trans ?_
  refine (seq_nx (ρ' := [some (.obj 1), some (fx c1 p1 s1), some (fx c2 p2 s2), some (.tup (famD a b L)), none]) (g' := g2) (by simp [es])).trans ?_
  have m0 := Int.emod_nonneg v3 (show (21 : Int) ≠ 0 by decide)
  have m1 := Int.emod_lt_of_pos v3 (show (0 : Int) < 21 by decide)
  refine (seq_nx (ρ' := [some (.obj 1), some (fx c1 p1 s1), some (fx c2 p2 s2), some (.tup (famD a b L)), some (.int v4)]) (g' := g4) ?_).trans ?_
  · have ek : tupM (consA (binM false addD (binM false modD (calM false intC (consA (callM 2 (m__law_draw) (consA (varM 0) (consA (cM (.int 30)) (nilA)))) (nilA))) (cM (.int 21))) (cM (.int 5))) (consA (callM 2 (m__law_draw) (consA (varM 0) (consA (cM (.int 6)) (nilA)))) (nilA)))
        [some (.obj 1), some (fx c1 p1 s1), some (fx c2 p2 s2), some (.tup (famD a b L)), none] g2 = .ok (.tup [.int (v3 % 21 + 5), .int v4]) g4 := by
      simp [e3, e4, limS, cmod_ok (show (0 : Int) < 21 by decide)]
    rw [e_forM, e_bindE, ek]
    refine (for_nx rfl (tests _ (by omega) (by omega))).trans ?_
    exact (for_nx rfl (tests _ (by omega) (by omega))).trans rfl
  · simp [ef]
theorem law_holds (ns : List Int) : ∃ g, m_law [.fz (ns.map D.int)] [] = .ok (.bl true) g := by
  obtain ⟨g0, e0, k0⟩ := hand_run ns
  obtain ⟨g1, e1, k1⟩ := small_right k0
  obtain ⟨g2, e2, k2⟩ := great_right k1
  obtain ⟨g3, e3⟩ := wide_right k2
  have e4 := refused g3
  refine ⟨g3, ?_⟩
  refine defM_rt ?_
  refine (seq_nx (ρ' := [some (.fz (ns.map D.int)), some (.obj 1)]) (g' := g0) (by simp [e0])).trans ?_
  refine (seq_nx (ρ' := [some (.fz (ns.map D.int)), some (.obj 1)]) (g' := g2) (by simp [e1, e2])).trans ?_
  simp [e3, e4]
end K74

set_option Elab.async false
set_option linter.all false
set_option maxRecDepth 100000
set_option maxHeartbeats 4000000
namespace K74
open PySem PySem.Spec PyProof.Rows L2 Mn
theorem all_mk {P : Program} {w : World} {K : Fg} {h : Heap} {mg : Str → Option Value} {fl0 : Addr} (KX : K.In h) (G : h.Ns mainGlobals mg) (hfa : mg "law" = some (.ref fl0))
    {f1 : Addr} {od1 an1 : Option Addr} {sl1 : Array (Option Value)} {oc1 kV1 dc1 pm1 cd1 ct1 : Value}
    (a1 : PySem.W.nsIn K mainGlobals "told_plainly" = some (some (.ref f1))) (l1 : K.lookup f1 = some ⟨oc1, od1, .func (PySem.W.fnOf "told_plainly" "told_plainly" (defArgs s_told_plainly) (defBody s_told_plainly) (defScope s_told_plainly) .none kV1 dc1 pm1 an1 cd1 ct1), sl1⟩) (c1 : PySem.W.codeIn K cd1 "told_plainly" = true) (k1 : PySem.W.keepIn K (.ref f1) = true)
    {f2 : Addr} {od2 an2 : Option Addr} {sl2 : Array (Option Value)} {oc2 kV2 dc2 pm2 cd2 ct2 : Value}
    (a2 : PySem.W.nsIn K mainGlobals "is_int" = some (some (.ref f2))) (l2 : K.lookup f2 = some ⟨oc2, od2, .func (PySem.W.fnOf "is_int" "is_int" (defArgs s_is_int) (defBody s_is_int) (defScope s_is_int) .none kV2 dc2 pm2 an2 cd2 ct2), sl2⟩) (c2 : PySem.W.codeIn K cd2 "is_int" = true) (k2 : PySem.W.keepIn K (.ref f2) = true)
    {f3 : Addr} {od3 an3 : Option Addr} {sl3 : Array (Option Value)} {oc3 kV3 dc3 pm3 cd3 ct3 : Value}
    (a3 : PySem.W.nsIn K mainGlobals "plain_form" = some (some (.ref f3))) (l3 : K.lookup f3 = some ⟨oc3, od3, .func (PySem.W.fnOf "plain_form" "plain_form" (defArgs s_plain_form) (defBody s_plain_form) (defScope s_plain_form) .none kV3 dc3 pm3 an3 cd3 ct3), sl3⟩) (c3 : PySem.W.codeIn K cd3 "plain_form" = true) (k3 : PySem.W.keepIn K (.ref f3) = true)
    {f4 : Addr} {od4 an4 : Option Addr} {sl4 : Array (Option Value)} {oc4 kV4 dc4 pm4 cd4 ct4 : Value}
    (a4 : PySem.W.nsIn K mainGlobals "check_number" = some (some (.ref f4))) (l4 : K.lookup f4 = some ⟨oc4, od4, .func (PySem.W.fnOf "check_number" "check_number" (defArgs s_check_number) (defBody s_check_number) (defScope s_check_number) .none kV4 dc4 pm4 an4 cd4 ct4), sl4⟩) (c4 : PySem.W.codeIn K cd4 "check_number" = true) (k4 : PySem.W.keepIn K (.ref f4) = true)
    {f5 : Addr} {od5 an5 : Option Addr} {sl5 : Array (Option Value)} {oc5 kV5 dc5 pm5 cd5 ct5 : Value}
    (a5 : PySem.W.nsIn K mainGlobals "are_beats" = some (some (.ref f5))) (l5 : K.lookup f5 = some ⟨oc5, od5, .func (PySem.W.fnOf "are_beats" "are_beats" (defArgs s_are_beats) (defBody s_are_beats) (defScope s_are_beats) .none kV5 dc5 pm5 an5 cd5 ct5), sl5⟩) (c5 : PySem.W.codeIn K cd5 "are_beats" = true) (k5 : PySem.W.keepIn K (.ref f5) = true)
    {f6 : Addr} {od6 an6 : Option Addr} {sl6 : Array (Option Value)} {oc6 kV6 dc6 pm6 cd6 ct6 : Value}
    (a6 : PySem.W.nsIn K mainGlobals "check_beats" = some (some (.ref f6))) (l6 : K.lookup f6 = some ⟨oc6, od6, .func (PySem.W.fnOf "check_beats" "check_beats" (defArgs s_check_beats) (defBody s_check_beats) (defScope s_check_beats) .none kV6 dc6 pm6 an6 cd6 ct6), sl6⟩) (c6 : PySem.W.codeIn K cd6 "check_beats" = true) (k6 : PySem.W.keepIn K (.ref f6) = true)
    {f7 : Addr} {od7 an7 : Option Addr} {sl7 : Array (Option Value)} {oc7 kV7 dc7 pm7 cd7 ct7 : Value}
    (a7 : PySem.W.nsIn K mainGlobals "are_fixed" = some (some (.ref f7))) (l7 : K.lookup f7 = some ⟨oc7, od7, .func (PySem.W.fnOf "are_fixed" "are_fixed" (defArgs s_are_fixed) (defBody s_are_fixed) (defScope s_are_fixed) .none kV7 dc7 pm7 an7 cd7 ct7), sl7⟩) (c7 : PySem.W.codeIn K cd7 "are_fixed" = true) (k7 : PySem.W.keepIn K (.ref f7) = true)
    {f8 : Addr} {od8 an8 : Option Addr} {sl8 : Array (Option Value)} {oc8 kV8 dc8 pm8 cd8 ct8 : Value}
    (a8 : PySem.W.nsIn K mainGlobals "are_narrow" = some (some (.ref f8))) (l8 : K.lookup f8 = some ⟨oc8, od8, .func (PySem.W.fnOf "are_narrow" "are_narrow" (defArgs s_are_narrow) (defBody s_are_narrow) (defScope s_are_narrow) .none kV8 dc8 pm8 an8 cd8 ct8), sl8⟩) (c8 : PySem.W.codeIn K cd8 "are_narrow" = true) (k8 : PySem.W.keepIn K (.ref f8) = true)
    {f9 : Addr} {od9 an9 : Option Addr} {sl9 : Array (Option Value)} {oc9 kV9 dc9 pm9 cd9 ct9 : Value}
    (a9 : PySem.W.nsIn K mainGlobals "ever_meet" = some (some (.ref f9))) (l9 : K.lookup f9 = some ⟨oc9, od9, .func (PySem.W.fnOf "ever_meet" "ever_meet" (defArgs s_ever_meet) (defBody s_ever_meet) (defScope s_ever_meet) .none kV9 dc9 pm9 an9 cd9 ct9), sl9⟩) (c9 : PySem.W.codeIn K cd9 "ever_meet" = true) (k9 : PySem.W.keepIn K (.ref f9) = true)
    {f10 : Addr} {od10 an10 : Option Addr} {sl10 : Array (Option Value)} {oc10 kV10 dc10 pm10 cd10 ct10 : Value}
    (a10 : PySem.W.nsIn K mainGlobals "inverse_of" = some (some (.ref f10))) (l10 : K.lookup f10 = some ⟨oc10, od10, .func (PySem.W.fnOf "inverse_of" "inverse_of" (defArgs s_inverse_of) (defBody s_inverse_of) (defScope s_inverse_of) .none kV10 dc10 pm10 an10 cd10 ct10), sl10⟩) (c10 : PySem.W.codeIn K cd10 "inverse_of" = true) (k10 : PySem.W.keepIn K (.ref f10) = true)
    {f11 : Addr} {od11 an11 : Option Addr} {sl11 : Array (Option Value)} {oc11 kV11 dc11 pm11 cd11 ct11 : Value}
    (a11 : PySem.W.nsIn K mainGlobals "family_of" = some (some (.ref f11))) (l11 : K.lookup f11 = some ⟨oc11, od11, .func (PySem.W.fnOf "family_of" "family_of" (defArgs s_family_of) (defBody s_family_of) (defScope s_family_of) .none kV11 dc11 pm11 an11 cd11 ct11), sl11⟩) (c11 : PySem.W.codeIn K cd11 "family_of" = true) (k11 : PySem.W.keepIn K (.ref f11) = true)
    {f12 : Addr} {od12 an12 : Option Addr} {sl12 : Array (Option Value)} {oc12 kV12 dc12 pm12 cd12 ct12 : Value}
    (a12 : PySem.W.nsIn K mainGlobals "families_of" = some (some (.ref f12))) (l12 : K.lookup f12 = some ⟨oc12, od12, .func (PySem.W.fnOf "families_of" "families_of" (defArgs s_families_of) (defBody s_families_of) (defScope s_families_of) .none kV12 dc12 pm12 an12 cd12 ct12), sl12⟩) (c12 : PySem.W.codeIn K cd12 "families_of" = true) (k12 : PySem.W.keepIn K (.ref f12) = true)
    {f13 : Addr} {od13 an13 : Option Addr} {sl13 : Array (Option Value)} {oc13 kV13 dc13 pm13 cd13 ct13 : Value}
    (a13 : PySem.W.nsIn K mainGlobals "met_families" = some (some (.ref f13))) (l13 : K.lookup f13 = some ⟨oc13, od13, .func (PySem.W.fnOf "met_families" "met_families" (defArgs s_met_families) (defBody s_met_families) (defScope s_met_families) .none kV13 dc13 pm13 an13 cd13 ct13), sl13⟩) (c13 : PySem.W.codeIn K cd13 "met_families" = true) (k13 : PySem.W.keepIn K (.ref f13) = true)
    {f14 : Addr} {od14 an14 : Option Addr} {sl14 : Array (Option Value)} {oc14 kV14 dc14 pm14 cd14 ct14 : Value}
    (a14 : PySem.W.nsIn K mainGlobals "pairs_within" = some (some (.ref f14))) (l14 : K.lookup f14 = some ⟨oc14, od14, .func (PySem.W.fnOf "pairs_within" "pairs_within" (defArgs s_pairs_within) (defBody s_pairs_within) (defScope s_pairs_within) .none kV14 dc14 pm14 an14 cd14 ct14), sl14⟩) (c14 : PySem.W.codeIn K cd14 "pairs_within" = true) (k14 : PySem.W.keepIn K (.ref f14) = true)
    {f15 : Addr} {od15 an15 : Option Addr} {sl15 : Array (Option Value)} {oc15 kV15 dc15 pm15 cd15 ct15 : Value}
    (a15 : PySem.W.nsIn K mainGlobals "met_number" = some (some (.ref f15))) (l15 : K.lookup f15 = some ⟨oc15, od15, .func (PySem.W.fnOf "met_number" "met_number" (defArgs s_met_number) (defBody s_met_number) (defScope s_met_number) .none kV15 dc15 pm15 an15 cd15 ct15), sl15⟩) (c15 : PySem.W.codeIn K cd15 "met_number" = true) (k15 : PySem.W.keepIn K (.ref f15) = true)
    {f16 : Addr} {od16 an16 : Option Addr} {sl16 : Array (Option Value)} {oc16 kV16 dc16 pm16 cd16 ct16 : Value}
    (a16 : PySem.W.nsIn K mainGlobals "first_of_families" = some (some (.ref f16))) (l16 : K.lookup f16 = some ⟨oc16, od16, .func (PySem.W.fnOf "first_of_families" "first_of_families" (defArgs s_first_of_families) (defBody s_first_of_families) (defScope s_first_of_families) .none kV16 dc16 pm16 an16 cd16 ct16), sl16⟩) (c16 : PySem.W.codeIn K cd16 "first_of_families" = true) (k16 : PySem.W.keepIn K (.ref f16) = true)
    {f17 : Addr} {od17 an17 : Option Addr} {sl17 : Array (Option Value)} {oc17 kV17 dc17 pm17 cd17 ct17 : Value}
    (a17 : PySem.W.nsIn K mainGlobals "first_met" = some (some (.ref f17))) (l17 : K.lookup f17 = some ⟨oc17, od17, .func (PySem.W.fnOf "first_met" "first_met" (defArgs s_first_met) (defBody s_first_met) (defScope s_first_met) .none kV17 dc17 pm17 an17 cd17 ct17), sl17⟩) (c17 : PySem.W.codeIn K cd17 "first_met" = true) (k17 : PySem.W.keepIn K (.ref f17) = true)
    {f18 : Addr} {od18 an18 : Option Addr} {sl18 : Array (Option Value)} {oc18 kV18 dc18 pm18 cd18 ct18 : Value}
    (a18 : PySem.W.nsIn K mainGlobals "_law_hand" = some (some (.ref f18))) (l18 : K.lookup f18 = some ⟨oc18, od18, .func (PySem.W.fnOf "_law_hand" "_law_hand" (defArgs s__law_hand) (defBody s__law_hand) (defScope s__law_hand) .none kV18 dc18 pm18 an18 cd18 ct18), sl18⟩) (c18 : PySem.W.codeIn K cd18 "_law_hand" = true) (k18 : PySem.W.keepIn K (.ref f18) = true)
    {f19 : Addr} {od19 an19 : Option Addr} {sl19 : Array (Option Value)} {oc19 kV19 dc19 pm19 cd19 ct19 : Value}
    (a19 : PySem.W.nsIn K mainGlobals "_law_draw" = some (some (.ref f19))) (l19 : K.lookup f19 = some ⟨oc19, od19, .func (PySem.W.fnOf "_law_draw" "_law_draw" (defArgs s__law_draw) (defBody s__law_draw) (defScope s__law_draw) .none kV19 dc19 pm19 an19 cd19 ct19), sl19⟩) (c19 : PySem.W.codeIn K cd19 "_law_draw" = true) (k19 : PySem.W.keepIn K (.ref f19) = true)
    {f20 : Addr} {od20 an20 : Option Addr} {sl20 : Array (Option Value)} {oc20 kV20 dc20 pm20 cd20 ct20 : Value}
    (a20 : PySem.W.nsIn K mainGlobals "_law_just" = some (some (.ref f20))) (l20 : K.lookup f20 = some ⟨oc20, od20, .func (PySem.W.fnOf "_law_just" "_law_just" (defArgs s__law_just) (defBody s__law_just) (defScope s__law_just) .none kV20 dc20 pm20 an20 cd20 ct20), sl20⟩) (c20 : PySem.W.codeIn K cd20 "_law_just" = true) (k20 : PySem.W.keepIn K (.ref f20) = true)
    {f21 : Addr} {od21 an21 : Option Addr} {sl21 : Array (Option Value)} {oc21 kV21 dc21 pm21 cd21 ct21 : Value}
    (a21 : PySem.W.nsIn K mainGlobals "_law_common" = some (some (.ref f21))) (l21 : K.lookup f21 = some ⟨oc21, od21, .func (PySem.W.fnOf "_law_common" "_law_common" (defArgs s__law_common) (defBody s__law_common) (defScope s__law_common) .none kV21 dc21 pm21 an21 cd21 ct21), sl21⟩) (c21 : PySem.W.codeIn K cd21 "_law_common" = true) (k21 : PySem.W.keepIn K (.ref f21) = true)
    {f22 : Addr} {od22 an22 : Option Addr} {sl22 : Array (Option Value)} {oc22 kV22 dc22 pm22 cd22 ct22 : Value}
    (a22 : PySem.W.nsIn K mainGlobals "_law_small_row" = some (some (.ref f22))) (l22 : K.lookup f22 = some ⟨oc22, od22, .func (PySem.W.fnOf "_law_small_row" "_law_small_row" (defArgs s__law_small_row) (defBody s__law_small_row) (defScope s__law_small_row) .none kV22 dc22 pm22 an22 cd22 ct22), sl22⟩) (c22 : PySem.W.codeIn K cd22 "_law_small_row" = true) (k22 : PySem.W.keepIn K (.ref f22) = true)
    {f23 : Addr} {od23 an23 : Option Addr} {sl23 : Array (Option Value)} {oc23 kV23 dc23 pm23 cd23 ct23 : Value}
    (a23 : PySem.W.nsIn K mainGlobals "_law_families" = some (some (.ref f23))) (l23 : K.lookup f23 = some ⟨oc23, od23, .func (PySem.W.fnOf "_law_families" "_law_families" (defArgs s__law_families) (defBody s__law_families) (defScope s__law_families) .none kV23 dc23 pm23 an23 cd23 ct23), sl23⟩) (c23 : PySem.W.codeIn K cd23 "_law_families" = true) (k23 : PySem.W.keepIn K (.ref f23) = true)
    {f24 : Addr} {od24 an24 : Option Addr} {sl24 : Array (Option Value)} {oc24 kV24 dc24 pm24 cd24 ct24 : Value}
    (a24 : PySem.W.nsIn K mainGlobals "_law_many" = some (some (.ref f24))) (l24 : K.lookup f24 = some ⟨oc24, od24, .func (PySem.W.fnOf "_law_many" "_law_many" (defArgs s__law_many) (defBody s__law_many) (defScope s__law_many) .none kV24 dc24 pm24 an24 cd24 ct24), sl24⟩) (c24 : PySem.W.codeIn K cd24 "_law_many" = true) (k24 : PySem.W.keepIn K (.ref f24) = true)
    {f25 : Addr} {od25 an25 : Option Addr} {sl25 : Array (Option Value)} {oc25 kV25 dc25 pm25 cd25 ct25 : Value}
    (a25 : PySem.W.nsIn K mainGlobals "_law_tried" = some (some (.ref f25))) (l25 : K.lookup f25 = some ⟨oc25, od25, .func (PySem.W.fnOf "_law_tried" "_law_tried" (defArgs s__law_tried) (defBody s__law_tried) (defScope s__law_tried) .none kV25 dc25 pm25 an25 cd25 ct25), sl25⟩) (c25 : PySem.W.codeIn K cd25 "_law_tried" = true) (k25 : PySem.W.keepIn K (.ref f25) = true)
    {f26 : Addr} {od26 an26 : Option Addr} {sl26 : Array (Option Value)} {oc26 kV26 dc26 pm26 cd26 ct26 : Value}
    (a26 : PySem.W.nsIn K mainGlobals "_law_heard_beats" = some (some (.ref f26))) (l26 : K.lookup f26 = some ⟨oc26, od26, .func (PySem.W.fnOf "_law_heard_beats" "_law_heard_beats" (defArgs s__law_heard_beats) (defBody s__law_heard_beats) (defScope s__law_heard_beats) .none kV26 dc26 pm26 an26 cd26 ct26), sl26⟩) (c26 : PySem.W.codeIn K cd26 "_law_heard_beats" = true) (k26 : PySem.W.keepIn K (.ref f26) = true)
    {f27 : Addr} {od27 an27 : Option Addr} {sl27 : Array (Option Value)} {oc27 kV27 dc27 pm27 cd27 ct27 : Value}
    (a27 : PySem.W.nsIn K mainGlobals "_law_two_right" = some (some (.ref f27))) (l27 : K.lookup f27 = some ⟨oc27, od27, .func (PySem.W.fnOf "_law_two_right" "_law_two_right" (defArgs s__law_two_right) (defBody s__law_two_right) (defScope s__law_two_right) .none kV27 dc27 pm27 an27 cd27 ct27), sl27⟩) (c27 : PySem.W.codeIn K cd27 "_law_two_right" = true) (k27 : PySem.W.keepIn K (.ref f27) = true)
    {f28 : Addr} {od28 an28 : Option Addr} {sl28 : Array (Option Value)} {oc28 kV28 dc28 pm28 cd28 ct28 : Value}
    (a28 : PySem.W.nsIn K mainGlobals "_law_small_right" = some (some (.ref f28))) (l28 : K.lookup f28 = some ⟨oc28, od28, .func (PySem.W.fnOf "_law_small_right" "_law_small_right" (defArgs s__law_small_right) (defBody s__law_small_right) (defScope s__law_small_right) .none kV28 dc28 pm28 an28 cd28 ct28), sl28⟩) (c28 : PySem.W.codeIn K cd28 "_law_small_right" = true) (k28 : PySem.W.keepIn K (.ref f28) = true)
    {f29 : Addr} {od29 an29 : Option Addr} {sl29 : Array (Option Value)} {oc29 kV29 dc29 pm29 cd29 ct29 : Value}
    (a29 : PySem.W.nsIn K mainGlobals "_law_great_right" = some (some (.ref f29))) (l29 : K.lookup f29 = some ⟨oc29, od29, .func (PySem.W.fnOf "_law_great_right" "_law_great_right" (defArgs s__law_great_right) (defBody s__law_great_right) (defScope s__law_great_right) .none kV29 dc29 pm29 an29 cd29 ct29), sl29⟩) (c29 : PySem.W.codeIn K cd29 "_law_great_right" = true) (k29 : PySem.W.keepIn K (.ref f29) = true)
    {f30 : Addr} {od30 an30 : Option Addr} {sl30 : Array (Option Value)} {oc30 kV30 dc30 pm30 cd30 ct30 : Value}
    (a30 : PySem.W.nsIn K mainGlobals "_law_wide_right" = some (some (.ref f30))) (l30 : K.lookup f30 = some ⟨oc30, od30, .func (PySem.W.fnOf "_law_wide_right" "_law_wide_right" (defArgs s__law_wide_right) (defBody s__law_wide_right) (defScope s__law_wide_right) .none kV30 dc30 pm30 an30 cd30 ct30), sl30⟩) (c30 : PySem.W.codeIn K cd30 "_law_wide_right" = true) (k30 : PySem.W.keepIn K (.ref f30) = true)
    {f31 : Addr} {od31 an31 : Option Addr} {sl31 : Array (Option Value)} {oc31 kV31 dc31 pm31 cd31 ct31 : Value}
    (a31 : PySem.W.nsIn K mainGlobals "_law_refused" = some (some (.ref f31))) (l31 : K.lookup f31 = some ⟨oc31, od31, .func (PySem.W.fnOf "_law_refused" "_law_refused" (defArgs s__law_refused) (defBody s__law_refused) (defScope s__law_refused) .none kV31 dc31 pm31 an31 cd31 ct31), sl31⟩) (c31 : PySem.W.codeIn K cd31 "_law_refused" = true) (k31 : PySem.W.keepIn K (.ref f31) = true)
    {f32 : Addr} {od32 an32 : Option Addr} {sl32 : Array (Option Value)} {oc32 kV32 dc32 pm32 cd32 ct32 : Value}
    (a32 : PySem.W.nsIn K mainGlobals "law" = some (some (.ref f32))) (l32 : K.lookup f32 = some ⟨oc32, od32, .func (PySem.W.fnOf "law" "law" (defArgs s_law) (defBody s_law) (defScope s_law) .none kV32 dc32 pm32 an32 cd32 ct32), sl32⟩) (c32 : PySem.W.codeIn K cd32 "law" = true) (k32 : PySem.W.keepIn K (.ref f32) = true)
    {C_ClockError : Addr} (A_ClockError : PySem.W.nsIn K mainGlobals "ClockError" = some (some (.ref C_ClockError)))
    {C_BadNumber : Addr} (A_BadNumber : PySem.W.nsIn K mainGlobals "BadNumber" = some (some (.ref C_BadNumber)))
    {C_BadBounds : Addr} (A_BadBounds : PySem.W.nsIn K mainGlobals "BadBounds" = some (some (.ref C_BadBounds)))
    {C_BadCase : Addr} (A_BadCase : PySem.W.nsIn K mainGlobals "BadCase" = some (some (.ref C_BadCase)))
    (e1_BadBounds : PySem.W.subIn K (.ref C_BadBounds) (.type "BaseException") = some true) (e2_BadBounds : PySem.W.hasDictIn K C_BadBounds = true) (e3_BadBounds : PySem.W.findIn K (.ref C_BadBounds) "__getattribute__" = some (some (.builtin "BaseException.__getattribute__"))) (e4_BadBounds : PySem.W.findIn K (.ref C_BadBounds) "__getattr__" = some none)
    (e1_BadCase : PySem.W.subIn K (.ref C_BadCase) (.type "BaseException") = some true) (e2_BadCase : PySem.W.hasDictIn K C_BadCase = true) (e3_BadCase : PySem.W.findIn K (.ref C_BadCase) "__getattribute__" = some (some (.builtin "BaseException.__getattribute__"))) (e4_BadCase : PySem.W.findIn K (.ref C_BadCase) "__getattr__" = some none)
    (e1_BadNumber : PySem.W.subIn K (.ref C_BadNumber) (.type "BaseException") = some true) (e2_BadNumber : PySem.W.hasDictIn K C_BadNumber = true) (e3_BadNumber : PySem.W.findIn K (.ref C_BadNumber) "__getattribute__" = some (some (.builtin "BaseException.__getattribute__"))) (e4_BadNumber : PySem.W.findIn K (.ref C_BadNumber) "__getattr__" = some none)
    {nm_BadBounds q_BadBounds : Str} {N_BadBounds : Addr} {bs_BadBounds bm_BadBounds : List Value} {sn_BadBounds : List Str} {sub_BadBounds : List Value} {ab_BadBounds : Bool} {col_BadBounds : Option Bool} {dd_BadBounds : Option Addr} {m0_BadBounds m1_BadBounds m2_BadBounds m3_BadBounds m5_BadBounds : Option Value} {fi_BadBounds : Addr}
    (x_BadBounds : K.lookup C_BadBounds = some (excClassObj nm_BadBounds q_BadBounds C_BadBounds N_BadBounds bs_BadBounds bm_BadBounds true sn_BadBounds sub_BadBounds ab_BadBounds col_BadBounds dd_BadBounds m0_BadBounds m1_BadBounds m2_BadBounds m3_BadBounds m5_BadBounds "ValueError.__new__")) (r_BadBounds : PySem.HandSPX.refsVE bm_BadBounds = true)
    (s_BadBounds : PySem.W.findIn K (.ref C_BadBounds) "__setattr__" = some (some (.builtin "object.__setattr__"))) (t_BadBounds : PySem.W.typeIn K (.ref C_BadBounds) = some (.type "type")) (k_BadBounds : PySem.W.keepIn K (.ref C_BadBounds) = true)
    (n_BadBounds : PySem.W.findIn K (.ref C_BadBounds) "at" = some none) (i_BadBounds : PySem.W.findIn K (.ref C_BadBounds) "__init__" = some (some (.ref fi_BadBounds))) (ty_BadBounds : PySem.W.typeIn K (.ref fi_BadBounds) = some (.type "function"))
    {nm_BadCase q_BadCase : Str} {N_BadCase : Addr} {bs_BadCase bm_BadCase : List Value} {sn_BadCase : List Str} {sub_BadCase : List Value} {ab_BadCase : Bool} {col_BadCase : Option Bool} {dd_BadCase : Option Addr} {m0_BadCase m1_BadCase m2_BadCase m3_BadCase m5_BadCase : Option Value} {fi_BadCase : Addr}
    (x_BadCase : K.lookup C_BadCase = some (excClassObj nm_BadCase q_BadCase C_BadCase N_BadCase bs_BadCase bm_BadCase true sn_BadCase sub_BadCase ab_BadCase col_BadCase dd_BadCase m0_BadCase m1_BadCase m2_BadCase m3_BadCase m5_BadCase "ValueError.__new__")) (r_BadCase : PySem.HandSPX.refsVE bm_BadCase = true)
    (s_BadCase : PySem.W.findIn K (.ref C_BadCase) "__setattr__" = some (some (.builtin "object.__setattr__"))) (t_BadCase : PySem.W.typeIn K (.ref C_BadCase) = some (.type "type")) (k_BadCase : PySem.W.keepIn K (.ref C_BadCase) = true)
    (n_BadCase : PySem.W.findIn K (.ref C_BadCase) "at" = some none) (i_BadCase : PySem.W.findIn K (.ref C_BadCase) "__init__" = some (some (.ref fi_BadCase))) (ty_BadCase : PySem.W.typeIn K (.ref fi_BadCase) = some (.type "function"))
    {nm_BadNumber q_BadNumber : Str} {N_BadNumber : Addr} {bs_BadNumber bm_BadNumber : List Value} {sn_BadNumber : List Str} {sub_BadNumber : List Value} {ab_BadNumber : Bool} {col_BadNumber : Option Bool} {dd_BadNumber : Option Addr} {m0_BadNumber m1_BadNumber m2_BadNumber m3_BadNumber m5_BadNumber : Option Value} {fi_BadNumber : Addr}
    (x_BadNumber : K.lookup C_BadNumber = some (excClassObj nm_BadNumber q_BadNumber C_BadNumber N_BadNumber bs_BadNumber bm_BadNumber true sn_BadNumber sub_BadNumber ab_BadNumber col_BadNumber dd_BadNumber m0_BadNumber m1_BadNumber m2_BadNumber m3_BadNumber m5_BadNumber "ValueError.__new__")) (r_BadNumber : PySem.HandSPX.refsVE bm_BadNumber = true)
    (s_BadNumber : PySem.W.findIn K (.ref C_BadNumber) "__setattr__" = some (some (.builtin "object.__setattr__"))) (t_BadNumber : PySem.W.typeIn K (.ref C_BadNumber) = some (.type "type")) (k_BadNumber : PySem.W.keepIn K (.ref C_BadNumber) = true)
    (n_BadNumber : PySem.W.findIn K (.ref C_BadNumber) "at" = some none) (i_BadNumber : PySem.W.findIn K (.ref C_BadNumber) "__init__" = some (some (.ref fi_BadNumber))) (ty_BadNumber : PySem.W.typeIn K (.ref fi_BadNumber) = some (.type "function"))
    {od_BadBounds an_BadBounds : Option Addr} {sl_BadBounds : Array (Option Value)} {oc_BadBounds kV_BadBounds dc_BadBounds pm_BadBounds cd_BadBounds ct_BadBounds : Value}
    (li_BadBounds : K.lookup fi_BadBounds = some ⟨oc_BadBounds, od_BadBounds, .func (PySem.W.fnOf "__init__" "BadBounds.__init__" (defArgs s_init_BadBounds) (defBody s_init_BadBounds) (defScope s_init_BadBounds) .none kV_BadBounds dc_BadBounds pm_BadBounds an_BadBounds cd_BadBounds ct_BadBounds), sl_BadBounds⟩) (ci_BadBounds : PySem.W.codeIn K cd_BadBounds "BadBounds.__init__" = true) (ki_BadBounds : PySem.W.keepIn K (.ref fi_BadBounds) = true) (zi_BadBounds : PySem.W.nsIn K mainGlobals "BadBounds.__init__" = some none)
    {od_BadCase an_BadCase : Option Addr} {sl_BadCase : Array (Option Value)} {oc_BadCase kV_BadCase dc_BadCase pm_BadCase cd_BadCase ct_BadCase : Value}
    (li_BadCase : K.lookup fi_BadCase = some ⟨oc_BadCase, od_BadCase, .func (PySem.W.fnOf "__init__" "BadCase.__init__" (defArgs s_init_BadCase) (defBody s_init_BadCase) (defScope s_init_BadCase) .none kV_BadCase dc_BadCase pm_BadCase an_BadCase cd_BadCase ct_BadCase), sl_BadCase⟩) (ci_BadCase : PySem.W.codeIn K cd_BadCase "BadCase.__init__" = true) (ki_BadCase : PySem.W.keepIn K (.ref fi_BadCase) = true) (zi_BadCase : PySem.W.nsIn K mainGlobals "BadCase.__init__" = some none)
    {od_BadNumber an_BadNumber : Option Addr} {sl_BadNumber : Array (Option Value)} {oc_BadNumber kV_BadNumber dc_BadNumber pm_BadNumber cd_BadNumber ct_BadNumber : Value}
    (li_BadNumber : K.lookup fi_BadNumber = some ⟨oc_BadNumber, od_BadNumber, .func (PySem.W.fnOf "__init__" "BadNumber.__init__" (defArgs s_init_BadNumber) (defBody s_init_BadNumber) (defScope s_init_BadNumber) .none kV_BadNumber dc_BadNumber pm_BadNumber an_BadNumber cd_BadNumber ct_BadNumber), sl_BadNumber⟩) (ci_BadNumber : PySem.W.codeIn K cd_BadNumber "BadNumber.__init__" = true) (ki_BadNumber : PySem.W.keepIn K (.ref fi_BadNumber) = true) (zi_BadNumber : PySem.W.nsIn K mainGlobals "BadNumber.__init__" = some none)
    (h1_BadBounds : PySem.W.findIn K (.ref C_BadBounds) "__class__" = some (some (.builtin "object.__class__"))) (h2_BadBounds : PySem.W.mroIn K C_BadBounds (.type "object") = some true)
    (h1_BadCase : PySem.W.findIn K (.ref C_BadCase) "__class__" = some (some (.builtin "object.__class__"))) (h2_BadCase : PySem.W.mroIn K C_BadCase (.type "object") = some true)
    (h1_BadNumber : PySem.W.findIn K (.ref C_BadNumber) "__class__" = some (some (.builtin "object.__class__"))) (h2_BadNumber : PySem.W.mroIn K C_BadNumber (.type "object") = some true)
    (w1 : PySem.W.specialIn K (.builtin "object.__class__") "__get__" = some (some (.builtin "getset_descriptor.__get__"))) (w2 : PySem.W.takesIn K (.builtin "object.__class__") = some true)
    (kk_BadBounds_ClockError : PySem.W.kitOne K (.ref C_BadBounds) (.ref C_ClockError) = some true)
    (kk_BadCase_ClockError : PySem.W.kitOne K (.ref C_BadCase) (.ref C_ClockError) = some true)
    (kk_BadNumber_ClockError : PySem.W.kitOne K (.ref C_BadNumber) (.ref C_ClockError) = some true)
    (kk_BadBounds_BadNumber_BadCase : PySem.W.kitAny K (.ref C_BadBounds) [.ref C_BadNumber, .ref C_BadCase] = some false)
    (kk_BadCase_BadNumber_BadBounds : PySem.W.kitAny K (.ref C_BadCase) [.ref C_BadNumber, .ref C_BadBounds] = some false)
    (kk_BadNumber_BadBounds_BadCase : PySem.W.kitAny K (.ref C_BadNumber) [.ref C_BadBounds, .ref C_BadCase] = some false)
    (xm_ClockError_BadBounds : PySem.W.exmOne K (.ref C_ClockError) (.ref C_BadBounds) = some false)
    (xm_ClockError_BadCase : PySem.W.exmOne K (.ref C_ClockError) (.ref C_BadCase) = some false)
    (xm_ClockError_BadNumber : PySem.W.exmOne K (.ref C_ClockError) (.ref C_BadNumber) = some false)
    (xm_ClockError_ClockError : PySem.W.exmOne K (.ref C_ClockError) (.ref C_ClockError) = some true)
    (xm_BadNumber_BadBounds : PySem.W.exmOne K (.ref C_BadNumber) (.ref C_BadBounds) = some false)
    (xm_BadNumber_BadCase : PySem.W.exmOne K (.ref C_BadNumber) (.ref C_BadCase) = some false)
    (xm_BadNumber_BadNumber : PySem.W.exmOne K (.ref C_BadNumber) (.ref C_BadNumber) = some true)
    (xm_BadNumber_ClockError : PySem.W.exmOne K (.ref C_BadNumber) (.ref C_ClockError) = some true)
    (xm_BadBounds_BadBounds : PySem.W.exmOne K (.ref C_BadBounds) (.ref C_BadBounds) = some true)
    (xm_BadBounds_BadCase : PySem.W.exmOne K (.ref C_BadBounds) (.ref C_BadCase) = some false)
    (xm_BadBounds_BadNumber : PySem.W.exmOne K (.ref C_BadBounds) (.ref C_BadNumber) = some false)
    (xm_BadBounds_ClockError : PySem.W.exmOne K (.ref C_BadBounds) (.ref C_ClockError) = some true)
    (xm_BadCase_BadBounds : PySem.W.exmOne K (.ref C_BadCase) (.ref C_BadBounds) = some false)
    (xm_BadCase_BadCase : PySem.W.exmOne K (.ref C_BadCase) (.ref C_BadCase) = some true)
    (xm_BadCase_BadNumber : PySem.W.exmOne K (.ref C_BadCase) (.ref C_BadNumber) = some false)
    (xm_BadCase_ClockError : PySem.W.exmOne K (.ref C_BadCase) (.ref C_ClockError) = some true)
    (z_bool : PySem.W.nsIn K mainGlobals "bool" = some none)
    (z_int : PySem.W.nsIn K mainGlobals "int" = some none)
    (z_isinstance : PySem.W.nsIn K mainGlobals "isinstance" = some none)
    (z_len : PySem.W.nsIn K mainGlobals "len" = some none)
    (z_list : PySem.W.nsIn K mainGlobals "list" = some none)
    (z_max : PySem.W.nsIn K mainGlobals "max" = some none)
    (z_min : PySem.W.nsIn K mainGlobals "min" = some none)
    (z_range : PySem.W.nsIn K mainGlobals "range" = some none)
    (z_repr : PySem.W.nsIn K mainGlobals "repr" = some none)
    (z_sorted : PySem.W.nsIn K mainGlobals "sorted" = some none)
    (z_str : PySem.W.nsIn K mainGlobals "str" = some none)
    (z_tuple : PySem.W.nsIn K mainGlobals "tuple" = some none)
    (z_gcd : PySem.W.nsIn K mainGlobals "gcd" = some (some (.builtin "math.gcd")))
    {tk_WIDE_LIMIT : Tok} (d_WIDE_LIMIT : PySem.W.nsIn K mainGlobals "WIDE_LIMIT" = some (some (.int 2000 tk_WIDE_LIMIT)))
    : ∃ (fd : FuncData) (ca : Str → Addr), (∀ (s : Shared) (v : Value), BindsTo s fd ⟨[v], []⟩ [("script", v)]) ∧ ∀ base : Heap, K.In base → base.Ns mainGlobals mg → FnG P w K mg base 16 fl0 fd ["script"] (spM K ca 1 m_law) := by
  have e0 := hfa.symm.trans (PySem.W.mg_of KX G a32)
  obtain rfl : f32 = fl0 := by cases e0; rfl
  have G1 : adr mg [("BadBounds.__init__", fi_BadBounds), ("BadCase.__init__", fi_BadCase), ("BadNumber.__init__", fi_BadNumber)] "told_plainly" = f1 := adr_g (PySem.W.mg_of KX G a1)
  have G2 : adr mg [("BadBounds.__init__", fi_BadBounds), ("BadCase.__init__", fi_BadCase), ("BadNumber.__init__", fi_BadNumber)] "is_int" = f2 := adr_g (PySem.W.mg_of KX G a2)
  have G3 : adr mg [("BadBounds.__init__", fi_BadBounds), ("BadCase.__init__", fi_BadCase), ("BadNumber.__init__", fi_BadNumber)] "plain_form" = f3 := adr_g (PySem.W.mg_of KX G a3)
  have G4 : adr mg [("BadBounds.__init__", fi_BadBounds), ("BadCase.__init__", fi_BadCase), ("BadNumber.__init__", fi_BadNumber)] "check_number" = f4 := adr_g (PySem.W.mg_of KX G a4)
  have G5 : adr mg [("BadBounds.__init__", fi_BadBounds), ("BadCase.__init__", fi_BadCase), ("BadNumber.__init__", fi_BadNumber)] "are_beats" = f5 := adr_g (PySem.W.mg_of KX G a5)
  have G6 : adr mg [("BadBounds.__init__", fi_BadBounds), ("BadCase.__init__", fi_BadCase), ("BadNumber.__init__", fi_BadNumber)] "check_beats" = f6 := adr_g (PySem.W.mg_of KX G a6)
  have G7 : adr mg [("BadBounds.__init__", fi_BadBounds), ("BadCase.__init__", fi_BadCase), ("BadNumber.__init__", fi_BadNumber)] "are_fixed" = f7 := adr_g (PySem.W.mg_of KX G a7)
  have G8 : adr mg [("BadBounds.__init__", fi_BadBounds), ("BadCase.__init__", fi_BadCase), ("BadNumber.__init__", fi_BadNumber)] "are_narrow" = f8 := adr_g (PySem.W.mg_of KX G a8)
  have G9 : adr mg [("BadBounds.__init__", fi_BadBounds), ("BadCase.__init__", fi_BadCase), ("BadNumber.__init__", fi_BadNumber)] "ever_meet" = f9 := adr_g (PySem.W.mg_of KX G a9)
  have G10 : adr mg [("BadBounds.__init__", fi_BadBounds), ("BadCase.__init__", fi_BadCase), ("BadNumber.__init__", fi_BadNumber)] "inverse_of" = f10 := adr_g (PySem.W.mg_of KX G a10)
  have G11 : adr mg [("BadBounds.__init__", fi_BadBounds), ("BadCase.__init__", fi_BadCase), ("BadNumber.__init__", fi_BadNumber)] "family_of" = f11 := adr_g (PySem.W.mg_of KX G a11)
  have G12 : adr mg [("BadBounds.__init__", fi_BadBounds), ("BadCase.__init__", fi_BadCase), ("BadNumber.__init__", fi_BadNumber)] "families_of" = f12 := adr_g (PySem.W.mg_of KX G a12)
  have G13 : adr mg [("BadBounds.__init__", fi_BadBounds), ("BadCase.__init__", fi_BadCase), ("BadNumber.__init__", fi_BadNumber)] "met_families" = f13 := adr_g (PySem.W.mg_of KX G a13)
  have G14 : adr mg [("BadBounds.__init__", fi_BadBounds), ("BadCase.__init__", fi_BadCase), ("BadNumber.__init__", fi_BadNumber)] "pairs_within" = f14 := adr_g (PySem.W.mg_of KX G a14)
  have G15 : adr mg [("BadBounds.__init__", fi_BadBounds), ("BadCase.__init__", fi_BadCase), ("BadNumber.__init__", fi_BadNumber)] "met_number" = f15 := adr_g (PySem.W.mg_of KX G a15)
  have G16 : adr mg [("BadBounds.__init__", fi_BadBounds), ("BadCase.__init__", fi_BadCase), ("BadNumber.__init__", fi_BadNumber)] "first_of_families" = f16 := adr_g (PySem.W.mg_of KX G a16)
  have G17 : adr mg [("BadBounds.__init__", fi_BadBounds), ("BadCase.__init__", fi_BadCase), ("BadNumber.__init__", fi_BadNumber)] "first_met" = f17 := adr_g (PySem.W.mg_of KX G a17)
  have G18 : adr mg [("BadBounds.__init__", fi_BadBounds), ("BadCase.__init__", fi_BadCase), ("BadNumber.__init__", fi_BadNumber)] "_law_hand" = f18 := adr_g (PySem.W.mg_of KX G a18)
  have G19 : adr mg [("BadBounds.__init__", fi_BadBounds), ("BadCase.__init__", fi_BadCase), ("BadNumber.__init__", fi_BadNumber)] "_law_draw" = f19 := adr_g (PySem.W.mg_of KX G a19)
  have G20 : adr mg [("BadBounds.__init__", fi_BadBounds), ("BadCase.__init__", fi_BadCase), ("BadNumber.__init__", fi_BadNumber)] "_law_just" = f20 := adr_g (PySem.W.mg_of KX G a20)
  have G21 : adr mg [("BadBounds.__init__", fi_BadBounds), ("BadCase.__init__", fi_BadCase), ("BadNumber.__init__", fi_BadNumber)] "_law_common" = f21 := adr_g (PySem.W.mg_of KX G a21)
  have G22 : adr mg [("BadBounds.__init__", fi_BadBounds), ("BadCase.__init__", fi_BadCase), ("BadNumber.__init__", fi_BadNumber)] "_law_small_row" = f22 := adr_g (PySem.W.mg_of KX G a22)
  have G23 : adr mg [("BadBounds.__init__", fi_BadBounds), ("BadCase.__init__", fi_BadCase), ("BadNumber.__init__", fi_BadNumber)] "_law_families" = f23 := adr_g (PySem.W.mg_of KX G a23)
  have G24 : adr mg [("BadBounds.__init__", fi_BadBounds), ("BadCase.__init__", fi_BadCase), ("BadNumber.__init__", fi_BadNumber)] "_law_many" = f24 := adr_g (PySem.W.mg_of KX G a24)
  have G25 : adr mg [("BadBounds.__init__", fi_BadBounds), ("BadCase.__init__", fi_BadCase), ("BadNumber.__init__", fi_BadNumber)] "_law_tried" = f25 := adr_g (PySem.W.mg_of KX G a25)
  have G26 : adr mg [("BadBounds.__init__", fi_BadBounds), ("BadCase.__init__", fi_BadCase), ("BadNumber.__init__", fi_BadNumber)] "_law_heard_beats" = f26 := adr_g (PySem.W.mg_of KX G a26)
  have G27 : adr mg [("BadBounds.__init__", fi_BadBounds), ("BadCase.__init__", fi_BadCase), ("BadNumber.__init__", fi_BadNumber)] "_law_two_right" = f27 := adr_g (PySem.W.mg_of KX G a27)
  have G28 : adr mg [("BadBounds.__init__", fi_BadBounds), ("BadCase.__init__", fi_BadCase), ("BadNumber.__init__", fi_BadNumber)] "_law_small_right" = f28 := adr_g (PySem.W.mg_of KX G a28)
  have G29 : adr mg [("BadBounds.__init__", fi_BadBounds), ("BadCase.__init__", fi_BadCase), ("BadNumber.__init__", fi_BadNumber)] "_law_great_right" = f29 := adr_g (PySem.W.mg_of KX G a29)
  have G30 : adr mg [("BadBounds.__init__", fi_BadBounds), ("BadCase.__init__", fi_BadCase), ("BadNumber.__init__", fi_BadNumber)] "_law_wide_right" = f30 := adr_g (PySem.W.mg_of KX G a30)
  have G31 : adr mg [("BadBounds.__init__", fi_BadBounds), ("BadCase.__init__", fi_BadCase), ("BadNumber.__init__", fi_BadNumber)] "_law_refused" = f31 := adr_g (PySem.W.mg_of KX G a31)
  have G32 : adr mg [("BadBounds.__init__", fi_BadBounds), ("BadCase.__init__", fi_BadCase), ("BadNumber.__init__", fi_BadNumber)] "law" = f32 := adr_g (PySem.W.mg_of KX G a32)
  have fd0 : FuncData := PySem.W.fnOf "law" "law" (defArgs s_law) (defBody s_law) (defScope s_law) .none kV32 dc32 pm32 an32 cd32 ct32
  have F1 := fun_at (fd0 := fd0) (st := s_told_plainly) G1 l1 c1 k1
  have F2 := fun_at (fd0 := fd0) (st := s_is_int) G2 l2 c2 k2
  have F3 := fun_at (fd0 := fd0) (st := s_plain_form) G3 l3 c3 k3
  have F4 := fun_at (fd0 := fd0) (st := s_check_number) G4 l4 c4 k4
  have F5 := fun_at (fd0 := fd0) (st := s_are_beats) G5 l5 c5 k5
  have F6 := fun_at (fd0 := fd0) (st := s_check_beats) G6 l6 c6 k6
  have F7 := fun_at (fd0 := fd0) (st := s_are_fixed) G7 l7 c7 k7
  have F8 := fun_at (fd0 := fd0) (st := s_are_narrow) G8 l8 c8 k8
  have F9 := fun_at (fd0 := fd0) (st := s_ever_meet) G9 l9 c9 k9
  have F10 := fun_at (fd0 := fd0) (st := s_inverse_of) G10 l10 c10 k10
  have F11 := fun_at (fd0 := fd0) (st := s_family_of) G11 l11 c11 k11
  have F12 := fun_at (fd0 := fd0) (st := s_families_of) G12 l12 c12 k12
  have F13 := fun_at (fd0 := fd0) (st := s_met_families) G13 l13 c13 k13
  have F14 := fun_at (fd0 := fd0) (st := s_pairs_within) G14 l14 c14 k14
  have F15 := fun_at (fd0 := fd0) (st := s_met_number) G15 l15 c15 k15
  have F16 := fun_at (fd0 := fd0) (st := s_first_of_families) G16 l16 c16 k16
  have F17 := fun_at (fd0 := fd0) (st := s_first_met) G17 l17 c17 k17
  have F18 := fun_at (fd0 := fd0) (st := s__law_hand) G18 l18 c18 k18
  have F19 := fun_at (fd0 := fd0) (st := s__law_draw) G19 l19 c19 k19
  have F20 := fun_at (fd0 := fd0) (st := s__law_just) G20 l20 c20 k20
  have F21 := fun_at (fd0 := fd0) (st := s__law_common) G21 l21 c21 k21
  have F22 := fun_at (fd0 := fd0) (st := s__law_small_row) G22 l22 c22 k22
  have F23 := fun_at (fd0 := fd0) (st := s__law_families) G23 l23 c23 k23
  have F24 := fun_at (fd0 := fd0) (st := s__law_many) G24 l24 c24 k24
  have F25 := fun_at (fd0 := fd0) (st := s__law_tried) G25 l25 c25 k25
  have F26 := fun_at (fd0 := fd0) (st := s__law_heard_beats) G26 l26 c26 k26
  have F27 := fun_at (fd0 := fd0) (st := s__law_two_right) G27 l27 c27 k27
  have F28 := fun_at (fd0 := fd0) (st := s__law_small_right) G28 l28 c28 k28
  have F29 := fun_at (fd0 := fd0) (st := s__law_great_right) G29 l29 c29 k29
  have F30 := fun_at (fd0 := fd0) (st := s__law_wide_right) G30 l30 c30 k30
  have F31 := fun_at (fd0 := fd0) (st := s__law_refused) G31 l31 c31 k31
  have F32 := fun_at (fd0 := fd0) (st := s_law) G32 l32 c32 k32
  have Gi_BadBounds : adr mg [("BadBounds.__init__", fi_BadBounds), ("BadCase.__init__", fi_BadCase), ("BadNumber.__init__", fi_BadNumber)] "BadBounds.__init__" = fi_BadBounds := adr_i (PySem.W.mg_none_of KX G zi_BadBounds) (by kernel_rfl)
  have Fi_BadBounds := fun_at (fd0 := fd0) (st := s_init_BadBounds) Gi_BadBounds li_BadBounds ci_BadBounds ki_BadBounds
  have Gi_BadCase : adr mg [("BadBounds.__init__", fi_BadBounds), ("BadCase.__init__", fi_BadCase), ("BadNumber.__init__", fi_BadNumber)] "BadCase.__init__" = fi_BadCase := adr_i (PySem.W.mg_none_of KX G zi_BadCase) (by kernel_rfl)
  have Fi_BadCase := fun_at (fd0 := fd0) (st := s_init_BadCase) Gi_BadCase li_BadCase ci_BadCase ki_BadCase
  have Gi_BadNumber : adr mg [("BadBounds.__init__", fi_BadBounds), ("BadCase.__init__", fi_BadCase), ("BadNumber.__init__", fi_BadNumber)] "BadNumber.__init__" = fi_BadNumber := adr_i (PySem.W.mg_none_of KX G zi_BadNumber) (by kernel_rfl)
  have Fi_BadNumber := fun_at (fd0 := fd0) (st := s_init_BadNumber) Gi_BadNumber li_BadNumber ci_BadNumber ki_BadNumber
  have H_ClockError : adr mg [] "ClockError" = C_ClockError := adr_g (PySem.W.mg_of KX G A_ClockError)
  have H_BadNumber : adr mg [] "BadNumber" = C_BadNumber := adr_g (PySem.W.mg_of KX G A_BadNumber)
  have H_BadBounds : adr mg [] "BadBounds" = C_BadBounds := adr_g (PySem.W.mg_of KX G A_BadBounds)
  have H_BadCase : adr mg [] "BadCase" = C_BadCase := adr_g (PySem.W.mg_of KX G A_BadCase)
  have T : Txt K mg (adr mg [("BadBounds.__init__", fi_BadBounds), ("BadCase.__init__", fi_BadCase), ("BadNumber.__init__", fi_BadNumber)]) (adr mg []) (fun x => fdat K fd0 (adr mg [("BadBounds.__init__", fi_BadBounds), ("BadCase.__init__", fi_BadCase), ("BadNumber.__init__", fi_BadNumber)] x)) :=
    { F_told_plainly := F1
      g_told_plainly := by rw [G1]; exact PySem.W.mg_of KX G a1
      b_told_plainly := Fun.binds F1 fun _ _ _ _ _ _ us hl => match us, hl with | [_], _ => rfl
      F_is_int := F2
      g_is_int := by rw [G2]; exact PySem.W.mg_of KX G a2
      b_is_int := Fun.binds F2 fun _ _ _ _ _ _ us hl => match us, hl with | [_], _ => rfl
      F_plain_form := F3
      g_plain_form := by rw [G3]; exact PySem.W.mg_of KX G a3
      b_plain_form := Fun.binds F3 fun _ _ _ _ _ _ us hl => match us, hl with | [_], _ => rfl
      F_check_number := F4
      g_check_number := by rw [G4]; exact PySem.W.mg_of KX G a4
      b_check_number := Fun.binds F4 fun _ _ _ _ _ _ us hl => match us, hl with | [_, _], _ => rfl
      F_are_beats := F5
      g_are_beats := by rw [G5]; exact PySem.W.mg_of KX G a5
      b_are_beats := Fun.binds F5 fun _ _ _ _ _ _ us hl => match us, hl with | [_], _ => rfl
      F_check_beats := F6
      g_check_beats := by rw [G6]; exact PySem.W.mg_of KX G a6
      b_check_beats := Fun.binds F6 fun _ _ _ _ _ _ us hl => match us, hl with | [_], _ => rfl
      F_are_fixed := F7
      g_are_fixed := by rw [G7]; exact PySem.W.mg_of KX G a7
      b_are_fixed := Fun.binds F7 fun _ _ _ _ _ _ us hl => match us, hl with | [_, _], _ => rfl
      F_are_narrow := F8
      g_are_narrow := by rw [G8]; exact PySem.W.mg_of KX G a8
      b_are_narrow := Fun.binds F8 fun _ _ _ _ _ _ us hl => match us, hl with | [_, _], _ => rfl
      F_ever_meet := F9
      g_ever_meet := by rw [G9]; exact PySem.W.mg_of KX G a9
      b_ever_meet := Fun.binds F9 fun _ _ _ _ _ _ us hl => match us, hl with | [_, _], _ => rfl
      F_inverse_of := F10
      g_inverse_of := by rw [G10]; exact PySem.W.mg_of KX G a10
      b_inverse_of := Fun.binds F10 fun _ _ _ _ _ _ us hl => match us, hl with | [_, _], _ => rfl
      F_family_of := F11
      g_family_of := by rw [G11]; exact PySem.W.mg_of KX G a11
      b_family_of := Fun.binds F11 fun _ _ _ _ _ _ us hl => match us, hl with | [_, _, _], _ => rfl
      F_families_of := F12
      g_families_of := by rw [G12]; exact PySem.W.mg_of KX G a12
      b_families_of := Fun.binds F12 fun _ _ _ _ _ _ us hl => match us, hl with | [_, _], _ => rfl
      F_met_families := F13
      g_met_families := by rw [G13]; exact PySem.W.mg_of KX G a13
      b_met_families := Fun.binds F13 fun _ _ _ _ _ _ us hl => match us, hl with | [_, _], _ => rfl
      F_pairs_within := F14
      g_pairs_within := by rw [G14]; exact PySem.W.mg_of KX G a14
      b_pairs_within := Fun.binds F14 fun _ _ _ _ _ _ us hl => match us, hl with | [_, _], _ => rfl
      F_met_number := F15
      g_met_number := by rw [G15]; exact PySem.W.mg_of KX G a15
      b_met_number := Fun.binds F15 fun _ _ _ _ _ _ us hl => match us, hl with | [_, _, _], _ => rfl
      F_first_of_families := F16
      g_first_of_families := by rw [G16]; exact PySem.W.mg_of KX G a16
      b_first_of_families := Fun.binds F16 fun _ _ _ _ _ _ us hl => match us, hl with | [_], _ => rfl
      F_first_met := F17
      g_first_met := by rw [G17]; exact PySem.W.mg_of KX G a17
      b_first_met := Fun.binds F17 fun _ _ _ _ _ _ us hl => match us, hl with | [_, _], _ => rfl
      F__law_hand := F18
      g__law_hand := by rw [G18]; exact PySem.W.mg_of KX G a18
      b__law_hand := Fun.binds F18 fun _ _ _ _ _ _ us hl => match us, hl with | [_], _ => rfl
      F__law_draw := F19
      g__law_draw := by rw [G19]; exact PySem.W.mg_of KX G a19
      b__law_draw := Fun.binds F19 fun _ _ _ _ _ _ us hl => match us, hl with | [_, _], _ => rfl
      F__law_just := F20
      g__law_just := by rw [G20]; exact PySem.W.mg_of KX G a20
      b__law_just := Fun.binds F20 fun _ _ _ _ _ _ us hl => match us, hl with | [_, _], _ => rfl
      F__law_common := F21
      g__law_common := by rw [G21]; exact PySem.W.mg_of KX G a21
      b__law_common := Fun.binds F21 fun _ _ _ _ _ _ us hl => match us, hl with | [_, _], _ => rfl
      F__law_small_row := F22
      g__law_small_row := by rw [G22]; exact PySem.W.mg_of KX G a22
      b__law_small_row := Fun.binds F22 fun _ _ _ _ _ _ us hl => match us, hl with | [_], _ => rfl
      F__law_families := F23
      g__law_families := by rw [G23]; exact PySem.W.mg_of KX G a23
      b__law_families := Fun.binds F23 fun _ _ _ _ _ _ us hl => match us, hl with | [_, _], _ => rfl
      F__law_many := F24
      g__law_many := by rw [G24]; exact PySem.W.mg_of KX G a24
      b__law_many := Fun.binds F24 fun _ _ _ _ _ _ us hl => match us, hl with | [_, _], _ => rfl
      F__law_tried := F25
      g__law_tried := by rw [G25]; exact PySem.W.mg_of KX G a25
      b__law_tried := Fun.binds F25 fun _ _ _ _ _ _ us hl => match us, hl with | [_, _, _], _ => rfl
      F__law_heard_beats := F26
      g__law_heard_beats := by rw [G26]; exact PySem.W.mg_of KX G a26
      b__law_heard_beats := Fun.binds F26 fun _ _ _ _ _ _ us hl => match us, hl with | [_, _, _, _], _ => rfl
      F__law_two_right := F27
      g__law_two_right := by rw [G27]; exact PySem.W.mg_of KX G a27
      b__law_two_right := Fun.binds F27 fun _ _ _ _ _ _ us hl => match us, hl with | [_, _, _, _], _ => rfl
      F__law_small_right := F28
      g__law_small_right := by rw [G28]; exact PySem.W.mg_of KX G a28
      b__law_small_right := Fun.binds F28 fun _ _ _ _ _ _ us hl => match us, hl with | [_], _ => rfl
      F__law_great_right := F29
      g__law_great_right := by rw [G29]; exact PySem.W.mg_of KX G a29
      b__law_great_right := Fun.binds F29 fun _ _ _ _ _ _ us hl => match us, hl with | [_], _ => rfl
      F__law_wide_right := F30
      g__law_wide_right := by rw [G30]; exact PySem.W.mg_of KX G a30
      b__law_wide_right := Fun.binds F30 fun _ _ _ _ _ _ us hl => match us, hl with | [_], _ => rfl
      F__law_refused := F31
      g__law_refused := by rw [G31]; exact PySem.W.mg_of KX G a31
      b__law_refused := Fun.binds F31 fun _ _ _ _ _ _ us hl => match us, hl with | [_], _ => rfl
      F_law := F32
      g_law := by rw [G32]; exact PySem.W.mg_of KX G a32
      b_law := Fun.binds F32 fun _ _ _ _ _ _ us hl => match us, hl with | [_], _ => rfl
      F_init_BadBounds := Fi_BadBounds
      b_init_BadBounds := Fun.binds Fi_BadBounds fun _ _ _ _ _ _ us hl => match us, hl with | [_, _], _ => rfl
      F_init_BadCase := Fi_BadCase
      b_init_BadCase := Fun.binds Fi_BadCase fun _ _ _ _ _ _ us hl => match us, hl with | [_, _], _ => rfl
      F_init_BadNumber := Fi_BadNumber
      b_init_BadNumber := Fun.binds Fi_BadNumber fun _ _ _ _ _ _ us hl => match us, hl with | [_, _], _ => rfl
      E_BadBounds := ⟨by rw [H_BadBounds]; exact PySem.W.mg_of KX G A_BadBounds, by rw [H_BadBounds]; exact ⟨⟨nm_BadBounds, q_BadBounds, N_BadBounds, bs_BadBounds, bm_BadBounds, sn_BadBounds, sub_BadBounds, ab_BadBounds, col_BadBounds, dd_BadBounds, m0_BadBounds, m1_BadBounds, m2_BadBounds, m3_BadBounds, m5_BadBounds, x_BadBounds, r_BadBounds⟩, s_BadBounds, e1_BadBounds, t_BadBounds, k_BadBounds⟩, by rw [H_BadBounds]; exact n_BadBounds, by rw [H_BadBounds, Gi_BadBounds]; exact i_BadBounds, by rw [Gi_BadBounds]; exact ty_BadBounds⟩
      E_BadCase := ⟨by rw [H_BadCase]; exact PySem.W.mg_of KX G A_BadCase, by rw [H_BadCase]; exact ⟨⟨nm_BadCase, q_BadCase, N_BadCase, bs_BadCase, bm_BadCase, sn_BadCase, sub_BadCase, ab_BadCase, col_BadCase, dd_BadCase, m0_BadCase, m1_BadCase, m2_BadCase, m3_BadCase, m5_BadCase, x_BadCase, r_BadCase⟩, s_BadCase, e1_BadCase, t_BadCase, k_BadCase⟩, by rw [H_BadCase]; exact n_BadCase, by rw [H_BadCase, Gi_BadCase]; exact i_BadCase, by rw [Gi_BadCase]; exact ty_BadCase⟩
      E_BadNumber := ⟨by rw [H_BadNumber]; exact PySem.W.mg_of KX G A_BadNumber, by rw [H_BadNumber]; exact ⟨⟨nm_BadNumber, q_BadNumber, N_BadNumber, bs_BadNumber, bm_BadNumber, sn_BadNumber, sub_BadNumber, ab_BadNumber, col_BadNumber, dd_BadNumber, m0_BadNumber, m1_BadNumber, m2_BadNumber, m3_BadNumber, m5_BadNumber, x_BadNumber, r_BadNumber⟩, s_BadNumber, e1_BadNumber, t_BadNumber, k_BadNumber⟩, by rw [H_BadNumber]; exact n_BadNumber, by rw [H_BadNumber, Gi_BadNumber]; exact i_BadNumber, by rw [Gi_BadNumber]; exact ty_BadNumber⟩
      C_BadBounds := by rw [H_BadBounds]; exact PySem.W.mg_of KX G A_BadBounds
      C_BadCase := by rw [H_BadCase]; exact PySem.W.mg_of KX G A_BadCase
      C_BadNumber := by rw [H_BadNumber]; exact PySem.W.mg_of KX G A_BadNumber
      C_ClockError := by rw [H_ClockError]; exact PySem.W.mg_of KX G A_ClockError
      n_BadBounds_at := by rw [H_BadBounds]; exact n_BadBounds
      n_BadCase_at := by rw [H_BadCase]; exact n_BadCase
      n_BadNumber_at := by rw [H_BadNumber]; exact n_BadNumber
      X_BadBounds := by rw [H_BadBounds]; exact ⟨e3_BadBounds, e4_BadBounds, e1_BadBounds, e2_BadBounds⟩
      X_BadCase := by rw [H_BadCase]; exact ⟨e3_BadCase, e4_BadCase, e1_BadCase, e2_BadCase⟩
      X_BadNumber := by rw [H_BadNumber]; exact ⟨e3_BadNumber, e4_BadNumber, e1_BadNumber, e2_BadNumber⟩
      Y_BadBounds := by rw [H_BadBounds]; exact ⟨e3_BadBounds, e4_BadBounds, e1_BadBounds, e2_BadBounds, h1_BadBounds, w1, w2, h2_BadBounds⟩
      Y_BadCase := by rw [H_BadCase]; exact ⟨e3_BadCase, e4_BadCase, e1_BadCase, e2_BadCase, h1_BadCase, w1, w2, h2_BadCase⟩
      Y_BadNumber := by rw [H_BadNumber]; exact ⟨e3_BadNumber, e4_BadNumber, e1_BadNumber, e2_BadNumber, h1_BadNumber, w1, w2, h2_BadNumber⟩
      k_BadBounds_ClockError := by rw [H_BadBounds, H_ClockError]; exact kk_BadBounds_ClockError
      k_BadCase_ClockError := by rw [H_BadCase, H_ClockError]; exact kk_BadCase_ClockError
      k_BadNumber_ClockError := by rw [H_BadNumber, H_ClockError]; exact kk_BadNumber_ClockError
      k_BadBounds_BadNumber_BadCase := by rw [H_BadBounds, H_BadNumber, H_BadCase]; exact kk_BadBounds_BadNumber_BadCase
      k_BadCase_BadNumber_BadBounds := by rw [H_BadCase, H_BadNumber, H_BadBounds]; exact kk_BadCase_BadNumber_BadBounds
      k_BadNumber_BadBounds_BadCase := by rw [H_BadNumber, H_BadBounds, H_BadCase]; exact kk_BadNumber_BadBounds_BadCase
      exm := sub_ok (l := [("ClockError", [("BadBounds", some false), ("BadCase", some false), ("BadNumber", some false), ("ClockError", some true)]), ("BadNumber", [("BadBounds", some false), ("BadCase", some false), ("BadNumber", some true), ("ClockError", some true)]), ("BadBounds", [("BadBounds", some true), ("BadCase", some false), ("BadNumber", some false), ("ClockError", some true)]), ("BadCase", [("BadBounds", some false), ("BadCase", some true), ("BadNumber", some false), ("ClockError", some true)])]) (fun _ _ => rfl) (List.forall_mem_cons.mpr ⟨List.forall_mem_cons.mpr ⟨by rw [H_ClockError, H_BadBounds]; exact xm_ClockError_BadBounds, List.forall_mem_cons.mpr ⟨by rw [H_ClockError, H_BadCase]; exact xm_ClockError_BadCase, List.forall_mem_cons.mpr ⟨by rw [H_ClockError, H_BadNumber]; exact xm_ClockError_BadNumber, List.forall_mem_cons.mpr ⟨by rw [H_ClockError]; exact xm_ClockError_ClockError, List.forall_mem_nil _⟩⟩⟩⟩, List.forall_mem_cons.mpr ⟨List.forall_mem_cons.mpr ⟨by rw [H_BadNumber, H_BadBounds]; exact xm_BadNumber_BadBounds, List.forall_mem_cons.mpr ⟨by rw [H_BadNumber, H_BadCase]; exact xm_BadNumber_BadCase, List.forall_mem_cons.mpr ⟨by rw [H_BadNumber]; exact xm_BadNumber_BadNumber, List.forall_mem_cons.mpr ⟨by rw [H_BadNumber, H_ClockError]; exact xm_BadNumber_ClockError, List.forall_mem_nil _⟩⟩⟩⟩, List.forall_mem_cons.mpr ⟨List.forall_mem_cons.mpr ⟨by rw [H_BadBounds]; exact xm_BadBounds_BadBounds, List.forall_mem_cons.mpr ⟨by rw [H_BadBounds, H_BadCase]; exact xm_BadBounds_BadCase, List.forall_mem_cons.mpr ⟨by rw [H_BadBounds, H_BadNumber]; exact xm_BadBounds_BadNumber, List.forall_mem_cons.mpr ⟨by rw [H_BadBounds, H_ClockError]; exact xm_BadBounds_ClockError, List.forall_mem_nil _⟩⟩⟩⟩, List.forall_mem_cons.mpr ⟨List.forall_mem_cons.mpr ⟨by rw [H_BadCase, H_BadBounds]; exact xm_BadCase_BadBounds, List.forall_mem_cons.mpr ⟨by rw [H_BadCase]; exact xm_BadCase_BadCase, List.forall_mem_cons.mpr ⟨by rw [H_BadCase, H_BadNumber]; exact xm_BadCase_BadNumber, List.forall_mem_cons.mpr ⟨by rw [H_BadCase, H_ClockError]; exact xm_BadCase_ClockError, List.forall_mem_nil _⟩⟩⟩⟩, List.forall_mem_nil _⟩⟩⟩⟩)
      z_bool := PySem.W.mg_none_of KX G z_bool
      z_int := PySem.W.mg_none_of KX G z_int
      z_isinstance := PySem.W.mg_none_of KX G z_isinstance
      z_len := PySem.W.mg_none_of KX G z_len
      z_list := PySem.W.mg_none_of KX G z_list
      z_max := PySem.W.mg_none_of KX G z_max
      z_min := PySem.W.mg_none_of KX G z_min
      z_range := PySem.W.mg_none_of KX G z_range
      z_repr := PySem.W.mg_none_of KX G z_repr
      z_sorted := PySem.W.mg_none_of KX G z_sorted
      z_str := PySem.W.mg_none_of KX G z_str
      z_tuple := PySem.W.mg_none_of KX G z_tuple
      z_gcd := PySem.W.mg_of KX G z_gcd
      c_WIDE_LIMIT := ⟨_, PySem.W.mg_of KX G d_WIDE_LIMIT⟩ }
  rw [G32] at F32
  refine ⟨fdat K fd0 f32, adr mg [], fun s v => ?_, fun base _ _ => ?_⟩
  · obtain ⟨oc, od, kV, doc, pm, an, cdv, ct, osl, e, _⟩ := F32.ex
    rw [e]; exact .of_eq rfl
  · have z : FnG P w K mg base 16 (adr mg [("BadBounds.__init__", fi_BadBounds), ("BadCase.__init__", fi_BadCase), ("BadNumber.__init__", fi_BadNumber)] "law") (fdat K fd0 (adr mg [("BadBounds.__init__", fi_BadBounds), ("BadCase.__init__", fi_BadCase), ("BadNumber.__init__", fi_BadNumber)] "law")) ["script"] (spM K (adr mg []) 1 m_law) := ok_law T
    rw [G32] at z
    exact z
end K74

set_option Elab.async false
set_option linter.all false
set_option maxRecDepth 100000
open PySem PySem.W PyProof.Rows
set_option maxHeartbeats 0 in
theorem PySem.Challenge.cw_asinrealtime_k74_families_counted_holds : PySem.Challenge.rw_asinrealtime_k74_families_counted.Holds := by
  w_on; o_law; k_head; (case hw => w_witness2)
  k_fill
  refine Mn.walkG (l := PySem.Challenge.rw_asinrealtime_k74_families_counted) (n := 63) (k := 16) (x := "script") (m := K74.m_law) rfl (by decide) rfl ⟨rfl, by decide, by decide⟩ (fun w h Y => PySem.W.kIn_of Y) ?F (fun ns _ _ => K74.law_holds ns)
  case F =>
    intro w mg fl0 h KX G hmg
    refine' K74.all_mk KX G hmg ?a1 ?l1 ?c1 ?k1 ?a2 ?l2 ?c2 ?k2 ?a3 ?l3 ?c3 ?k3 ?a4 ?l4 ?c4 ?k4 ?a5 ?l5 ?c5 ?k5 ?a6 ?l6 ?c6 ?k6 ?a7 ?l7 ?c7 ?k7 ?a8 ?l8 ?c8 ?k8 ?a9 ?l9 ?c9 ?k9 ?a10 ?l10 ?c10 ?k10 ?a11 ?l11 ?c11 ?k11 ?a12 ?l12 ?c12 ?k12 ?a13 ?l13 ?c13 ?k13 ?a14 ?l14 ?c14 ?k14 ?a15 ?l15 ?c15 ?k15 ?a16 ?l16 ?c16 ?k16 ?a17 ?l17 ?c17 ?k17 ?a18 ?l18 ?c18 ?k18 ?a19 ?l19 ?c19 ?k19 ?a20 ?l20 ?c20 ?k20 ?a21 ?l21 ?c21 ?k21 ?a22 ?l22 ?c22 ?k22 ?a23 ?l23 ?c23 ?k23 ?a24 ?l24 ?c24 ?k24 ?a25 ?l25 ?c25 ?k25 ?a26 ?l26 ?c26 ?k26 ?a27 ?l27 ?c27 ?k27 ?a28 ?l28 ?c28 ?k28 ?a29 ?l29 ?c29 ?k29 ?a30 ?l30 ?c30 ?k30 ?a31 ?l31 ?c31 ?k31 ?a32 ?l32 ?c32 ?k32 ?A_ClockError ?A_BadNumber ?A_BadBounds ?A_BadCase ?e1_BadBounds ?e2_BadBounds ?e3_BadBounds ?e4_BadBounds ?e1_BadCase ?e2_BadCase ?e3_BadCase ?e4_BadCase ?e1_BadNumber ?e2_BadNumber ?e3_BadNumber ?e4_BadNumber ?x_BadBounds ?r_BadBounds ?s_BadBounds ?t_BadBounds ?k_BadBounds ?n_BadBounds ?i_BadBounds ?ty_BadBounds ?x_BadCase ?r_BadCase ?s_BadCase ?t_BadCase ?k_BadCase ?n_BadCase ?i_BadCase ?ty_BadCase ?x_BadNumber ?r_BadNumber ?s_BadNumber ?t_BadNumber ?k_BadNumber ?n_BadNumber ?i_BadNumber ?ty_BadNumber ?li_BadBounds ?ci_BadBounds ?ki_BadBounds ?zi_BadBounds ?li_BadCase ?ci_BadCase ?ki_BadCase ?zi_BadCase ?li_BadNumber ?ci_BadNumber ?ki_BadNumber ?zi_BadNumber ?h1_BadBounds ?h2_BadBounds ?h1_BadCase ?h2_BadCase ?h1_BadNumber ?h2_BadNumber ?w1 ?w2 ?kk_BadBounds_ClockError ?kk_BadCase_ClockError ?kk_BadNumber_ClockError ?kk_BadBounds_BadNumber_BadCase ?kk_BadCase_BadNumber_BadBounds ?kk_BadNumber_BadBounds_BadCase ?xm_ClockError_BadBounds ?xm_ClockError_BadCase ?xm_ClockError_BadNumber ?xm_ClockError_ClockError ?xm_BadNumber_BadBounds ?xm_BadNumber_BadCase ?xm_BadNumber_BadNumber ?xm_BadNumber_ClockError ?xm_BadBounds_BadBounds ?xm_BadBounds_BadCase ?xm_BadBounds_BadNumber ?xm_BadBounds_ClockError ?xm_BadCase_BadBounds ?xm_BadCase_BadCase ?xm_BadCase_BadNumber ?xm_BadCase_ClockError ?z_bool ?z_int ?z_isinstance ?z_len ?z_list ?z_max ?z_min ?z_range ?z_repr ?z_sorted ?z_str ?z_tuple ?z_gcd ?d_WIDE_LIMIT
    (case a1 => first | k_is | rfl)
    (case l1 => first | k_is | rfl)
    (case c1 => first | k_is | rfl)
    (case k1 => first | k_is | rfl)
    (case a2 => first | k_is | rfl)
    (case l2 => first | k_is | rfl)
    (case c2 => first | k_is | rfl)
    (case k2 => first | k_is | rfl)
    (case a3 => first | k_is | rfl)
    (case l3 => first | k_is | rfl)
    (case c3 => first | k_is | rfl)
    (case k3 => first | k_is | rfl)
    (case a4 => first | k_is | rfl)
    (case l4 => first | k_is | rfl)
    (case c4 => first | k_is | rfl)
    (case k4 => first | k_is | rfl)
    (case a5 => first | k_is | rfl)
    (case l5 => first | k_is | rfl)
    (case c5 => first | k_is | rfl)
    (case k5 => first | k_is | rfl)
    (case a6 => first | k_is | rfl)
    (case l6 => first | k_is | rfl)
    (case c6 => first | k_is | rfl)
    (case k6 => first | k_is | rfl)
    (case a7 => first | k_is | rfl)
    (case l7 => first | k_is | rfl)
    (case c7 => first | k_is | rfl)
    (case k7 => first | k_is | rfl)
    (case a8 => first | k_is | rfl)
    (case l8 => first | k_is | rfl)
    (case c8 => first | k_is | rfl)
    (case k8 => first | k_is | rfl)
    (case a9 => first | k_is | rfl)
    (case l9 => first | k_is | rfl)
    (case c9 => first | k_is | rfl)
    (case k9 => first | k_is | rfl)
    (case a10 => first | k_is | rfl)
    (case l10 => first | k_is | rfl)
    (case c10 => first | k_is | rfl)
    (case k10 => first | k_is | rfl)
    (case a11 => first | k_is | rfl)
    (case l11 => first | k_is | rfl)
    (case c11 => first | k_is | rfl)
    (case k11 => first | k_is | rfl)
    (case a12 => first | k_is | rfl)
    (case l12 => first | k_is | rfl)
    (case c12 => first | k_is | rfl)
    (case k12 => first | k_is | rfl)
    (case a13 => first | k_is | rfl)
    (case l13 => first | k_is | rfl)
    (case c13 => first | k_is | rfl)
    (case k13 => first | k_is | rfl)
    (case a14 => first | k_is | rfl)
    (case l14 => first | k_is | rfl)
    (case c14 => first | k_is | rfl)
    (case k14 => first | k_is | rfl)
    (case a15 => first | k_is | rfl)
    (case l15 => first | k_is | rfl)
    (case c15 => first | k_is | rfl)
    (case k15 => first | k_is | rfl)
    (case a16 => first | k_is | rfl)
    (case l16 => first | k_is | rfl)
    (case c16 => first | k_is | rfl)
    (case k16 => first | k_is | rfl)
    (case a17 => first | k_is | rfl)
    (case l17 => first | k_is | rfl)
    (case c17 => first | k_is | rfl)
    (case k17 => first | k_is | rfl)
    (case a18 => first | k_is | rfl)
    (case l18 => first | k_is | rfl)
    (case c18 => first | k_is | rfl)
    (case k18 => first | k_is | rfl)
    (case a19 => first | k_is | rfl)
    (case l19 => first | k_is | rfl)
    (case c19 => first | k_is | rfl)
    (case k19 => first | k_is | rfl)
    (case a20 => first | k_is | rfl)
    (case l20 => first | k_is | rfl)
    (case c20 => first | k_is | rfl)
    (case k20 => first | k_is | rfl)
    (case a21 => first | k_is | rfl)
    (case l21 => first | k_is | rfl)
    (case c21 => first | k_is | rfl)
    (case k21 => first | k_is | rfl)
    (case a22 => first | k_is | rfl)
    (case l22 => first | k_is | rfl)
    (case c22 => first | k_is | rfl)
    (case k22 => first | k_is | rfl)
    (case a23 => first | k_is | rfl)
    (case l23 => first | k_is | rfl)
    (case c23 => first | k_is | rfl)
    (case k23 => first | k_is | rfl)
    (case a24 => first | k_is | rfl)
    (case l24 => first | k_is | rfl)
    (case c24 => first | k_is | rfl)
    (case k24 => first | k_is | rfl)
    (case a25 => first | k_is | rfl)
    (case l25 => first | k_is | rfl)
    (case c25 => first | k_is | rfl)
    (case k25 => first | k_is | rfl)
    (case a26 => first | k_is | rfl)
    (case l26 => first | k_is | rfl)
    (case c26 => first | k_is | rfl)
    (case k26 => first | k_is | rfl)
    (case a27 => first | k_is | rfl)
    (case l27 => first | k_is | rfl)
    (case c27 => first | k_is | rfl)
    (case k27 => first | k_is | rfl)
    (case a28 => first | k_is | rfl)
    (case l28 => first | k_is | rfl)
    (case c28 => first | k_is | rfl)
    (case k28 => first | k_is | rfl)
    (case a29 => first | k_is | rfl)
    (case l29 => first | k_is | rfl)
    (case c29 => first | k_is | rfl)
    (case k29 => first | k_is | rfl)
    (case a30 => first | k_is | rfl)
    (case l30 => first | k_is | rfl)
    (case c30 => first | k_is | rfl)
    (case k30 => first | k_is | rfl)
    (case a31 => first | k_is | rfl)
    (case l31 => first | k_is | rfl)
    (case c31 => first | k_is | rfl)
    (case k31 => first | k_is | rfl)
    (case a32 => first | k_is | rfl)
    (case l32 => first | k_is | rfl)
    (case c32 => first | k_is | rfl)
    (case k32 => first | k_is | rfl)
    (case A_ClockError => first | k_is | rfl)
    (case A_BadNumber => first | k_is | rfl)
    (case A_BadBounds => first | k_is | rfl)
    (case A_BadCase => first | k_is | rfl)
    (case e1_BadBounds => first | k_is | rfl)
    (case e2_BadBounds => first | k_is | rfl)
    (case e3_BadBounds => first | k_is | rfl)
    (case e4_BadBounds => first | k_is | rfl)
    (case e1_BadCase => first | k_is | rfl)
    (case e2_BadCase => first | k_is | rfl)
    (case e3_BadCase => first | k_is | rfl)
    (case e4_BadCase => first | k_is | rfl)
    (case e1_BadNumber => first | k_is | rfl)
    (case e2_BadNumber => first | k_is | rfl)
    (case e3_BadNumber => first | k_is | rfl)
    (case e4_BadNumber => first | k_is | rfl)
    (case x_BadBounds => first | k_is | rfl)
    (case r_BadBounds => first | k_is | rfl)
    (case s_BadBounds => first | k_is | rfl)
    (case t_BadBounds => first | k_is | rfl)
    (case k_BadBounds => first | k_is | rfl)
    (case n_BadBounds => first | k_is | rfl)
    (case i_BadBounds => first | k_is | rfl)
    (case ty_BadBounds => first | k_is | rfl)
    (case x_BadCase => first | k_is | rfl)
    (case r_BadCase => first | k_is | rfl)
    (case s_BadCase => first | k_is | rfl)
    (case t_BadCase => first | k_is | rfl)
    (case k_BadCase => first | k_is | rfl)
    (case n_BadCase => first | k_is | rfl)
    (case i_BadCase => first | k_is | rfl)
    (case ty_BadCase => first | k_is | rfl)
    (case x_BadNumber => first | k_is | rfl)
    (case r_BadNumber => first | k_is | rfl)
    (case s_BadNumber => first | k_is | rfl)
    (case t_BadNumber => first | k_is | rfl)
    (case k_BadNumber => first | k_is | rfl)
    (case n_BadNumber => first | k_is | rfl)
    (case i_BadNumber => first | k_is | rfl)
    (case ty_BadNumber => first | k_is | rfl)
    (case li_BadBounds => first | k_is | rfl)
    (case ci_BadBounds => first | k_is | rfl)
    (case ki_BadBounds => first | k_is | rfl)
    (case zi_BadBounds => first | k_is | rfl)
    (case li_BadCase => first | k_is | rfl)
    (case ci_BadCase => first | k_is | rfl)
    (case ki_BadCase => first | k_is | rfl)
    (case zi_BadCase => first | k_is | rfl)
    (case li_BadNumber => first | k_is | rfl)
    (case ci_BadNumber => first | k_is | rfl)
    (case ki_BadNumber => first | k_is | rfl)
    (case zi_BadNumber => first | k_is | rfl)
    (case h1_BadBounds => first | k_is | rfl)
    (case h2_BadBounds => first | k_is | rfl)
    (case h1_BadCase => first | k_is | rfl)
    (case h2_BadCase => first | k_is | rfl)
    (case h1_BadNumber => first | k_is | rfl)
    (case h2_BadNumber => first | k_is | rfl)
    (case w1 => first | k_is | rfl)
    (case w2 => first | k_is | rfl)
    (case kk_BadBounds_ClockError => first | k_is | rfl)
    (case kk_BadCase_ClockError => first | k_is | rfl)
    (case kk_BadNumber_ClockError => first | k_is | rfl)
    (case kk_BadBounds_BadNumber_BadCase => first | k_is | rfl)
    (case kk_BadCase_BadNumber_BadBounds => first | k_is | rfl)
    (case kk_BadNumber_BadBounds_BadCase => first | k_is | rfl)
    (case xm_ClockError_BadBounds => first | k_is | rfl)
    (case xm_ClockError_BadCase => first | k_is | rfl)
    (case xm_ClockError_BadNumber => first | k_is | rfl)
    (case xm_ClockError_ClockError => first | k_is | rfl)
    (case xm_BadNumber_BadBounds => first | k_is | rfl)
    (case xm_BadNumber_BadCase => first | k_is | rfl)
    (case xm_BadNumber_BadNumber => first | k_is | rfl)
    (case xm_BadNumber_ClockError => first | k_is | rfl)
    (case xm_BadBounds_BadBounds => first | k_is | rfl)
    (case xm_BadBounds_BadCase => first | k_is | rfl)
    (case xm_BadBounds_BadNumber => first | k_is | rfl)
    (case xm_BadBounds_ClockError => first | k_is | rfl)
    (case xm_BadCase_BadBounds => first | k_is | rfl)
    (case xm_BadCase_BadCase => first | k_is | rfl)
    (case xm_BadCase_BadNumber => first | k_is | rfl)
    (case xm_BadCase_ClockError => first | k_is | rfl)
    (case z_bool => first | k_is | rfl)
    (case z_int => first | k_is | rfl)
    (case z_isinstance => first | k_is | rfl)
    (case z_len => first | k_is | rfl)
    (case z_list => first | k_is | rfl)
    (case z_max => first | k_is | rfl)
    (case z_min => first | k_is | rfl)
    (case z_range => first | k_is | rfl)
    (case z_repr => first | k_is | rfl)
    (case z_sorted => first | k_is | rfl)
    (case z_str => first | k_is | rfl)
    (case z_tuple => first | k_is | rfl)
    (case z_gcd => first | k_is | rfl)
    (case d_WIDE_LIMIT => first | k_is | rfl)

