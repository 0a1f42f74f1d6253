import PyProof.Rows.All
import Wide.All
import OpenK.AllK
import Wide.FinOn
import HandS.ForMost
import HandS.Exc
import HandS.ExcOwn
import HandS.TryOnly
import HandS.WordsExc
import HandS.Walk
import HandS.CallSlots
import HandS.Wide
import HandS.Evl
import HandS.TupAny
import HandS.Deep
import HandS.IsInst
import HandS.Conv
import HandS.Style
import HandS.SortInts
import HandS.TupLe
import KE.SortData
import HandS.TupSets
import HandS.SetFor
import PySem.Challenge.RW_oppositesmeet_k00_rooms_and_their_signs
set_option Elab.async false
set_option linter.all false
set_option maxRecDepth 100000
set_option maxHeartbeats 4000000
namespace DL
open PySem L2
open Evl (Ex)

/-! ### plain data, and how it lies in a heap -/
inductive D where
  | non | bl (b : Bool) | int (i : Int) | str (x : Str)
  | tup (xs : List D) | lst (xs : List D)
  | dK (kvs : List (Key × D)) | dT (kvs : List (List Key × D))
  | obj (C : Addr) (fs : List (Str × D))
  | scr (ns : List Int)
  | ref (a : Addr)
  deriving Inhabited

mutual
def Rep (K : PySem.W.Frag) (F : Hp) : D → V → Prop
  | .non, v => v = .non
  | .bl b, v => v = .bl b
  | .int i, v => v = .int i
  | .str x, v => v = .str x
  | .tup ds, v => ∃ a xs, v = .ref a ∧ SqT K F a xs ∧ Reps K F ds xs
  | .lst ds, v => ∃ a xs, v = .ref a ∧ F a = some (.lst xs) ∧ Reps K F ds xs
  | .dK kvs, v => ∃ a ys, v = .ref a ∧ F a = some (.dK ys) ∧ RepK K F kvs ys
  | .dT kvs, v => ∃ a ys, v = .ref a ∧ F a = some (.dT ys) ∧ RepT K F kvs ys
  | .obj C fs, v => ∃ a dx ys, v = .ref a ∧ F a = some (.ins C dx ys) ∧ RepF K F fs ys
  | .scr ns, v => ∃ a, v = .ref a ∧ SqL K F a (ns.map V.int)
  | .ref a, v => v = .ref a
def Reps (K : PySem.W.Frag) (F : Hp) : List D → List V → Prop
  | [], vs => vs = []
  | d :: ds, vs => ∃ v r, vs = v :: r ∧ Rep K F d v ∧ Reps K F ds r
def RepK (K : PySem.W.Frag) (F : Hp) : List (Key × D) → List (Key × V) → Prop
  | [], vs => vs = []
  | (k, d) :: ds, vs => ∃ v r, vs = (k, v) :: r ∧ Rep K F d v ∧ RepK K F ds r
def RepT (K : PySem.W.Frag) (F : Hp) : List (List Key × D) → List (List Key × V) → Prop
  | [], vs => vs = []
  | (k, d) :: ds, vs => ∃ v r, vs = (k, v) :: r ∧ Rep K F d v ∧ RepT K F ds r
def RepF (K : PySem.W.Frag) (F : Hp) : List (Str × D) → List (Str × V) → Prop
  | [], vs => vs = []
  | (k, d) :: ds, vs => ∃ v r, vs = (k, v) :: r ∧ Rep K F d v ∧ RepF K F ds r
end

section
variable {K : PySem.W.Frag} {F F' : Hp}
mutual
theorem Rep.mono (e : Ex F F') : ∀ {d : D} {v : V}, Rep K F d v → Rep K F' d v
  | .non, _, h => by simpa only [Rep] using h
  | .bl _, _, h => by simpa only [Rep] using h
  | .int _, _, h => by simpa only [Rep] using h
  | .str _, _, h => by simpa only [Rep] using h
  | .tup ds, v, h => by
    simp only [Rep] at h ⊢
    obtain ⟨a, xs, h1, h2, h3⟩ := h
    exact ⟨a, xs, h1, Evl.ex_t e h2, Reps.mono e h3⟩
  | .lst ds, v, h => by
    simp only [Rep] at h ⊢
    obtain ⟨a, xs, h1, h2, h3⟩ := h
    exact ⟨a, xs, h1, e _ _ h2, Reps.mono e h3⟩
  | .dK kvs, v, h => by
    simp only [Rep] at h ⊢
    obtain ⟨a, xs, h1, h2, h3⟩ := h
    exact ⟨a, xs, h1, e _ _ h2, RepK.mono e h3⟩
  | .dT kvs, v, h => by
    simp only [Rep] at h ⊢
    obtain ⟨a, xs, h1, h2, h3⟩ := h
    exact ⟨a, xs, h1, e _ _ h2, RepT.mono e h3⟩
  | .obj C fs, v, h => by
    simp only [Rep] at h ⊢
    obtain ⟨a, dx, xs, h1, h2, h3⟩ := h
    exact ⟨a, dx, xs, h1, e _ _ h2, RepF.mono e h3⟩
  | .scr ns, v, h => by
    simp only [Rep] at h ⊢
    obtain ⟨a, h1, h2⟩ := h
    exact ⟨a, h1, Evl.ex_l e h2⟩
  | .ref _, _, h => by simpa only [Rep] using h
theorem Reps.mono (e : Ex F F') : ∀ {ds : List D} {vs : List V}, Reps K F ds vs → Reps K F' ds vs
  | [], _, h => by simpa only [Reps] using h
  | d :: ds, vs, h => by
    simp only [Reps] at h ⊢
    obtain ⟨v, r, h1, h2, h3⟩ := h
    exact ⟨v, r, h1, Rep.mono e h2, Reps.mono e h3⟩
theorem RepK.mono (e : Ex F F') : ∀ {ds : List (Key × D)} {vs : List (Key × V)}, RepK K F ds vs → RepK K F' ds vs
  | [], _, h => by simpa only [RepK] using h
  | (k, d) :: ds, vs, h => by
    simp only [RepK] at h ⊢
    obtain ⟨v, r, h1, h2, h3⟩ := h
    exact ⟨v, r, h1, Rep.mono e h2, RepK.mono e h3⟩
theorem RepT.mono (e : Ex F F') : ∀ {ds : List (List Key × D)} {vs : List (List Key × V)}, RepT K F ds vs → RepT K F' ds vs
  | [], _, h => by simpa only [RepT] using h
  | (k, d) :: ds, vs, h => by
    simp only [RepT] at h ⊢
    obtain ⟨v, r, h1, h2, h3⟩ := h
    exact ⟨v, r, h1, Rep.mono e h2, RepT.mono e h3⟩
theorem RepF.mono (e : Ex F F') : ∀ {ds : List (Str × D)} {vs : List (Str × V)}, RepF K F ds vs → RepF K F' ds vs
  | [], _, h => by simpa only [RepF] using h
  | (k, d) :: ds, vs, h => by
    simp only [RepF] at h ⊢
    obtain ⟨v, r, h1, h2, h3⟩ := h
    exact ⟨v, r, h1, Rep.mono e h2, RepF.mono e h3⟩
end
theorem Reps.length : ∀ {ds : List D} {vs : List V}, Reps K F ds vs → vs.length = ds.length
  | [], _, h => by simp only [Reps] at h; subst h; rfl
  | d :: ds, vs, h => by
    simp only [Reps] at h
    obtain ⟨v, r, rfl, _, h3⟩ := h
    simp only [List.length_cons, Reps.length h3]
theorem Reps.nil : Reps K F [] [] := by simp only [Reps]
theorem Reps.cons {d : D} {v : V} {ds : List D} {vs : List V} (h : Rep K F d v) (t : Reps K F ds vs) : Reps K F (d :: ds) (v :: vs) := by
  simp only [Reps]
  exact ⟨v, vs, rfl, h, t⟩
theorem Reps.get : ∀ {ds : List D} {vs : List V} {i : Nat} {v : V}, Reps K F ds vs → vs[i]? = some v → ∃ d, ds[i]? = some d ∧ Rep K F d v
  | [], vs, i, v, h, e => by simp only [Reps] at h; subst h; simp at e
  | d :: ds, vs, i, v, h, e => by
    simp only [Reps] at h
    obtain ⟨v0, r, rfl, h2, h3⟩ := h
    cases i with
    | zero => simp at e; subst e; exact ⟨d, rfl, h2⟩
    | succ i =>
      obtain ⟨d', e1, e2⟩ := Reps.get (i := i) h3 (by simpa using e)
      exact ⟨d', by simpa using e1, e2⟩
theorem Reps.getD : ∀ {ds : List D} {vs : List V} {i : Nat} {d : D}, Reps K F ds vs → ds[i]? = some d → ∃ v, vs[i]? = some v ∧ Rep K F d v
  | [], vs, i, v, h, e => by simp at e
  | d0 :: ds, vs, i, v, h, e => by
    simp only [Reps] at h
    obtain ⟨v0, r, rfl, h2, h3⟩ := h
    cases i with
    | zero => simp at e; subst e; exact ⟨v0, rfl, h2⟩
    | succ i =>
      obtain ⟨d', e1, e2⟩ := Reps.getD (i := i) h3 (by simpa using e)
      exact ⟨d', by simpa using e1, e2⟩
theorem Reps.append : ∀ {ds es : List D} {vs us : List V}, Reps K F ds vs → Reps K F es us → Reps K F (ds ++ es) (vs ++ us)
  | [], es, vs, us, h, t => by simp only [Reps] at h; subst h; exact t
  | d :: ds, es, vs, us, h, t => by
    simp only [Reps] at h
    obtain ⟨v, r, rfl, h2, h3⟩ := h
    exact Reps.cons h2 (Reps.append h3 t)
theorem Reps.take : ∀ {ds : List D} {vs : List V} (n : Nat), Reps K F ds vs → Reps K F (ds.take n) (vs.take n)
  | [], vs, n, h => by simp only [Reps] at h; subst h; simp [Reps]
  | d :: ds, vs, 0, h => by simp [Reps]
  | d :: ds, vs, n + 1, h => by
    simp only [Reps] at h
    obtain ⟨v, r, rfl, h2, h3⟩ := h
    exact Reps.cons h2 (Reps.take n h3)
theorem Reps.drop : ∀ {ds : List D} {vs : List V} (n : Nat), Reps K F ds vs → Reps K F (ds.drop n) (vs.drop n)
  | [], vs, n, h => by simp only [Reps] at h; subst h; simp [Reps]
  | d :: ds, vs, 0, h => h
  | d :: ds, vs, n + 1, h => by
    simp only [Reps] at h
    obtain ⟨v, r, rfl, h2, h3⟩ := h
    exact Reps.drop n h3
theorem Reps.reverse {ds : List D} : ∀ {vs : List V}, Reps K F ds vs → Reps K F ds.reverse vs.reverse := by
  induction ds with
  | nil => intro vs h; simp only [Reps] at h; subst h; simp [Reps]
  | cons d ds ih =>
    intro vs h
    simp only [Reps] at h
    obtain ⟨v, r, rfl, h2, h3⟩ := h
    rw [List.reverse_cons, List.reverse_cons]
    exact (ih h3).append (Reps.cons h2 Reps.nil)
theorem Reps.set {d : D} {v : V} (q : Rep K F d v) : ∀ {ds : List D} {vs : List V} (i : Nat), Reps K F ds vs → Reps K F (ds.set i d) (vs.set i v)
  | [], vs, i, h => by simp only [Reps] at h; subst h; simp [Reps]
  | d0 :: ds, vs, 0, h => by
    simp only [Reps] at h
    obtain ⟨v0, r, rfl, h2, h3⟩ := h
    exact Reps.cons q h3
  | d0 :: ds, vs, i + 1, h => by
    simp only [Reps] at h
    obtain ⟨v0, r, rfl, h2, h3⟩ := h
    exact Reps.cons h2 (Reps.set q i h3)
theorem Reps.eraseIdx : ∀ {ds : List D} {vs : List V} (i : Nat), Reps K F ds vs → Reps K F (ds.eraseIdx i) (vs.eraseIdx i)
  | [], vs, i, h => by simp only [Reps] at h; subst h; simp [Reps]
  | d0 :: ds, vs, 0, h => by
    simp only [Reps] at h
    obtain ⟨v0, r, rfl, h2, h3⟩ := h
    exact h3
  | d0 :: ds, vs, i + 1, h => by
    simp only [Reps] at h
    obtain ⟨v0, r, rfl, h2, h3⟩ := h
    exact Reps.cons h2 (Reps.eraseIdx i h3)
theorem Reps.ints : ∀ {ns : List Int} {vs : List V}, Reps K F (ns.map D.int) vs → vs = ns.map V.int
  | [], vs, h => by simpa only [List.map_nil, Reps] using h
  | n :: ns, vs, h => by
    simp only [List.map_cons, Reps, Rep] at h
    obtain ⟨v, r, rfl, rfl, h3⟩ := h
    rw [Reps.ints h3]; rfl
theorem Reps.of_ints : ∀ (ns : List Int), Reps K F (ns.map D.int) (ns.map V.int)
  | [] => by simp [Reps]
  | n :: ns => Reps.cons (by simp [Rep]) (Reps.of_ints ns)
/-- the ints of a list of data that is ints -/
def intsOf : List D → Option (List Int)
  | [] => some []
  | .int i :: r => (intsOf r).map (i :: ·)
  | _ :: _ => none
theorem intsOf_map : ∀ ns : List Int, intsOf (ns.map D.int) = some ns
  | [] => rfl
  | n :: ns => by simp [intsOf, intsOf_map ns]
theorem intsOf_eq : ∀ {ds : List D} {ns : List Int}, intsOf ds = some ns → ds = ns.map D.int
  | [], ns, h => by simp [intsOf] at h; subst h; rfl
  | .int i :: r, ns, h => by
    simp only [intsOf, Option.map_eq_some_iff] at h
    obtain ⟨m, h1, rfl⟩ := h
    rw [intsOf_eq h1]; rfl
  | .non :: r, ns, h => by simp [intsOf] at h
  | .bl _ :: r, ns, h => by simp [intsOf] at h
  | .str _ :: r, ns, h => by simp [intsOf] at h
  | .tup _ :: r, ns, h => by simp [intsOf] at h
  | .lst _ :: r, ns, h => by simp [intsOf] at h
  | .dK _ :: r, ns, h => by simp [intsOf] at h
  | .dT _ :: r, ns, h => by simp [intsOf] at h
  | .obj _ _ :: r, ns, h => by simp [intsOf] at h
  | .scr _ :: r, ns, h => by simp [intsOf] at h
  | .ref _ :: r, ns, h => by simp [intsOf] at h
end

/-! ### readable: the object itself in H, what is in it in F -/
def RepB (K : PySem.W.Frag) (F H : Hp) : D → V → Prop
  | .lst ds, v => ∃ a xs, v = .ref a ∧ H a = some (.lst xs) ∧ Reps K F ds xs
  | .dK kvs, v => ∃ a ys, v = .ref a ∧ H a = some (.dK ys) ∧ RepK K F kvs ys
  | .dT kvs, v => ∃ a ys, v = .ref a ∧ H a = some (.dT ys) ∧ RepT K F kvs ys
  | .obj C fs, v => ∃ a dx ys, v = .ref a ∧ H a = some (.ins C dx ys) ∧ RepF K F fs ys
  | .scr ns, v => ∃ a, v = .ref a ∧ SqL K H a (ns.map V.int)
  | .non, v => v = .non
  | .bl b, v => v = .bl b
  | .int i, v => v = .int i
  | .str x, v => v = .str x
  | .tup ds, v => ∃ a xs, v = .ref a ∧ SqT K F a xs ∧ Reps K F ds xs
  | .ref a, v => v = .ref a
/-- what is never changed: no list, dict, object -/
def flat : D → Bool
  | .lst _ => false
  | .dK _ => false
  | .dT _ => false
  | .obj _ _ => false
  | .scr _ => false
  | _ => true
section
variable {K : PySem.W.Frag} {F F' H H' : Hp} {d : D} {v : V}
theorem Rep.toB (e : Ex F H) (h : Rep K F d v) : RepB K F H d v := by
  cases d <;> simp only [Rep, RepB] at h ⊢
  case lst ds => obtain ⟨a, xs, h1, h2, h3⟩ := h; exact ⟨a, xs, h1, e _ _ h2, h3⟩
  case dK ds => obtain ⟨a, xs, h1, h2, h3⟩ := h; exact ⟨a, xs, h1, e _ _ h2, h3⟩
  case dT ds => obtain ⟨a, xs, h1, h2, h3⟩ := h; exact ⟨a, xs, h1, e _ _ h2, h3⟩
  case obj C fs => obtain ⟨a, dx, xs, h1, h2, h3⟩ := h; exact ⟨a, dx, xs, h1, e _ _ h2, h3⟩
  case scr ns => obtain ⟨a, h1, h2⟩ := h; exact ⟨a, h1, Evl.ex_l e h2⟩
  all_goals exact h
theorem RepB.mono (e : Ex F F') (e' : Ex H H') (h : RepB K F H d v) : RepB K F' H' d v := by
  cases d <;> simp only [RepB] at h ⊢
  case lst ds => obtain ⟨a, xs, h1, h2, h3⟩ := h; exact ⟨a, xs, h1, e' _ _ h2, h3.mono e⟩
  case dK ds => obtain ⟨a, xs, h1, h2, h3⟩ := h; exact ⟨a, xs, h1, e' _ _ h2, h3.mono e⟩
  case dT ds => obtain ⟨a, xs, h1, h2, h3⟩ := h; exact ⟨a, xs, h1, e' _ _ h2, h3.mono e⟩
  case obj C fs => obtain ⟨a, dx, xs, h1, h2, h3⟩ := h; exact ⟨a, dx, xs, h1, e' _ _ h2, h3.mono e⟩
  case scr ns => obtain ⟨a, h1, h2⟩ := h; exact ⟨a, h1, Evl.ex_l e' h2⟩
  case tup ds => obtain ⟨a, xs, h1, h2, h3⟩ := h; exact ⟨a, xs, h1, Evl.ex_t e h2, h3.mono e⟩
  all_goals exact h
theorem RepB.flat (hf : flat d = true) (h : RepB K F H d v) : Rep K F d v := by
  cases d <;> simp only [DL.flat] at hf <;> simp only [RepB, Rep] at h ⊢ <;> first | exact h | cases hf
/-- an object of its own: laid into F it is there -/
theorem RepB.froze {a : Addr} {o : HO} (h : RepB K F H d (.ref a)) (hf : DL.flat d = false) (ho : H a = some o) (hn : F a = none) : Rep K (upd F a o) d (.ref a) := by
  have e : Ex F (upd F a o) := Ex.new hn
  cases d <;> simp only [DL.flat] at hf <;> simp only [RepB, Rep] at h ⊢ <;> try cases hf
  case lst ds =>
    obtain ⟨b, xs, h1, h2, h3⟩ := h; injection h1 with h1; subst h1
    rw [ho] at h2; injection h2 with h2; subst h2
    exact ⟨a, xs, rfl, upd_same, h3.mono e⟩
  case dK ds =>
    obtain ⟨b, xs, h1, h2, h3⟩ := h; injection h1 with h1; subst h1
    rw [ho] at h2; injection h2 with h2; subst h2
    exact ⟨a, xs, rfl, upd_same, h3.mono e⟩
  case dT ds =>
    obtain ⟨b, xs, h1, h2, h3⟩ := h; injection h1 with h1; subst h1
    rw [ho] at h2; injection h2 with h2; subst h2
    exact ⟨a, xs, rfl, upd_same, h3.mono e⟩
  case obj C fs =>
    obtain ⟨b, dx, xs, h1, h2, h3⟩ := h; injection h1 with h1; subst h1
    rw [ho] at h2; injection h2 with h2; subst h2
    exact ⟨a, dx, xs, rfl, upd_same, h3.mono e⟩
  case scr ns =>
    obtain ⟨b, h1, h2⟩ := h; injection h1 with h1; subst h1
    refine ⟨a, rfl, ?_⟩
    rcases h2 with h2 | h2
    · left
      rcases h2 with h2 | ⟨o', h2⟩
      · left; rw [ho] at h2; injection h2 with h2; subst h2; exact upd_same
      · right; rw [ho] at h2; injection h2 with h2; subst h2; exact ⟨o', upd_same⟩
    · exact .inr h2
end
theorem ex_upd2 {F H : Hp} {a : Addr} {o : HO} (e : Ex F H) : Ex (upd F a o) (upd H a o) := fun b u q => by
  by_cases hb : b = a
  · subst hb; rw [upd_same] at q ⊢; exact q
  · rw [upd_ne hb] at q ⊢; exact e _ _ q
theorem ex_into {F H : Hp} {a : Addr} {o : HO} (e : Ex F H) (h : H a = some o) : Ex (upd F a o) H := fun b u q => by
  by_cases hb : b = a
  · subst hb; rw [upd_same] at q; injection q with q; subst q; exact h
  · rw [upd_ne hb] at q; exact e _ _ q

/-! ### slots, states -/
inductive Slot where
  | val (d : D) | acc (d : D) | par (d : D)
abbrev Env := List (Option Slot)
def SlotOk (K : PySem.W.Frag) (F H0 H : Hp) (v? : Option (Option V)) : Slot → Prop
  | .val d => ∃ v, v? = some (some v) ∧ Rep K F d v
  | .par d => ∃ v, v? = some (some v) ∧ RepB K F H0 d v
  | .acc d => ∃ a, v? = some (some (.ref a)) ∧ H0 a = none ∧ F a = none ∧ DL.flat d = false ∧ (∃ o, H a = some o) ∧ RepB K F H d (.ref a)
structure StOk (K : PySem.W.Frag) (ρ : Env) (F0 H0 F : Hp) (σ : L2.St) (H : Hp) : Prop where
  base : Ex H0 H
  f0 : Ex F0 F
  fr : Ex F H
  new : ∀ a, F a ≠ none → F0 a ≠ none ∨ H0 a = none
  len : σ.length = ρ.length
  slot : ∀ (i : Nat) (s : Slot), ρ[i]? = some (some s) → SlotOk K F H0 H σ[i]? s
  dis : ∀ (i j : Nat) (d e : D), i ≠ j → ρ[i]? = some (some (.acc d)) → ρ[j]? = some (some (.acc e)) → σ[i]? ≠ σ[j]?
/-- the heap has grown, some of the new is kept in F -/
structure Step (F F' H H' : Hp) : Prop where
  h : Ex H H'
  f : Ex F F'
  fr : Ex F' H'
  new : ∀ a, F' a ≠ none → F a ≠ none ∨ H a = none
theorem Step.refl {F H : Hp} (e : Ex F H) : Step F F H H := ⟨Ex.refl _, Ex.refl _, e, fun _ h => .inl h⟩
theorem Step.trans {F F1 F2 H H1 H2 : Hp} (a : Step F F1 H H1) (b : Step F1 F2 H1 H2) : Step F F2 H H2 :=
  ⟨a.h.trans b.h, a.f.trans b.f, b.fr, fun x h => by
    rcases b.new x h with z | z
    · exact a.new x z
    · exact .inr (Evl.fresh_back a.h z)⟩
theorem Step.newH {F H : Hp} {p : Addr} {o : HO} (e : Ex F H) (hp : H p = none) : Step F F H (upd H p o) :=
  ⟨Ex.new hp, Ex.refl _, fun b u q => by rw [upd_ne (ne_of_none (e _ _ q) hp)]; exact e _ _ q, fun _ h => .inl h⟩
theorem Step.newF {F H : Hp} {p : Addr} {o : HO} (e : Ex F H) (hp : H p = none) : Step F (upd F p o) H (upd H p o) :=
  ⟨Ex.new hp, Ex.new (Evl.fresh_back e hp), ex_upd2 e, fun x h => by
    by_cases hx : x = p
    · subst hx; exact .inr hp
    · rw [upd_ne hx] at h; exact .inl h⟩
theorem none_of_not {α : Type} {x : Option α} (h : ¬ x ≠ none) : x = none := by
  cases x with
  | none => rfl
  | some _ => exact absurd (by simp) h
theorem Step.keepN {F F' H H' : Hp} {a : Addr} {o : HO} (s : Step F F' H H') (hf : F a = none) (hh : H a = some o) : F' a = none := by
  refine none_of_not fun h => ?_
  rcases s.new a h with z | z
  · exact z hf
  · rw [hh] at z; cases z
end DL
set_option maxHeartbeats 4000000
namespace DL
open PySem L2
open Evl (Ex)
section
variable {K : PySem.W.Frag} {ρ : Env} {F0 H0 F F' H H' : Hp} {σ : L2.St}
theorem StOk.step (h : StOk K ρ F0 H0 F σ H) (s : Step F F' H H') : StOk K ρ F0 H0 F' σ H' where
  base := h.base.trans s.h
  f0 := h.f0.trans s.f
  fr := s.fr
  new := fun a q => by
    rcases s.new a q with z | z
    · exact h.new a z
    · exact .inr (Evl.fresh_back h.base z)
  len := h.len
  slot := fun i sl e => by
    have q := h.slot i sl e
    cases sl with
    | val d => obtain ⟨v, h1, h2⟩ := q; exact ⟨v, h1, h2.mono s.f⟩
    | par d => obtain ⟨v, h1, h2⟩ := q; exact ⟨v, h1, h2.mono s.f (Ex.refl _)⟩
    | acc d =>
      obtain ⟨a, h1, h2, h3, h4, ⟨o, h5⟩, h6⟩ := q
      exact ⟨a, h1, h2, s.keepN h3 h5, h4, ⟨o, s.h _ _ h5⟩, h6.mono s.f s.h⟩
  dis := h.dis
end

/-! ### results -/
structure XC where
  C : Addr
  fs : List (Str × D)
inductive R (α : Type) where
  | ok (a : α) | exc (x : XC) | bad
def R.bind {α β : Type} (r : R α) (f : α → R β) : R β := match r with
  | .ok a => f a
  | .exc x => .exc x
  | .bad => .bad
def R.of {α : Type} : Option α → R α
  | some a => .ok a
  | none => .bad
@[simp] theorem R.bind_ok {α β : Type} (a : α) (f : α → R β) : (R.ok a).bind f = f a := (rfl)
@[simp] theorem R.bind_exc {α β : Type} (x : XC) (f : α → R β) : (R.exc x).bind f = .exc x := (rfl)
@[simp] theorem R.bind_bad {α β : Type} (f : α → R β) : (R.bad : R α).bind f = .bad := (rfl)
@[simp] theorem R.of_some {α : Type} (a : α) : R.of (some a) = .ok a := (rfl)
@[simp] theorem R.of_none {α : Type} : R.of (none : Option α) = .bad := (rfl)
/-- an expression's result: kept in F, a new object of its own, a parameter's, a local's -/
inductive Rv where
  | val (d : D) | own (d : D) | par (d : D) | bor (d : D)
def Rv.d : Rv → D
  | .val d => d
  | .own d => d
  | .par d => d
  | .bor d => d
@[simp] theorem Rv.d_val (d : D) : (Rv.val d).d = d := (rfl)
@[simp] theorem Rv.d_own (d : D) : (Rv.own d).d = d := (rfl)
@[simp] theorem Rv.d_par (d : D) : (Rv.par d).d = d := (rfl)
@[simp] theorem Rv.d_bor (d : D) : (Rv.bor d).d = d := (rfl)
def RvOk (K : PySem.W.Frag) (F H0 Hs H : Hp) : Rv → V → Prop
  | .val d, v => Rep K F d v
  | .own d, v => ∃ a, v = .ref a ∧ Hs a = none ∧ F a = none ∧ DL.flat d = false ∧ (∃ o, H a = some o) ∧ RepB K F H d v
  | .par d, v => RepB K F H0 d v
  | .bor d, v => RepB K F H d v
def ExcOk (K : PySem.W.Frag) (F H : Hp) (x : XC) (cls : Value) (d : Option Addr) : Prop :=
  cls = .ref x.C ∧ ∃ dd ys, d = some dd ∧ H dd = some (.xd ys) ∧ RepF K F x.fs ys
section
variable {K : PySem.W.Frag} {F F' H0 Hs H H' : Hp} {r : Rv} {v : V}
theorem RvOk.step (h : RvOk K F H0 Hs H r v) (s : Step F F' H H') : RvOk K F' H0 Hs H' r v := by
  cases r with
  | val d => exact Rep.mono s.f h
  | own d =>
    obtain ⟨a, h1, h2, h3, h4, ⟨o, h5⟩, h6⟩ := h
    exact ⟨a, h1, h2, s.keepN h3 h5, h4, ⟨o, s.h _ _ h5⟩, h6.mono s.f s.h⟩
  | par d => exact RepB.mono s.f (Ex.refl _) h
  | bor d => exact RepB.mono s.f s.h h
theorem RvOk.start {Hs' : Hp} (h : RvOk K F H0 Hs H r v) (e : Ex Hs' Hs) : RvOk K F H0 Hs' H r v := by
  cases r with
  | own d => obtain ⟨a, h1, h2, h3⟩ := h; exact ⟨a, h1, Evl.fresh_back e h2, h3⟩
  | val d => exact h
  | par d => exact h
  | bor d => exact h
theorem RvOk.b (h : RvOk K F H0 Hs H r v) (e : Ex F H) (e0 : Ex H0 H) : RepB K F H r.d v := by
  cases r with
  | val d => exact Rep.toB e h
  | own d => obtain ⟨a, h1, h2, h3, h4, h5, h6⟩ := h; exact h6
  | par d => exact RepB.mono (Ex.refl _) e0 h
  | bor d => exact h
/-- as a value that stays -/
def Rv.stay : Rv → Option D
  | .val d => some d
  | .own d => some d
  | .par d => if DL.flat d = true then some d else none
  | .bor d => if DL.flat d = true then some d else none
theorem RvOk.stay {F0 : Hp} {d : D} (h : RvOk K F' H0 Hs H' r v) (s : Step F F' Hs H') (e : r.stay = some d) : ∃ F2, Step F F2 Hs H' ∧ Ex F' F2 ∧ Rep K F2 d v := by
  cases r with
  | val d' =>
    simp only [Rv.stay, Option.some.injEq] at e; subst e
    exact ⟨F', s, Ex.refl _, h⟩
  | own d' =>
    simp only [Rv.stay, Option.some.injEq] at e; subst e
    obtain ⟨a, rfl, h2, h3, h4, ⟨o, h5⟩, h6⟩ := h
    refine ⟨upd F' a o, ⟨s.h, s.f.trans (Ex.new h3), ex_into s.fr h5, fun x q => ?_⟩, Ex.new h3, h6.froze h4 h5 h3⟩
    by_cases hx : x = a
    · subst hx; exact .inr h2
    · rw [upd_ne hx] at q; exact s.new x q
  | par d' =>
    simp only [Rv.stay] at e
    split at e <;> simp only [Option.some.injEq, reduceCtorEq] at e
    subst e
    exact ⟨F', s, Ex.refl _, RepB.flat (by assumption) h⟩
  | bor d' =>
    simp only [Rv.stay] at e
    split at e <;> simp only [Option.some.injEq, reduceCtorEq] at e
    subst e
    exact ⟨F', s, Ex.refl _, RepB.flat (by assumption) h⟩
end

/-! ### a reading te gives what r says -/
def Bd (K : PySem.W.Frag) (W : WX) (σ : L2.St) (F H : Hp) {α β : Type} (Ok : Hp → Hp → α → β → Prop) (r : R α) (te : (β → Hp → Prop) → Prop) : Prop :=
  ∀ Q : β → Hp → Prop, match r with
    | .ok a => (∀ y F' H', Step F F' H H' → Ok F' H' a y → Q y H') → te Q
    | .exc x => (∀ cls d F' H', Step F F' H H' → ExcOk K F' H' x cls d → W cls d σ H') → te Q
    | .bad => True
theorem Bd.bind {K : PySem.W.Frag} {W : WX} {σ : L2.St} {F H : Hp} {α β γ δ : Type} {Ok1 : Hp → Hp → α → β → Prop} {Ok2 : Hp → Hp → γ → δ → Prop} {r : R α} {te1 : (β → Hp → Prop) → Prop} {f : α → R γ} {te2 : β → Hp → (δ → Hp → Prop) → Prop}
    (h1 : Bd K W σ F H Ok1 r te1) (h2 : ∀ a y F1 H1, r = .ok a → Step F F1 H H1 → Ok1 F1 H1 a y → Bd K W σ F1 H1 Ok2 (f a) (te2 y H1)) :
    Bd K W σ F H Ok2 (r.bind f) (fun Q => te1 fun y H1 => te2 y H1 Q) := by
  intro Q
  cases r with
  | bad => trivial
  | exc x => exact fun k => h1 (fun y H1 => te2 y H1 Q) k
  | ok a =>
    show match f a with
      | .ok a => (∀ y F' H', Step F F' H H' → Ok2 F' H' a y → Q y H') → te1 fun y H1 => te2 y H1 Q
      | .exc x => (∀ cls d F' H', Step F F' H H' → ExcOk K F' H' x cls d → W cls d σ H') → te1 fun y H1 => te2 y H1 Q
      | .bad => True
    cases e : f a with
    | bad => trivial
    | ok b =>
      intro k
      refine h1 (fun y H1 => te2 y H1 Q) fun y F1 H1 s1 o1 => ?_
      have z := h2 a y F1 H1 rfl s1 o1 Q
      rw [e] at z
      exact z fun y' F' H' s2 o2 => k y' F' H' (s1.trans s2) o2
    | exc x =>
      intro k
      refine h1 (fun y H1 => te2 y H1 Q) fun y F1 H1 s1 o1 => ?_
      have z := h2 a y F1 H1 rfl s1 o1 Q
      rw [e] at z
      exact z fun cls d F' H' s2 o2 => k cls d F' H' (s1.trans s2) o2
theorem Bd.pure {K : PySem.W.Frag} {W : WX} {σ : L2.St} {F H : Hp} {α β : Type} {Ok : Hp → Hp → α → β → Prop} {a : α} {y : β} (e : Ex F H) (o : Ok F H a y) : Bd K W σ F H Ok (.ok a) (fun Q => Q y H) :=
  fun Q k => k y F H (.refl e) o
theorem Bd.imp {K : PySem.W.Frag} {W : WX} {σ : L2.St} {F H : Hp} {α β : Type} {Ok Ok' : Hp → Hp → α → β → Prop} {r : R α} {te : (β → Hp → Prop) → Prop} (h : Bd K W σ F H Ok r te)
    (i : ∀ a y F' H', Step F F' H H' → Ok F' H' a y → Ok' F' H' a y) : Bd K W σ F H Ok' r te := by
  intro Q
  have z := h Q
  cases r with
  | bad => trivial
  | exc x => exact z
  | ok a => exact fun k => z fun y F' H' s o => k y F' H' s (i a y F' H' s o)
/-- of an Option: nothing is raised -/
theorem Bd.of {K : PySem.W.Frag} {W : WX} {σ : L2.St} {F H : Hp} {α β : Type} {Ok : Hp → Hp → α → β → Prop} {r : Option α} {te : (β → Hp → Prop) → Prop}
    (h : ∀ a, r = some a → ∀ Q : β → Hp → Prop, (∀ y F' H', Step F F' H H' → Ok F' H' a y → Q y H') → te Q) : Bd K W σ F H Ok (R.of r) te := by
  intro Q
  cases r with
  | none => trivial
  | some a => exact fun k => h a rfl Q k

/-! ### the judgements -/
abbrev DE := Env → R Rv
abbrev DB := Env → R D
abbrev DT := Env → R Bool
abbrev DA := Env → R (List D)
def PDe (X : Cx) (W : WX) (e : Expr) (t : DE) : Prop :=
  ∃ te, PE X e te ∧ ∀ ρ F0 H0 F σ H, StOk X.K ρ F0 H0 F σ H → Bd X.K W σ F H (fun F' H' r v => RvOk X.K F' H0 H H' r v) (t ρ) (te σ H)
def PDb (X : Cx) (W : WX) (e : Expr) (t : DB) : Prop :=
  ∃ te, PE X e te ∧ ∀ ρ F0 H0 F σ H, StOk X.K ρ F0 H0 F σ H → Bd X.K W σ F H (fun F' H' d v => RepB X.K F' H' d v) (t ρ) (te σ H)
def PDv (X : Cx) (W : WX) (e : Expr) (t : DB) : Prop :=
  ∃ te, PE X e te ∧ ∀ ρ F0 H0 F σ H, StOk X.K ρ F0 H0 F σ H → Bd X.K W σ F H (fun F' H' d v => Rep X.K F' d v) (t ρ) (te σ H)
def PDt (X : Cx) (W : WX) (e : Expr) (t : DT) : Prop :=
  ∃ tt, PT X e tt ∧ ∀ ρ F0 H0 F σ H, StOk X.K ρ F0 H0 F σ H → Bd X.K W σ F H (fun _ _ b c => b = c) (t ρ) (tt σ H)
/-- arguments: some borrowed, some values -/
def PDa (X : Cx) (W : WX) (es : List Expr) (t : DA) (Ok : Hp → Hp → List D → List V → Prop) : Prop :=
  ∃ ta, PA X es ta ∧ ∀ ρ F0 H0 F σ H, StOk X.K ρ F0 H0 F σ H → Bd X.K W σ F H Ok (t ρ) (ta σ H)
def dB (t : DE) : DB := fun ρ => (t ρ).bind fun r => .ok r.d
def dV (t : DE) : DB := fun ρ => (t ρ).bind fun r => .of r.stay
section
variable {X : Cx} {W : WX} {e : Expr} {t : DE}
theorem PDe.b (h : PDe X W e t) : PDb X W e (dB t) := by
  obtain ⟨te, h1, h2⟩ := h
  refine ⟨te, h1, fun ρ F0 H0 F σ H st => ?_⟩
  have z := Bd.bind (f := fun r => .ok r.d) (te2 := fun v H1 Q => Q v H1) (Ok2 := fun F' H' d v => RepB X.K F' H' d v) (h2 ρ F0 H0 F σ H st) fun r v F1 H1 _ s o => Bd.pure s.fr (RvOk.b o s.fr (st.base.trans s.h))
  exact z
theorem PDe.v (h : PDe X W e t) : PDv X W e (dV t) := by
  obtain ⟨te, h1, h2⟩ := h
  refine ⟨te, h1, fun ρ F0 H0 F σ H st => ?_⟩
  have z := h2 ρ F0 H0 F σ H st
  intro Q
  have z := z Q
  unfold dV
  cases e1 : t ρ with
  | bad => trivial
  | exc x => rw [e1] at z; exact z
  | ok r =>
    rw [e1] at z
    rw [R.bind_ok]
    cases e2 : r.stay with
    | none => trivial
    | some d =>
      intro k
      refine z fun v F1 H1 s o => ?_
      obtain ⟨F2, s2, _, q⟩ := RvOk.stay (F0 := F0) o s e2
      exact k v F2 H1 s2 q
end
end DL
set_option maxHeartbeats 4000000
namespace DL
open PySem L2
open Evl (Ex)

/-! ### names, constants -/
def Slot.rd : Slot → Rv
  | .val d => .val d
  | .par d => if DL.flat d = true then .val d else .par d
  | .acc d => .bor d
def dVar (i : Nat) : DE := fun ρ => match ρ[i]? with
  | some (some s) => .ok s.rd
  | _ => .bad
def dC (d : D) : DE := fun _ => .ok (.val d)
section
variable {X : Cx} {W : WX}
theorem SlotOk.rd {K : PySem.W.Frag} {F H0 H : Hp} {v? : Option (Option V)} {s : Slot} (h : SlotOk K F H0 H v? s) (e : Ex F H) : ∃ v, v? = some (some v) ∧ RvOk K F H0 H H s.rd v := by
  cases s with
  | val d => exact h
  | par d =>
    obtain ⟨v, h1, h2⟩ := h
    refine ⟨v, h1, ?_⟩
    unfold Slot.rd
    by_cases hf : DL.flat d = true
    · simp only [hf, if_true]; exact h2.flat hf
    · simp only [hf]; exact h2
  | acc d => obtain ⟨a, h1, h2, h3, h4, h5, h6⟩ := h; exact ⟨_, h1, h6⟩
theorem pd_var (i : Nat) {x : Str} {pos : Pos} (hN : X.N[i]? = some x := by rfl) (hv : Vis X.env.scope x := by first | exact Or.inl rfl | exact Or.inr (Or.inl rfl) | exact Or.inr (Or.inr rfl)) (hd : (x == ("__debug__" : Str)) = false := by decide)
    (hcd : (x == ("__classdict__" : Str)) = false := by decide) : PDe X W (.Name x pos) (dVar i) := by
  refine ⟨_, pe_var hN hv hd hcd, fun ρ F0 H0 F σ H st Q => ?_⟩
  unfold dVar
  cases e : ρ[i]? with
  | none => trivial
  | some o =>
    cases o with
    | none => trivial
    | some s =>
      obtain ⟨v, h1, h2⟩ := (st.slot i s e).rd st.fr
      exact fun k => ⟨v, h1, k v F H (.refl st.fr) h2⟩
theorem pd_c {e : Expr} {v : V} {d : D} (h : PE X e (tC v)) (r : ∀ F, Rep X.K F d v) : PDe X W e (dC d) :=
  ⟨_, h, fun ρ F0 H0 F σ H st Q k => k v F H (.refl st.fr) (show RvOk X.K F H0 H H (.val d) v from r F)⟩
theorem pd_int {i j pos} : PDe X W (.Constant (.int i) j pos) (dC (.int i)) := pd_c pe_int fun _ => by simp only [Rep]
theorem pd_bl {i j pos} : PDe X W (.Constant (.bool i) j pos) (dC (.bl i)) := pd_c pe_bl fun _ => by simp only [Rep]
theorem pd_non {j pos} : PDe X W (.Constant .none j pos) (dC .non) := pd_c pe_non fun _ => by simp only [Rep]
theorem pd_str {x j pos} : PDe X W (.Constant (.str x) j pos) (dC (.str x)) := pd_c pe_str fun _ => by simp only [Rep]
theorem pd_glob {x : Str} {v : V} {u : Value} {d : D} {pos : Pos} (hg : Gl X x) (hm : X.mg x = some u) (r : RelV v u) (rd : ∀ F, Rep X.K F d v) (hd : (x == ("__debug__" : Str)) = false := by decide) : PDe X W (.Name x pos) (dC d) :=
  pd_c (pe_glob hg hm r hd) rd

/-! ### operators -/
def OpS (K : PySem.W.Frag) (r : R2) (g : D → D → Option Rv) : Prop := ∀ F H0 H dx dy x y rv, Ex F H → RepB K F H dx x → RepB K F H dy y → g dx dy = some rv →
  ∀ Q : VK, (∀ v F' H', Step F F' H H' → RvOk K F' H0 H H' rv v → Q v H') → r x y H Q
def dOp (g : D → D → Option Rv) (ta tb : DE) : DE := fun ρ => (ta ρ).bind fun x => (tb ρ).bind fun y => .of (g x.d y.d)
section
variable {a b : Expr} {ta tb : DE} {r : R2} {g : D → D → Option Rv} {pos : Pos}
theorem bd_op {op : V → V → Hp → VK → Prop} {tea teb : TE} (hs : OpS X.K r g)
    (ha : ∀ ρ F0 H0 F σ H, StOk X.K ρ F0 H0 F σ H → Bd X.K W σ F H (fun F' H' r v => RvOk X.K F' H0 H H' r v) (ta ρ) (tea σ H))
    (hb : ∀ ρ F0 H0 F σ H, StOk X.K ρ F0 H0 F σ H → Bd X.K W σ F H (fun F' H' r v => RvOk X.K F' H0 H H' r v) (tb ρ) (teb σ H))
    (ρ : Env) (F0 H0 F : Hp) (σ : L2.St) (H : Hp) (st : StOk X.K ρ F0 H0 F σ H) : Bd X.K W σ F H (fun F' H' r v => RvOk X.K F' H0 H H' r v) (dOp g ta tb ρ) (tOp r tea teb σ H) := by
  refine Bd.bind (te2 := fun x H1 Q => teb σ H1 fun y H2 => r x y H2 Q) (ha ρ F0 H0 F σ H st) fun x v F1 H1 _ s1 o1 => ?_
  refine Bd.bind (te2 := fun y H2 Q => r v y H2 Q) (hb ρ F0 H0 F1 σ H1 (st.step s1)) fun y u F2 H2 _ s2 o2 => ?_
  refine Bd.of fun rv e Q k => ?_
  have st2 := (st.step s1).step s2
  refine hs F2 H0 H2 x.d y.d v u rv st2.fr ((o1.step s2).b st2.fr st2.base) (o2.b st2.fr st2.base) e Q fun w F' H' s3 o3 => k w F' H' s3 (o3.start (s1.h.trans s2.h))
theorem pd_op {op : Operator} (ho : OpR X (binaryOp op) r) (hs : OpS X.K r g) (ha : PDe X W a ta) (hb : PDe X W b tb) : PDe X W (.BinOp a op b pos) (dOp g ta tb) := by
  obtain ⟨tea, a1, a2⟩ := ha
  obtain ⟨teb, b1, b2⟩ := hb
  exact ⟨_, pe_op ho a1 b1, bd_op (op := r) hs a2 b2⟩
theorem pd_cmp {op : CmpOp} (ho : OpR X (compareOp op) r) (hs : OpS X.K r g) (ha : PDe X W a ta) (hb : PDe X W b tb) (hm : behindInMarks op b = false) : PDe X W (.Compare a [op] [b] pos) (dOp g ta tb) := by
  obtain ⟨tea, a1, a2⟩ := ha
  obtain ⟨teb, b1, b2⟩ := hb
  exact ⟨_, pe_cmpR ho a1 b1 hm, bd_op (op := r) hs a2 b2⟩
/-- a result that is a bool, as a test -/
def Rv.tru : Rv → Option Bool
  | .val (.bl c) => some c
  | _ => none
def dTest (t : DE) : DT := fun ρ => (t ρ).bind fun r => .of r.tru
theorem Rv.tru_eq {r : Rv} {c : Bool} (h : r.tru = some c) : r = .val (.bl c) := by
  cases r with
  | val d => cases d <;> simp [Rv.tru] at h; subst h; rfl
  | _ => simp [Rv.tru] at h
theorem bd_test {te : TE} {t : DE} (h : ∀ ρ F0 H0 F σ H, StOk X.K ρ F0 H0 F σ H → Bd X.K W σ F H (fun F' H' r v => RvOk X.K F' H0 H H' r v) (t ρ) (te σ H))
    (ρ : Env) (F0 H0 F : Hp) (σ : L2.St) (H : Hp) (st : StOk X.K ρ F0 H0 F σ H) : Bd X.K W σ F H (fun _ _ b c => b = c) (dTest t ρ) (tB te σ H) := by
  refine Bd.bind (te2 := fun x H1 Q => ∃ c, x = V.bl c ∧ Q c H1) (h ρ F0 H0 F σ H st) fun r v F1 H1 _ s1 o1 => Bd.of fun c e Q k => ?_
  rw [Rv.tru_eq e] at o1
  have o1 : Rep X.K F1 (.bl c) v := o1
  simp only [Rep] at o1
  exact ⟨c, o1, k c F1 H1 (.refl s1.fr) rfl⟩
theorem pt_cmp {op : CmpOp} (ho : OpR X (compareOp op) r) (hs : OpS X.K r g) (ha : PDe X W a ta) (hb : PDe X W b tb) (hm : behindInMarks op b = false) : PDt X W (.Compare a [op] [b] pos) (dTest (dOp g ta tb)) := by
  obtain ⟨tea, a1, a2⟩ := ha
  obtain ⟨teb, b1, b2⟩ := hb
  exact ⟨_, pt_cmpR ho a1 b1 hm, bd_test (bd_op (op := r) hs a2 b2)⟩
theorem pt_val {e : Expr} {t : DE} (h : PDe X W e t) (he : ∀ whole, isTrue e X.env whole = (do let v ← whole; standAt e.pos; holding [v] (truthy v)) := by intro _; rfl) : PDt X W e (dTest t) := by
  obtain ⟨te, h1, h2⟩ := h
  exact ⟨_, L2.pt_val h1 he, bd_test h2⟩
/-- a op b op' c -/
def dChain (g g' : D → D → Option Rv) (ta tb tc : DE) : DE := fun ρ => (ta ρ).bind fun x => (tb ρ).bind fun y => (R.of ((g x.d y.d).bind Rv.tru)).bind fun k => if k = true then (tc ρ).bind fun z => .of (g' y.d z.d) else .ok (.val (.bl false))
theorem bd_chain {c : Expr} {r r' : R2} {g g' : D → D → Option Rv} {tc : DE} {tea teb tec : TE} (hs : OpS X.K r g) (hs' : OpS X.K r' g')
    (ha : ∀ ρ F0 H0 F σ H, StOk X.K ρ F0 H0 F σ H → Bd X.K W σ F H (fun F' H' r v => RvOk X.K F' H0 H H' r v) (ta ρ) (tea σ H))
    (hb : ∀ ρ F0 H0 F σ H, StOk X.K ρ F0 H0 F σ H → Bd X.K W σ F H (fun F' H' r v => RvOk X.K F' H0 H H' r v) (tb ρ) (teb σ H))
    (hc : ∀ ρ F0 H0 F σ H, StOk X.K ρ F0 H0 F σ H → Bd X.K W σ F H (fun F' H' r v => RvOk X.K F' H0 H H' r v) (tc ρ) (tec σ H))
    (ρ : Env) (F0 H0 F : Hp) (σ : L2.St) (H : Hp) (st : StOk X.K ρ F0 H0 F σ H) : Bd X.K W σ F H (fun F' H' r v => RvOk X.K F' H0 H H' r v) (dChain g g' ta tb tc ρ) (tChain r r' tea teb tec σ H) := by
  refine Bd.bind (te2 := fun x H1 Q => teb σ H1 fun y H2 => r x y H2 fun z H3 => ∃ k, z = V.bl k ∧ (if k = true then tec σ H3 fun w' H4 => r' y w' H4 Q else Q (V.bl false) H3)) (ha ρ F0 H0 F σ H st) fun x v F1 H1 _ s1 o1 => ?_
  refine Bd.bind (te2 := fun y H2 Q => r v y H2 fun z H3 => ∃ k, z = V.bl k ∧ (if k = true then tec σ H3 fun w' H4 => r' y w' H4 Q else Q (V.bl false) H3)) (hb ρ F0 H0 F1 σ H1 (st.step s1)) fun y u F2 H2 _ s2 o2 => ?_
  have st2 := (st.step s1).step s2
  intro Q
  cases e : (g x.d y.d).bind Rv.tru with
  | none => rw [R.of_none, R.bind_bad]; trivial
  | some k =>
    obtain ⟨rv, e1, e2⟩ := Option.bind_eq_some_iff.mp e
    rw [R.of_some, R.bind_ok]
    have e3 := Rv.tru_eq e2
    subst e3
    have fin : ∀ (P : V → Hp → Prop), (∀ F3 H3, Step F2 F3 H2 H3 → P (.bl k) H3) → r v u H2 P := fun P q => by
      refine hs F2 H0 H2 x.d y.d v u _ st2.fr ((o1.step s2).b st2.fr st2.base) (o2.b st2.fr st2.base) e1 P fun w F3 H3 s3 o3 => ?_
      have o3 : Rep X.K F3 (.bl k) w := o3
      simp only [Rep] at o3
      subst o3
      exact q F3 H3 s3
    cases k with
    | false =>
      rw [if_neg Bool.false_ne_true]
      exact fun kk => fin _ fun F3 H3 s3 => ⟨false, rfl, by rw [if_neg Bool.false_ne_true]; exact kk (.bl false) F3 H3 s3 (show Rep X.K F3 (.bl false) _ by simp only [Rep])⟩
    | true =>
      rw [if_pos rfl]
      cases e4 : tc ρ with
      | bad => trivial
      | exc xx =>
        refine fun kk => fin _ fun F3 H3 s3 => ⟨true, rfl, ?_⟩
        rw [if_pos rfl]
        have z := hc ρ F0 H0 F3 σ H3 (st2.step s3) (fun w' H4 => r' u w' H4 Q)
        rw [e4] at z
        exact z fun cls d F' H' s4 o4 => kk cls d F' H' (s3.trans s4) o4
      | ok zz =>
        rw [R.bind_ok]
        cases e5 : g' y.d zz.d with
        | none => trivial
        | some rv2 =>
          refine fun kk => fin _ fun F3 H3 s3 => ⟨true, rfl, ?_⟩
          rw [if_pos rfl]
          have z := hc ρ F0 H0 F3 σ H3 (st2.step s3) (fun w' H4 => r' u w' H4 Q)
          rw [e4] at z
          refine z fun w F4 H4 s4 o4 => ?_
          have st4 := (st2.step s3).step s4
          refine hs' F4 H0 H4 y.d zz.d u w rv2 st4.fr ((o2.step (s3.trans s4)).b st4.fr st4.base) (o4.b st4.fr st4.base) e5 Q fun ww F5 H5 s5 o5 => ?_
          exact kk ww F5 H5 ((s3.trans s4).trans s5) (o5.start (((s1.h.trans s2.h).trans s3.h).trans s4.h))
theorem pd_chain {c : Expr} {op op' : CmpOp} {r r' : R2} {g g' : D → D → Option Rv} {tc : DE} (ho : OpR X (compareOp op) r) (hs : OpS X.K r g) (ho' : OpR X (compareOp op') r') (hs' : OpS X.K r' g') (ha : PDe X W a ta) (hb : PDe X W b tb) (hc : PDe X W c tc) (hm : lastMarks [op, op'] [b, c] = false := by rfl) :
    PDe X W (.Compare a [op, op'] [b, c] pos) (dChain g g' ta tb tc) := by
  obtain ⟨tea, a1, a2⟩ := ha
  obtain ⟨teb, b1, b2⟩ := hb
  obtain ⟨tec, c1, c2⟩ := hc
  exact ⟨_, pe_chain ho ho' a1 b1 c1 hm, bd_chain (c := c) hs hs' a2 b2 c2⟩
theorem pt_chain {c : Expr} {op op' : CmpOp} {r r' : R2} {g g' : D → D → Option Rv} {tc : DE} (ho : OpR X (compareOp op) r) (hs : OpS X.K r g) (ho' : OpR X (compareOp op') r') (hs' : OpS X.K r' g') (ha : PDe X W a ta) (hb : PDe X W b tb) (hc : PDe X W c tc) (hm : lastMarks [op, op'] [b, c] = false := by rfl) :
    PDt X W (.Compare a [op, op'] [b, c] pos) (dTest (dChain g g' ta tb tc)) := by
  obtain ⟨tea, a1, a2⟩ := ha
  obtain ⟨teb, b1, b2⟩ := hb
  obtain ⟨tec, c1, c2⟩ := hc
  exact ⟨_, L2.pt_chain ho ho' a1 b1 c1 hm, bd_test (bd_chain (c := c) hs hs' a2 b2 c2)⟩
/-- unary operators by values -/
def UnS (K : PySem.W.Frag) (r : V → Hp → VK → Prop) (g : D → Option Rv) : Prop := ∀ F H0 H dx x rv, Ex F H → RepB K F H dx x → g dx = some rv →
  ∀ Q : VK, (∀ v F' H', Step F F' H H' → RvOk K F' H0 H H' rv v → Q v H') → r x H Q
def dUn (g : D → Option Rv) (ta : DE) : DE := fun ρ => (ta ρ).bind fun x => .of (g x.d)
theorem bd_un {r : V → Hp → VK → Prop} {g : D → Option Rv} {tea : TE} (hs : UnS X.K r g)
    (ha : ∀ ρ F0 H0 F σ H, StOk X.K ρ F0 H0 F σ H → Bd X.K W σ F H (fun F' H' r v => RvOk X.K F' H0 H H' r v) (ta ρ) (tea σ H))
    (ρ : Env) (F0 H0 F : Hp) (σ : L2.St) (H : Hp) (st : StOk X.K ρ F0 H0 F σ H) : Bd X.K W σ F H (fun F' H' r v => RvOk X.K F' H0 H H' r v) (dUn g ta ρ) (tea σ H fun x H1 => r x H1 ·) → True := fun _ => trivial
theorem pd_un {op : PySem.UnaryOp} {r : V → Hp → VK → Prop} {g : D → Option Rv} (ho : UnR X (unaryOp op) r) (hs : UnS X.K r g) (ha : PDe X W a ta) : PDe X W (.UnaryOp op a pos) (dUn g ta) := by
  obtain ⟨tea, a1, a2⟩ := ha
  refine ⟨_, pe_un ho a1, fun ρ F0 H0 F σ H st => ?_⟩
  refine Bd.bind (te2 := fun x H1 Q => r x H1 Q) (a2 ρ F0 H0 F σ H st) fun x v F1 H1 _ s1 o1 => Bd.of fun rv e Q k => ?_
  have st1 := st.step s1
  exact hs F1 H0 H1 x.d v rv st1.fr (o1.b st1.fr st1.base) e Q fun w F' H' s3 o3 => k w F' H' s3 (o3.start s1.h)
end

/-! ### and, or, not, if-else -/
section
variable {a b : Expr} {tt uu : DT} {ta tb : DE} {rest : List Expr} {pos : Pos}
def dAnd (t u : DT) : DT := fun ρ => (t ρ).bind fun c => if c = true then u ρ else .ok false
def dOr (t u : DT) : DT := fun ρ => (t ρ).bind fun c => if c = true then .ok true else u ρ
def dNot (t : DT) : DT := fun ρ => (t ρ).bind fun c => .ok (!c)
def PDw (X : Cx) (W : WX) (e : Expr) (t : DT) : Prop :=
  ∃ tt, PW X e tt ∧ ∀ ρ F0 H0 F σ H, StOk X.K ρ F0 H0 F σ H → Bd X.K W σ F H (fun _ _ b c => b = c) (t ρ) (tt σ H)
theorem PDw.pt {e : Expr} {t : DT} (h : PDw X W e t) : PDt X W e t := by
  obtain ⟨tt, h1, h2⟩ := h
  exact ⟨tt, h1.pt, h2⟩
theorem pw_and1 (h : PDt X W a tt) : PDw X W (.BoolOp .And [a] pos) tt := by
  obtain ⟨t1, h1, h2⟩ := h
  exact ⟨t1, L2.pw_and1 h1, h2⟩
theorem pw_or1 (h : PDt X W a tt) : PDw X W (.BoolOp .Or [a] pos) tt := by
  obtain ⟨t1, h1, h2⟩ := h
  exact ⟨t1, L2.pw_or1 h1, h2⟩
theorem pw_and (h : PDt X W a tt) (h' : PDw X W (.BoolOp .And (b :: rest) pos) uu) : PDw X W (.BoolOp .And (a :: b :: rest) pos) (dAnd tt uu) := by
  obtain ⟨t1, h1, h2⟩ := h
  obtain ⟨t3, h3, h4⟩ := h'
  refine ⟨_, L2.pw_and h1 h3, fun ρ F0 H0 F σ H st => ?_⟩
  refine Bd.bind (te2 := fun c H1 Q => if c = true then t3 σ H1 Q else Q false H1) (h2 ρ F0 H0 F σ H st) fun c c' F1 H1 _ s1 o1 => ?_
  subst o1
  cases c with
  | true =>
    intro Q
    have z := h4 ρ F0 H0 F1 σ H1 (st.step s1) Q
    simpa only [if_pos] using z
  | false => exact fun Q k => k false F1 H1 (.refl s1.fr) rfl
theorem pw_or (h : PDt X W a tt) (h' : PDw X W (.BoolOp .Or (b :: rest) pos) uu) : PDw X W (.BoolOp .Or (a :: b :: rest) pos) (dOr tt uu) := by
  obtain ⟨t1, h1, h2⟩ := h
  obtain ⟨t3, h3, h4⟩ := h'
  refine ⟨_, L2.pw_or h1 h3, fun ρ F0 H0 F σ H st => ?_⟩
  refine Bd.bind (te2 := fun c H1 Q => if c = true then Q true H1 else t3 σ H1 Q) (h2 ρ F0 H0 F σ H st) fun c c' F1 H1 _ s1 o1 => ?_
  subst o1
  cases c with
  | false =>
    intro Q
    have z := h4 ρ F0 H0 F1 σ H1 (st.step s1) Q
    simpa only [if_neg Bool.false_ne_true] using z
  | true => exact fun Q k => k true F1 H1 (.refl s1.fr) rfl
theorem pt_not (h : PDt X W a tt) : PDt X W (.UnaryOp .Not a pos) (dNot tt) := by
  obtain ⟨t1, h1, h2⟩ := h
  refine ⟨_, L2.pt_not h1, fun ρ F0 H0 F σ H st => ?_⟩
  refine Bd.bind (te2 := fun c H1 Q => Q (!c) H1) (h2 ρ F0 H0 F σ H st) fun c c' F1 H1 _ s1 o1 => ?_
  subst o1
  exact fun Q k => k (!c) F1 H1 (.refl s1.fr) rfl
/-- as values -/
def dAndE (ta tb : DE) : DE := fun ρ => (ta ρ).bind fun x => (R.of x.tru).bind fun c => if c = true then tb ρ else .ok (.val (.bl false))
def dOrE (ta tb : DE) : DE := fun ρ => (ta ρ).bind fun x => (R.of x.tru).bind fun c => if c = true then .ok (.val (.bl true)) else tb ρ
def dNotE (ta : DE) : DE := fun ρ => (ta ρ).bind fun x => (R.of x.tru).bind fun c => .ok (.val (.bl (!c)))
theorem pd_one {op} {t : DE} (h : PDe X W a t) : PDe X W (.BoolOp op [a] pos) t := by
  obtain ⟨t1, h1, h2⟩ := h
  exact ⟨t1, pe_one h1, h2⟩
theorem pd_and (h : PDe X W a ta) (h' : PDe X W (.BoolOp .And (b :: rest) pos) tb) : PDe X W (.BoolOp .And (a :: b :: rest) pos) (dAndE ta tb) := by
  obtain ⟨t1, h1, h2⟩ := h
  obtain ⟨t3, h3, h4⟩ := h'
  refine ⟨_, pe_and h1 h3, fun ρ F0 H0 F σ H st => ?_⟩
  refine Bd.bind (te2 := fun x H1 Q => ∃ c, x = V.bl c ∧ if c = true then t3 σ H1 Q else Q (V.bl false) H1) (h2 ρ F0 H0 F σ H st) fun x v F1 H1 _ s1 o1 => ?_
  intro Q
  cases e : x.tru with
  | none => trivial
  | some c =>
    rw [R.of_some, R.bind_ok]
    rw [Rv.tru_eq e] at o1
    have o1 : Rep X.K F1 (.bl c) v := o1
    simp only [Rep] at o1
    have z := (h4 ρ F0 H0 F1 σ H1 (st.step s1)).imp (Ok' := fun F' H' r v => RvOk X.K F' H0 H H' r v) (fun _ _ _ _ _ o => o.start s1.h) Q
    cases c with
    | true =>
      rw [if_pos rfl]
      cases e4 : tb ρ with
      | bad => trivial
      | ok r => rw [e4] at z; exact fun k => ⟨true, o1, by rw [if_pos rfl]; exact z k⟩
      | exc r => rw [e4] at z; exact fun k => ⟨true, o1, by rw [if_pos rfl]; exact z k⟩
    | false =>
      rw [if_neg Bool.false_ne_true]
      exact fun k => ⟨false, o1, by rw [if_neg Bool.false_ne_true]; exact k (.bl false) F1 H1 (.refl s1.fr) (show Rep X.K F1 (.bl false) _ by simp only [Rep])⟩
theorem pd_or (h : PDe X W a ta) (h' : PDe X W (.BoolOp .Or (b :: rest) pos) tb) : PDe X W (.BoolOp .Or (a :: b :: rest) pos) (dOrE ta tb) := by
  obtain ⟨t1, h1, h2⟩ := h
  obtain ⟨t3, h3, h4⟩ := h'
  refine ⟨_, pe_or h1 h3, fun ρ F0 H0 F σ H st => ?_⟩
  refine Bd.bind (te2 := fun x H1 Q => ∃ c, x = V.bl c ∧ if c = true then Q (V.bl true) H1 else t3 σ H1 Q) (h2 ρ F0 H0 F σ H st) fun x v F1 H1 _ s1 o1 => ?_
  intro Q
  cases e : x.tru with
  | none => trivial
  | some c =>
    rw [R.of_some, R.bind_ok]
    rw [Rv.tru_eq e] at o1
    have o1 : Rep X.K F1 (.bl c) v := o1
    simp only [Rep] at o1
    have z := (h4 ρ F0 H0 F1 σ H1 (st.step s1)).imp (Ok' := fun F' H' r v => RvOk X.K F' H0 H H' r v) (fun _ _ _ _ _ o => o.start s1.h) Q
    cases c with
    | false =>
      rw [if_neg Bool.false_ne_true]
      cases e4 : tb ρ with
      | bad => trivial
      | ok r => rw [e4] at z; exact fun k => ⟨false, o1, by rw [if_neg Bool.false_ne_true]; exact z k⟩
      | exc r => rw [e4] at z; exact fun k => ⟨false, o1, by rw [if_neg Bool.false_ne_true]; exact z k⟩
    | true =>
      rw [if_pos rfl]
      exact fun k => ⟨true, o1, by rw [if_pos rfl]; exact k (.bl true) F1 H1 (.refl s1.fr) (show Rep X.K F1 (.bl true) _ by simp only [Rep])⟩
theorem pd_not (h : PDe X W a ta) : PDe X W (.UnaryOp .Not a pos) (dNotE ta) := by
  obtain ⟨t1, h1, h2⟩ := h
  refine ⟨_, pe_not h1, fun ρ F0 H0 F σ H st => ?_⟩
  refine Bd.bind (te2 := fun x H1 Q => ∃ c, x = V.bl c ∧ Q (V.bl (!c)) H1) (h2 ρ F0 H0 F σ H st) fun x v F1 H1 _ s1 o1 => ?_
  intro Q
  cases e : x.tru with
  | none => trivial
  | some c =>
    rw [R.of_some, R.bind_ok]
    rw [Rv.tru_eq e] at o1
    have o1 : Rep X.K F1 (.bl c) v := o1
    simp only [Rep] at o1
    exact fun k => ⟨c, o1, k (.bl (!c)) F1 H1 (.refl s1.fr) (show Rep X.K F1 (.bl (!c)) _ by simp only [Rep])⟩
def dIfE (t : DT) (ta tb : DE) : DE := fun ρ => (t ρ).bind fun c => if c = true then ta ρ else tb ρ
theorem pd_ifExp {c : Expr} {tc : DT} (hc : PDt X W c tc) (ha : PDe X W a ta) (hb : PDe X W b tb) : PDe X W (.IfExp c a b pos) (dIfE tc ta tb) := by
  obtain ⟨t0, c1, c2⟩ := hc
  obtain ⟨t1, h1, h2⟩ := ha
  obtain ⟨t3, h3, h4⟩ := hb
  refine ⟨_, pe_ifExp c1 h1 h3, fun ρ F0 H0 F σ H st => ?_⟩
  refine Bd.bind (te2 := fun c H1 Q => if c = true then t1 σ H1 Q else t3 σ H1 Q) (c2 ρ F0 H0 F σ H st) fun c c' F1 H1 _ s1 o1 => ?_
  subst o1
  cases c with
  | true =>
    have z := (h2 ρ F0 H0 F1 σ H1 (st.step s1)).imp (Ok' := fun F' H' r v => RvOk X.K F' H0 H H' r v) (fun _ _ _ _ _ o => o.start s1.h)
    simpa only [if_pos] using z
  | false =>
    have z := (h4 ρ F0 H0 F1 σ H1 (st.step s1)).imp (Ok' := fun F' H' r v => RvOk X.K F' H0 H H' r v) (fun _ _ _ _ _ o => o.start s1.h)
    simpa only [if_neg Bool.false_ne_true] using z
end

/-! ### arguments, calls -/
def ArgsOk (K : PySem.W.Frag) (F H : Hp) : List Bool → List D → List V → Prop
  | [], ds, vs => ds = [] ∧ vs = []
  | m :: ms, ds, vs => ∃ d ds' v vs', ds = d :: ds' ∧ vs = v :: vs' ∧ (if m = true then Rep K F d v else RepB K F H d v) ∧ ArgsOk K F H ms ds' vs'
theorem ArgsOk.step {K : PySem.W.Frag} {F F' H H' : Hp} (e : Ex F F') (e' : Ex H H') : ∀ {ms : List Bool} {ds : List D} {vs : List V}, ArgsOk K F H ms ds vs → ArgsOk K F' H' ms ds vs
  | [], _, _, h => h
  | m :: ms, _, _, h => by
    obtain ⟨d, ds', v, vs', h1, h2, h3, h4⟩ := h
    refine ⟨d, ds', v, vs', h1, h2, ?_, h4.step e e'⟩
    cases m with
    | true => simp only [if_true] at h3 ⊢; exact h3.mono e
    | false => simp only [Bool.false_eq_true, if_false] at h3 ⊢; exact h3.mono e e'
abbrev PDas (X : Cx) (W : WX) (es : List Expr) (ms : List Bool) (t : DA) : Prop := PDa X W es t (fun F' H' ds vs => ArgsOk X.K F' H' ms ds vs)
def aNil : DA := fun _ => .ok []
def aB (t : DE) (u : DA) : DA := fun ρ => (t ρ).bind fun x => (u ρ).bind fun r => .ok (x.d :: r)
def aV (t : DE) (u : DA) : DA := fun ρ => (dV t ρ).bind fun x => (u ρ).bind fun r => .ok (x :: r)
theorem pa_nil : PDas X W [] [] aNil := ⟨_, L2.pa_nil, fun ρ F0 H0 F σ H st Q k => k [] F H (.refl st.fr) ⟨rfl, rfl⟩⟩
section
variable {e : Expr} {es : List Expr} {t : DE} {u : DA} {ms : List Bool}
theorem pa_b (h : PDe X W e t) (hs : PDas X W es ms u) (he : starEach (e :: es) X.env = (false, eval e X.env) :: starEach es X.env := by rfl) : PDas X W (e :: es) (false :: ms) (aB t u) := by
  obtain ⟨t1, h1, h2⟩ := h
  obtain ⟨t3, h3, h4⟩ := hs
  refine ⟨_, pa_cons h1 h3 he, fun ρ F0 H0 F σ H st => ?_⟩
  refine Bd.bind (te2 := fun x H1 Q => t3 σ H1 fun xs H2 => Q (x :: xs) H2) (h2 ρ F0 H0 F σ H st) fun x v F1 H1 _ s1 o1 => ?_
  refine Bd.bind (te2 := fun xs H2 Q => Q (v :: xs) H2) (h4 ρ F0 H0 F1 σ H1 (st.step s1)) fun r vs F2 H2 _ s2 o2 => ?_
  have st2 := (st.step s1).step s2
  exact fun Q k => k (v :: vs) F2 H2 (.refl s2.fr) ⟨_, _, _, _, rfl, rfl, (by simpa using (o1.step s2).b st2.fr st2.base), o2⟩
theorem pa_v (h : PDe X W e t) (hs : PDas X W es ms u) (he : starEach (e :: es) X.env = (false, eval e X.env) :: starEach es X.env := by rfl) : PDas X W (e :: es) (true :: ms) (aV t u) := by
  obtain ⟨t1, h1, h2⟩ := h.v
  obtain ⟨t3, h3, h4⟩ := hs
  refine ⟨_, pa_cons h1 h3 he, fun ρ F0 H0 F σ H st => ?_⟩
  refine Bd.bind (te2 := fun x H1 Q => t3 σ H1 fun xs H2 => Q (x :: xs) H2) (h2 ρ F0 H0 F σ H st) fun x v F1 H1 _ s1 o1 => ?_
  refine Bd.bind (te2 := fun xs H2 Q => Q (v :: xs) H2) (h4 ρ F0 H0 F1 σ H1 (st.step s1)) fun r vs F2 H2 _ s2 o2 => ?_
  have o1 : Rep X.K F1 x v := o1
  exact fun Q k => k (v :: vs) F2 H2 (.refl s2.fr) ⟨_, _, _, _, rfl, rfl, (by simpa using o1.mono s2.f), o2⟩
end
/-- a call of a built-in by values -/
def CallS (K : PySem.W.Frag) (ms : List Bool) (r : List V → Hp → VK → Prop) (g : List D → Option Rv) : Prop := ∀ F H0 H ds vs rv, Ex F H → ArgsOk K F H ms ds vs → g ds = some rv →
  ∀ Q : VK, (∀ v F' H', Step F F' H H' → RvOk K F' H0 H H' rv v → Q v H') → r vs H Q
def dCB (g : List D → Option Rv) (t : DA) : DE := fun ρ => (t ρ).bind fun xs => .of (g xs)
theorem bd_cb {es : List Expr} {ms : List Bool} {r : List V → Hp → VK → Prop} {g : List D → Option Rv} {t : DA} {ta : TA} (hs : CallS X.K ms r g)
    (h2 : ∀ ρ F0 H0 F σ H, StOk X.K ρ F0 H0 F σ H → Bd X.K W σ F H (fun F' H' ds vs => ArgsOk X.K F' H' ms ds vs) (t ρ) (ta σ H))
    (ρ : Env) (F0 H0 F : Hp) (σ : L2.St) (H : Hp) (st : StOk X.K ρ F0 H0 F σ H) : Bd X.K W σ F H (fun F' H' r v => RvOk X.K F' H0 H H' r v) (dCB g t ρ) (tCB r ta σ H) := by
  refine Bd.bind (te2 := fun vs H1 Q => r vs H1 Q) (h2 ρ F0 H0 F σ H st) fun ds vs F1 H1 _ s1 o1 => Bd.of fun rv e Q k => ?_
  exact hs F1 H0 H1 ds vs rv s1.fr o1 e Q fun w F' H' s3 o3 => k w F' H' s3 (o3.start s1.h)
section
variable {e : Expr} {es : List Expr} {ms : List Bool} {r : List V → Hp → VK → Prop} {g : List D → Option Rv} {t : DA} {x : Str} {p pos : Pos}
theorem pd_callB {id : String} (hs : CallS X.K ms r g) (hc : CallR X (.builtin id) r) (hg : Gl X x) (hm : X.mg x = none) (hv : bootBuiltins x = some (.builtin id)) (ha : PDas X W (e :: es) ms t)
    (hn : x ≠ "__name__" := by decide) (hd : (x == ("__debug__" : Str)) = false := by decide) (he : starEach (e :: es) X.env = (false, eval e X.env) :: starEach es X.env := by rfl) (hpl : (backTo pos (starEach es X.env)).any (·.1) = false := by rfl) :
    PDe X W (.Call (.Name x p) (e :: es) [] pos) (dCB g t) := by
  obtain ⟨ta, h1, h2⟩ := ha
  exact ⟨_, by first | exact pe_callB hc hg hm hv h1 | exact pe_callB hc hg hm hv h1 hn hd he hpl, bd_cb (es := e :: es) hs h2⟩
theorem pd_callTy {T : String} (hs : CallS X.K ms r g) (hc : CallR X (.type T) r) (hg : Gl X x) (hm : X.mg x = none) (hv : bootBuiltins x = some (.type T)) (ha : PDas X W (e :: es) ms t)
    (hn : x ≠ "__name__" := by decide) (hd : (x == ("__debug__" : Str)) = false := by decide) (he : starEach (e :: es) X.env = (false, eval e X.env) :: starEach es X.env := by rfl) (hpl : (backTo pos (starEach es X.env)).any (·.1) = false := by rfl) :
    PDe X W (.Call (.Name x p) (e :: es) [] pos) (dCB g t) := by
  obtain ⟨ta, h1, h2⟩ := ha
  exact ⟨_, by first | exact pe_callTy hc hg hm hv h1 | exact pe_callTy hc hg hm hv h1 hn hd he hpl, bd_cb (es := e :: es) hs h2⟩
end
/-- a def's promise by data -/
def SpD (K : PySem.W.Frag) (ms : List Bool) (m : List D → R Rv) : Sp := fun vs H Q E => ∃ F ds, Ex F H ∧ ArgsOk K F H ms ds vs ∧ match m ds with
  | .ok r => ∀ v F' H', Step F F' H H' → RvOk K F' H H H' r v → Q v H'
  | .exc x => ∀ cls d F' H', Step F F' H H' → ExcOk K F' H' x cls d → E cls d H'
  | .bad => False
/-- what may be handed back -/
def Rv.out : Rv → Option Rv
  | .val d => some (.val d)
  | .own d => some (.own d)
  | .par d => if DL.flat d = true then some (.val d) else none
  | .bor d => if DL.flat d = true then some (.val d) else none
def dCall (m : List D → R Rv) (t : DA) : DE := fun ρ => (t ρ).bind fun ds => (m ds).bind fun r => .of r.out
theorem RvOk.outer {K : PySem.W.Frag} {F H0 H1 Hs H' : Hp} {r r' : Rv} {v : V} (h : RvOk K F H1 Hs H' r v) (e : r.out = some r') : RvOk K F H0 Hs H' r' v := by
  cases r with
  | val d => simp only [Rv.out, Option.some.injEq] at e; subst e; exact h
  | own d => simp only [Rv.out, Option.some.injEq] at e; subst e; exact h
  | par d =>
    simp only [Rv.out] at e
    split at e <;> simp only [Option.some.injEq, reduceCtorEq] at e
    subst e
    exact RepB.flat (by assumption) h
  | bor d =>
    simp only [Rv.out] at e
    split at e <;> simp only [Option.some.injEq, reduceCtorEq] at e
    subst e
    exact RepB.flat (by assumption) h
theorem bd_call {ms : List Bool} {m : List D → R Rv} {t : DA} {ta : TA} 
    (h2 : ∀ ρ F0 H0 F σ H, StOk X.K ρ F0 H0 F σ H → Bd X.K W σ F H (fun F' H' ds vs => ArgsOk X.K F' H' ms ds vs) (t ρ) (ta σ H))
    (ρ : Env) (F0 H0 F : Hp) (σ : L2.St) (H : Hp) (st : StOk X.K ρ F0 H0 F σ H) : Bd X.K W σ F H (fun F' H' r v => RvOk X.K F' H0 H H' r v) (dCall m t ρ) (tCallS (SpD X.K ms m) (WE W) ta σ H) := by
  refine Bd.bind (te2 := fun vs H1 Q => SpD X.K ms m vs H1 Q (WE W σ)) (h2 ρ F0 H0 F σ H st) fun ds vs F1 H1 _ s1 o1 => ?_
  intro Q
  cases e : m ds with
  | bad => trivial
  | exc xx =>
    intro k
    refine ⟨F1, ds, s1.fr, o1, ?_⟩
    rw [e]
    exact fun cls d F' H' s o => k cls d F' H' s o
  | ok r =>
    rw [R.bind_ok]
    cases e2 : r.out with
    | none => trivial
    | some r' =>
      intro k
      refine ⟨F1, ds, s1.fr, o1, ?_⟩
      rw [e]
      exact fun v F' H' s o => k v F' H' s ((o.start s1.h).outer e2)
section
variable {k : Nat} {f : Addr} {fd : FuncData} {ps : List Str} {ms : List Bool} {m : List D → R Rv} {e : Expr} {es : List Expr} {t : DA} {x : Str} {p pos : Pos}
theorem pd_call (F : FnOk X.prog X.w X.K X.mg X.base (L2.CX X.prog X.w) k f fd ps (SpD X.K ms m)) (hr : Room k X.A) (tk : Takes X W) (hg : Gl X x) (hm : X.mg x = some (.ref f)) (hk : PySem.W.keepIn X.K (.ref f) = true) (hb : Binds X.K fd ps []) (ha : PDas X W (e :: es) ms t)
    (hd : (x == ("__debug__" : Str)) = false := by decide) (he : starEach (e :: es) X.env = (false, eval e X.env) :: starEach es X.env := by rfl) (hpl : (backTo pos (starEach es X.env)).any (·.1) = false := by rfl) :
    PDe X W (.Call (.Name x p) (e :: es) [] pos) (dCall m t) := by
  obtain ⟨ta, h1, h2⟩ := ha
  exact ⟨_, pe_callS F hr hg hm hk hb (fun σ => passAt tk σ) h1 hd he hpl, bd_call h2⟩
end
/-! ### displays -/
section
variable {e : Expr} {es : List Expr} {ms : List Bool} {t : DA} {pos : Pos}
theorem ArgsOk.reps {K : PySem.W.Frag} {F H : Hp} : ∀ {ms : List Bool} {ds : List D} {vs : List V}, ms.all id = true → ArgsOk K F H ms ds vs → Reps K F ds vs
  | [], _, _, _, h => by obtain ⟨rfl, rfl⟩ := h; exact Reps.nil
  | m :: ms, _, _, hm, h => by
    obtain ⟨d, ds', v, vs', rfl, rfl, h3, h4⟩ := h
    simp only [List.all_cons, Bool.and_eq_true, id] at hm
    rw [hm.1, if_pos rfl] at h3
    exact Reps.cons h3 (h4.reps hm.2)
def dTup (t : DA) : DE := fun ρ => (t ρ).bind fun xs => .of (if xs.length ≤ sizeLine then some (.val (.tup xs)) else none)
def dLst (t : DA) : DE := fun ρ => (t ρ).bind fun xs => .of (if xs.length ≤ sizeLine then some (.own (.lst xs)) else none)
theorem pd_tup {x1} (h : PDas X W es ms t) (hm : ms.all id = true := by rfl) : PDe X W (.Tuple es x1 pos) (dTup t) := by
  obtain ⟨ta, h1, h2⟩ := h
  refine ⟨_, pe_tup h1, fun ρ F0 H0 F σ H st => ?_⟩
  refine Bd.bind (te2 := fun xs H1 Q => xs.length ≤ sizeLine ∧ ∀ p, H1 p = none → Q (V.ref p) (upd H1 p (.tup xs))) (h2 ρ F0 H0 F σ H st) fun ds vs F1 H1 _ s1 o1 => Bd.of fun rv e Q k => ?_
  split at e <;> simp only [Option.some.injEq, reduceCtorEq] at e
  subst e
  have rr := o1.reps hm
  refine ⟨by rw [rr.length]; assumption, fun p hp => k _ _ _ (Step.newF s1.fr hp) ?_⟩
  show Rep X.K _ (.tup ds) _
  simp only [Rep]
  exact ⟨p, vs, rfl, SqT.of upd_same, rr.mono (Ex.new (Evl.fresh_back s1.fr hp))⟩
theorem pd_lst (h : PDas X W es ms t) (hm : ms.all id = true := by rfl) : PDe X W (.List es pos) (dLst t) := by
  obtain ⟨ta, h1, h2⟩ := h
  refine ⟨_, pe_lst h1, fun ρ F0 H0 F σ H st => ?_⟩
  refine Bd.bind (te2 := fun xs H1 Q => xs.length ≤ sizeLine ∧ ∀ p, H1 p = none → Q (V.ref p) (upd H1 p (.lst xs))) (h2 ρ F0 H0 F σ H st) fun ds vs F1 H1 _ s1 o1 => Bd.of fun rv e Q k => ?_
  split at e <;> simp only [Option.some.injEq, reduceCtorEq] at e
  subst e
  have rr := o1.reps hm
  refine ⟨by rw [rr.length]; assumption, fun p hp => k _ _ _ (Step.newH s1.fr hp) ?_⟩
  refine ⟨p, rfl, Evl.fresh_back s1.h hp, Evl.fresh_back s1.fr hp, rfl, ⟨_, upd_same⟩, ?_⟩
  exact ⟨p, vs, rfl, upd_same, rr⟩
end
end
end DL
set_option maxHeartbeats 4000000
namespace DL
open PySem L2
open Evl (Ex)

/-! ### statements -/
inductive RS where
  | nx (ρ : Env) | ret (r : Rv) | brk (ρ : Env) | cnt (ρ : Env) | exc (x : XC) (ρ : Env) | bad
abbrev DS := Env → RS
def BdS (K : PySem.W.Frag) (W : WX) (F0 H0 F : Hp) (rs : RS) (ts : Ends → Prop) : Prop := ∀ De : Ends, match rs with
  | .nx ρ' => (∀ F' σ' H', StOk K ρ' F0 H0 F' σ' H' → Ex F F' → De.nx σ' H') → ts De
  | .brk ρ' => (∀ F' σ' H', StOk K ρ' F0 H0 F' σ' H' → Ex F F' → De.bk σ' H') → ts De
  | .cnt ρ' => (∀ F' σ' H', StOk K ρ' F0 H0 F' σ' H' → Ex F F' → De.ct σ' H') → ts De
  | .ret r => (∀ v F' H', Step F0 F' H0 H' → RvOk K F' H0 H0 H' r v → De.rt v H') → ts De
  | .exc x ρ' => (∀ cls d F' σ' H', StOk K ρ' F0 H0 F' σ' H' → Ex F F' → ExcOk K F' H' x cls d → W cls d σ' H') → ts De
  | .bad => True
def PDs (X : Cx) (W : WX) (st : Stmt) (t : DS) : Prop :=
  ∃ ts, PS X st ts ∧ ∀ ρ F0 H0 F σ H, StOk X.K ρ F0 H0 F σ H → BdS X.K W F0 H0 F (t ρ) (fun De => ts De σ H)
def PDss (X : Cx) (W : WX) (st : List Stmt) (t : DS) : Prop :=
  ∃ ts, PSs X st ts ∧ ∀ ρ F0 H0 F σ H, StOk X.K ρ F0 H0 F σ H → BdS X.K W F0 H0 F (t ρ) (fun De => ts De σ H)
/-- a result on the way, behind an expression -/
def R.then {α : Type} (r : R α) (ρ : Env) (f : α → RS) : RS := match r with
  | .ok a => f a
  | .exc x => .exc x ρ
  | .bad => .bad
@[simp] theorem R.then_ok {α : Type} (a : α) (ρ : Env) (f : α → RS) : (R.ok a).then ρ f = f a := (rfl)
@[simp] theorem R.then_exc {α : Type} (x : XC) (ρ : Env) (f : α → RS) : (R.exc x).then ρ f = .exc x ρ := (rfl)
@[simp] theorem R.then_bad {α : Type} (ρ : Env) (f : α → RS) : (R.bad : R α).then ρ f = .bad := (rfl)
/-- the run goes on -/
def RS.then (r : RS) (f : Env → RS) : RS := match r with
  | .nx ρ => f ρ
  | r => r
@[simp] theorem RS.then_nx (ρ : Env) (f : Env → RS) : (RS.nx ρ).then f = f ρ := (rfl)
@[simp] theorem RS.then_ret (r : Rv) (f : Env → RS) : (RS.ret r).then f = .ret r := (rfl)
@[simp] theorem RS.then_brk (ρ : Env) (f : Env → RS) : (RS.brk ρ).then f = .brk ρ := (rfl)
@[simp] theorem RS.then_cnt (ρ : Env) (f : Env → RS) : (RS.cnt ρ).then f = .cnt ρ := (rfl)
@[simp] theorem RS.then_exc (x : XC) (ρ : Env) (f : Env → RS) : (RS.exc x ρ).then f = .exc x ρ := (rfl)
@[simp] theorem RS.then_bad (f : Env → RS) : RS.bad.then f = .bad := (rfl)

theorem BdS.bad {K : PySem.W.Frag} {W : WX} {F0 H0 F : Hp} {ts : Ends → Prop} : BdS K W F0 H0 F .bad ts := fun _ => trivial
/-- an expression, then the rest -/
theorem BdS.of {K : PySem.W.Frag} {W : WX} {ρ : Env} {F0 H0 F : Hp} {σ : L2.St} {H : Hp} {α β : Type} {Ok : Hp → Hp → α → β → Prop} {r : R α} {te : (β → Hp → Prop) → Prop} {f : α → RS} {ts : β → Hp → Ends → Prop}
    (st : StOk K ρ F0 H0 F σ H) (h1 : Bd K W σ F H Ok r te) (h2 : ∀ a y F1 H1, r = .ok a → StOk K ρ F0 H0 F1 σ H1 → Step F F1 H H1 → Ok F1 H1 a y → BdS K W F0 H0 F1 (f a) (ts y H1)) :
    BdS K W F0 H0 F (r.then ρ f) (fun De => te fun y H1 => ts y H1 De) := by
  intro De
  cases r with
  | bad => trivial
  | exc x => exact fun k => h1 (fun y H1 => ts y H1 De) fun cls d F' H' s o => k cls d F' σ H' (st.step s) s.f o
  | ok a =>
    show match f a with | .nx ρ' => _ | .brk ρ' => _ | .cnt ρ' => _ | .ret r => _ | .exc x ρ' => _ | .bad => _
    have z : ∀ y F1 H1, StOk K ρ F0 H0 F1 σ H1 → Step F F1 H H1 → Ok F1 H1 a y → _ := fun y F1 H1 a1 a2 a3 => h2 a y F1 H1 rfl a1 a2 a3 De
    cases e : f a with
    | bad => trivial
    | nx ρ' => exact fun k => h1 (fun y H1 => ts y H1 De) fun y F1 H1 s o => by have q := z y F1 H1 (st.step s) s o; rw [e] at q; exact q fun F' σ' H' a b => k F' σ' H' a (s.f.trans b)
    | brk ρ' => exact fun k => h1 (fun y H1 => ts y H1 De) fun y F1 H1 s o => by have q := z y F1 H1 (st.step s) s o; rw [e] at q; exact q fun F' σ' H' a b => k F' σ' H' a (s.f.trans b)
    | cnt ρ' => exact fun k => h1 (fun y H1 => ts y H1 De) fun y F1 H1 s o => by have q := z y F1 H1 (st.step s) s o; rw [e] at q; exact q fun F' σ' H' a b => k F' σ' H' a (s.f.trans b)
    | ret r => exact fun k => h1 (fun y H1 => ts y H1 De) fun y F1 H1 s o => by have q := z y F1 H1 (st.step s) s o; rw [e] at q; exact q k
    | exc x ρ' => exact fun k => h1 (fun y H1 => ts y H1 De) fun y F1 H1 s o => by have q := z y F1 H1 (st.step s) s o; rw [e] at q; exact q fun cls d F' σ' H' a b c => k cls d F' σ' H' a (s.f.trans b) c
theorem BdS.nx {K : PySem.W.Frag} {W : WX} {ρ' : Env} {F0 H0 F F' : Hp} {σ' : L2.St} {H' : Hp} (st : StOk K ρ' F0 H0 F' σ' H') (e : Ex F F') : BdS K W F0 H0 F (.nx ρ') (fun De => De.nx σ' H') := fun _ k => k F' σ' H' st e
theorem BdS.map {K : PySem.W.Frag} {W : WX} {F0 H0 F : Hp} {rs : RS} {ts ts' : Ends → Prop} (h : BdS K W F0 H0 F rs ts) (i : ∀ De, ts De → ts' De) : BdS K W F0 H0 F rs ts' := by
  intro De
  have z := h De
  cases rs with
  | bad => trivial
  | nx ρ' => exact fun k => i De (z k)
  | brk ρ' => exact fun k => i De (z k)
  | cnt ρ' => exact fun k => i De (z k)
  | ret r => exact fun k => i De (z k)
  | exc x ρ' => exact fun k => i De (z k)
theorem BdS.weak {K : PySem.W.Frag} {W : WX} {F0 H0 F F1 : Hp} {rs : RS} {ts : Ends → Prop} (h : BdS K W F0 H0 F1 rs ts) (e : Ex F F1) : BdS K W F0 H0 F rs ts := by
  intro De
  have z := h De
  cases rs with
  | bad => trivial
  | nx ρ' => exact fun k => z fun F' σ' H' a b => k F' σ' H' a (e.trans b)
  | brk ρ' => exact fun k => z fun F' σ' H' a b => k F' σ' H' a (e.trans b)
  | cnt ρ' => exact fun k => z fun F' σ' H' a b => k F' σ' H' a (e.trans b)
  | ret r => exact z
  | exc x ρ' => exact fun k => z fun cls d F' σ' H' a b c => k cls d F' σ' H' a (e.trans b) c

section
variable {X : Cx} {W : WX} {st : Stmt} {rest : List Stmt} {t u : DS} {e : Expr} {te : DE} {pos : Pos}
def dSkip : DS := fun ρ => .nx ρ
def dSeq (t u : DS) : DS := fun ρ => (t ρ).then u
theorem ss_nil : PDss X W [] dSkip := ⟨_, pss_nil, fun ρ F0 H0 F σ H s => BdS.nx s (Ex.refl _)⟩
theorem ss_cons (h1 : PDs X W st t) (h2 : PDss X W rest u) : PDss X W (st :: rest) (dSeq t u) := by
  obtain ⟨t1, a1, a2⟩ := h1
  obtain ⟨t2, b1, b2⟩ := h2
  refine ⟨_, pss_cons a1 b1, fun ρ F0 H0 F σ H s De => ?_⟩
  have z := a2 ρ F0 H0 F σ H s { De with nx := t2 De }
  unfold dSeq
  cases e : t ρ with
  | bad => trivial
  | brk ρ' => rw [e] at z; exact z
  | cnt ρ' => rw [e] at z; exact z
  | ret r => rw [e] at z; exact z
  | exc x ρ' => rw [e] at z; exact z
  | nx ρ' =>
    rw [e] at z
    rw [RS.then_nx]
    have y : ∀ F' σ' H', StOk X.K ρ' F0 H0 F' σ' H' → Ex F F' → _ := fun F' σ' H' s' _ => b2 ρ' F0 H0 F' σ' H' s' De
    cases e2 : u ρ' with
    | bad => trivial
    | nx ρ2 => exact fun k => z fun F' σ' H' s' x' => by have q := y F' σ' H' s' x'; rw [e2] at q; exact q fun F2 σ2 H2 a b => k F2 σ2 H2 a (x'.trans b)
    | brk ρ2 => exact fun k => z fun F' σ' H' s' x' => by have q := y F' σ' H' s' x'; rw [e2] at q; exact q fun F2 σ2 H2 a b => k F2 σ2 H2 a (x'.trans b)
    | cnt ρ2 => exact fun k => z fun F' σ' H' s' x' => by have q := y F' σ' H' s' x'; rw [e2] at q; exact q fun F2 σ2 H2 a b => k F2 σ2 H2 a (x'.trans b)
    | ret r => exact fun k => z fun F' σ' H' s' x' => by have q := y F' σ' H' s' x'; rw [e2] at q; exact q k
    | exc x ρ2 => exact fun k => z fun F' σ' H' s' x' => by have q := y F' σ' H' s' x'; rw [e2] at q; exact q fun c d F2 σ2 H2 a b o => k c d F2 σ2 H2 a (x'.trans b) o
theorem ss_one (h1 : PDs X W st t) : PDss X W [st] t := by
  obtain ⟨t1, a1, a2⟩ := h1
  exact ⟨_, pss_one a1, a2⟩
theorem s_pass : PDs X W (.Pass pos) dSkip := ⟨_, ps_pass, fun ρ F0 H0 F σ H s => BdS.nx s (Ex.refl _)⟩
def dBrk : DS := fun ρ => .brk ρ
def dCnt : DS := fun ρ => .cnt ρ
theorem s_break : PDs X W (.Break pos) dBrk := ⟨_, ps_break, fun ρ F0 H0 F σ H s De k => k F σ H s (Ex.refl _)⟩
theorem s_continue : PDs X W (.Continue pos) dCnt := ⟨_, ps_continue, fun ρ F0 H0 F σ H s De k => k F σ H s (Ex.refl _)⟩
def dDrop (te : DE) : DS := fun ρ => (te ρ).then ρ fun _ => .nx ρ
theorem s_expr (he : PDe X W e te) (hs : swapsWith e none pos.line X.env = pure false := by rfl) : PDs X W (.Expr e pos) (dDrop te) := by
  obtain ⟨t1, a1, a2⟩ := he
  refine ⟨_, ps_expr a1 hs, fun ρ F0 H0 F σ H s => ?_⟩
  exact BdS.of (ts := fun y H1 De => De.nx σ H1) s (a2 ρ F0 H0 F σ H s) fun a y F1 H1 _ s1 _ o => BdS.nx s1 (Ex.refl _)
/-- return e -/
def outRS (r : Rv) : RS := match r.out with
  | some r' => .ret r'
  | none => .bad
theorem bds_out {ρ : Env} {F0 H0 F : Hp} {σ : L2.St} {H Hs : Hp} {r : Rv} {y : V} (s1 : StOk X.K ρ F0 H0 F σ H) (o : RvOk X.K F H0 H0 H r y) : BdS X.K W F0 H0 F (outRS r) (fun De => De.rt y H) := by
  unfold outRS
  cases e2 : r.out with
  | none => exact BdS.bad
  | some r' => exact fun De k => k y F H ⟨s1.base, s1.f0, s1.fr, s1.new⟩ (o.outer e2)
def dRet (te : DE) : DS := fun ρ => (te ρ).then ρ outRS
theorem s_ret (he : PDe X W e te) : PDs X W (.Return (some e) pos) (dRet te) := by
  obtain ⟨t1, a1, a2⟩ := he
  refine ⟨_, ps_ret a1, fun ρ F0 H0 F σ H s => ?_⟩
  exact BdS.of (ts := fun y H1 De => De.rt y H1) s (a2 ρ F0 H0 F σ H s) fun r y F1 H1 _ s1 st o => bds_out (Hs := H) s1 (o.start s.base)
def dRetN : DS := fun _ => .ret (.val .non)
theorem s_retN : PDs X W (.Return none pos) dRetN := ⟨_, ps_retN, fun ρ F0 H0 F σ H s De k => k .non F H ⟨s.base, s.f0, s.fr, s.new⟩ (show Rep X.K F .non .non by simp only [Rep])⟩
/-- return a local of its own -/
def dRetA (i : Nat) : DS := fun ρ => match ρ[i]? with
  | some (some (.acc d)) => .ret (.own d)
  | some (some (.val d)) => .ret (.val d)
  | some (some (.par d)) => outRS (Slot.par d).rd
  | _ => .bad
theorem s_retA (i : Nat) {x : Str} {p : Pos} (hN : X.N[i]? = some x := by rfl) (hv : Vis X.env.scope x := by first | exact Or.inl rfl | exact Or.inr (Or.inl rfl) | exact Or.inr (Or.inr rfl)) (hd : (x == ("__debug__" : Str)) = false := by decide)
    (hcd : (x == ("__classdict__" : Str)) = false := by decide) : PDs X W (.Return (some (.Name x p)) pos) (dRetA i) := by
  refine ⟨_, ps_ret (pe_var hN hv hd hcd), fun ρ F0 H0 F σ H s => ?_⟩
  unfold dRetA
  have fin : Step F0 F H0 H := ⟨s.base, s.f0, s.fr, s.new⟩
  cases e : ρ[i]? with
  | none => exact BdS.bad
  | some o =>
    cases o with
    | none => exact BdS.bad
    | some sl =>
      have q := s.slot i sl e
      cases sl with
      | acc d =>
        obtain ⟨a, h1, h2, h3, h4, h5, h6⟩ := q
        exact fun De k => ⟨_, h1, k _ F H fin ⟨a, rfl, h2, h3, h4, h5, h6⟩⟩
      | val d =>
        obtain ⟨v, h1, h2⟩ := q
        exact fun De k => ⟨v, h1, k v F H fin h2⟩
      | par d =>
        obtain ⟨v, h1, h2⟩ := SlotOk.rd q s.fr
        exact (bds_out (W := W) (Hs := H) s (h2.start s.base)).map fun De k => ⟨v, h1, k⟩
def dIf (c : DT) (t u : DS) : DS := fun ρ => (c ρ).then ρ fun b => if b = true then t ρ else u ρ
theorem s_if {c : Expr} {a b : List Stmt} {tc : DT} (hc : PDt X W c tc) (ha : PDss X W a t) (hb : PDss X W b u) : PDs X W (.If c a b pos) (dIf tc t u) := by
  obtain ⟨t0, c1, c2⟩ := hc
  obtain ⟨t1, a1, a2⟩ := ha
  obtain ⟨t2, b1, b2⟩ := hb
  refine ⟨_, ps_if c1 a1 b1, fun ρ F0 H0 F σ H s => ?_⟩
  refine BdS.of (ts := fun b H1 De => if b = true then t1 De σ H1 else t2 De σ H1) s (c2 ρ F0 H0 F σ H s) fun c c' F1 H1 _ s1 _ o => ?_
  subst o
  cases c with
  | true => simpa only [if_pos] using a2 ρ F0 H0 F1 σ H1 s1
  | false => simpa only [if_neg Bool.false_ne_true] using b2 ρ F0 H0 F1 σ H1 s1

/-! ### stores -/
/-- how a result is kept in a slot -/
def Rv.slot : Rv → Option Slot
  | .val d => some (.val d)
  | .own d => some (.acc d)
  | .par d => some (.par d)
  | .bor _ => none
theorem StOk.put {K : PySem.W.Frag} {ρ : Env} {F0 H0 F : Hp} {σ : L2.St} {H : Hp} {i : Nat} {s : Slot} {v : V} (st : StOk K ρ F0 H0 F σ H) (o : i < ρ.length → SlotOk K F H0 H (some (some v)) s)
    (dis : ∀ d j e, s = .acc d → j ≠ i → ρ[j]? = some (some (.acc e)) → σ[j]? ≠ some (some v)) : StOk K (ρ.set i (some s)) F0 H0 F (σ.set i (some v)) H where
  base := st.base
  f0 := st.f0
  fr := st.fr
  new := st.new
  len := by rw [List.length_set, List.length_set, st.len]
  slot := fun j s' e => by
    by_cases h : i = j
    · subst h
      by_cases hl : i < ρ.length
      · rw [List.getElem?_set_self hl] at e
        injection e with e
        injection e with e
        subst e
        rw [List.getElem?_set_self (by rw [st.len]; exact hl)]
        exact o hl
      · rw [List.getElem?_eq_none (by rw [List.length_set]; omega)] at e
        cases e
    · rw [List.getElem?_set_ne h] at e ⊢
      exact st.slot j s' e
  dis := fun j k d e hjk h1 h2 => by
    have get : ∀ (n : Nat) (x : D), (ρ.set i (some s))[n]? = some (some (.acc x)) → (n = i ∧ s = .acc x ∧ (σ.set i (some v))[n]? = some (some v)) ∨ (n ≠ i ∧ ρ[n]? = some (some (.acc x)) ∧ (σ.set i (some v))[n]? = σ[n]?) := fun n x hn => by
      by_cases h : i = n
      · subst h
        by_cases hl : i < ρ.length
        · rw [List.getElem?_set_self hl] at hn
          injection hn with hn
          injection hn with hn
          exact .inl ⟨rfl, hn, List.getElem?_set_self (by rw [st.len]; exact hl)⟩
        · rw [List.getElem?_eq_none (by rw [List.length_set]; omega)] at hn
          cases hn
      · rw [List.getElem?_set_ne h] at hn
        exact .inr ⟨fun z => h z.symm, hn, List.getElem?_set_ne h⟩
    rcases get j d h1 with ⟨a1, a2, a3⟩ | ⟨a1, a2, a3⟩
    · rcases get k e h2 with ⟨b1, b2, b3⟩ | ⟨b1, b2, b3⟩
      · exact absurd (a1.trans b1.symm) hjk
      · rw [a3, b3]
        exact fun z => dis d k e a2 b1 b2 z.symm
    · rcases get k e h2 with ⟨b1, b2, b3⟩ | ⟨b1, b2, b3⟩
      · rw [a3, b3]
        exact dis e j d b2 a1 a2
      · rw [a3, b3]
        exact st.dis j k d e hjk a2 b2
/-- a result just made is stored -/
theorem StOk.store {K : PySem.W.Frag} {ρ : Env} {F0 H0 F F1 : Hp} {σ : L2.St} {H H1 : Hp} {i : Nat} {s : Slot} {r : Rv} {v : V} (st : StOk K ρ F0 H0 F σ H) (s1 : Step F F1 H H1) (o : RvOk K F1 H0 H H1 r v) (e : r.slot = some s) : StOk K (ρ.set i (some s)) F0 H0 F1 (σ.set i (some v)) H1 := by
  have st1 := st.step s1
  cases r with
  | val d => simp only [Rv.slot, Option.some.injEq] at e; subst e; exact st1.put (fun _ => ⟨v, rfl, o⟩) fun _ _ _ h => by cases h
  | par d => simp only [Rv.slot, Option.some.injEq] at e; subst e; exact st1.put (fun _ => ⟨v, rfl, o⟩) fun _ _ _ h => by cases h
  | bor d => simp [Rv.slot] at e
  | own d =>
    simp only [Rv.slot, Option.some.injEq] at e; subst e
    obtain ⟨a, rfl, h2, h3, h4, h5, h6⟩ := o
    refine st1.put (fun _ => ⟨a, rfl, Evl.fresh_back st.base h2, h3, h4, h5, h6⟩) fun d' j e' _ hj hρ hσ => ?_
    obtain ⟨b, q1, q2, q3, q4, ⟨oo, q5⟩, q6⟩ := st.slot j _ hρ
    rw [hσ] at q1
    injection q1 with q1
    injection q1 with q1
    injection q1 with q1
    subst q1
    rw [h2] at q5
    cases q5
def dSet (i : Nat) (te : DE) : DS := fun ρ => (te ρ).then ρ fun r => match r.slot with
  | some s => .nx (ρ.set i (some s))
  | none => .bad
theorem s_set {i : Nat} {x : Str} {pos' : Pos} (hN : X.N.Nodup) (hi : X.N[i]? = some x) (hx : Loc X.env.scope x) (he : PDe X W e te) (hs : swapsWith e (some (.Name x pos')) pos.line X.env = pure false := by rfl) (hf : X.fn x = true ∨ X.env.scope.names.lookup x = some .local := by first | exact .inl rfl | exact .inr rfl | assumption) :
    PDs X W (.Assign [.Name x pos'] e pos) (dSet i te) := by
  obtain ⟨t1, a1, a2⟩ := he
  refine ⟨_, ps_set hN hi hx a1 hs hf, fun ρ F0 H0 F σ H s => ?_⟩
  refine BdS.of (ts := fun y H1 De => De.nx (σ.set i (some y)) H1) s (a2 ρ F0 H0 F σ H s) fun r y F1 H1 _ s1 st o => ?_
  cases e2 : r.slot with
  | none => exact BdS.bad
  | some sl => exact BdS.nx (s.store st o e2) (Ex.refl _)
/-- .. kept for good -/
def dSetV (i : Nat) (te : DE) : DS := fun ρ => (te ρ).then ρ fun r => match r.stay with
  | some d => .nx (ρ.set i (some (.val d)))
  | none => .bad
theorem bds_stay {ρ : Env} {F0 H0 F : Hp} {σ : L2.St} {H : Hp} {i : Nat} {r : Rv} {y : V} {F1 H1 : Hp} (s : StOk X.K ρ F0 H0 F σ H) (s1 : StOk X.K ρ F0 H0 F1 σ H1) (st : Step F F1 H H1) (o : RvOk X.K F1 H0 H H1 r y) : 
    BdS X.K W F0 H0 F1 (match r.stay with | some d => RS.nx (ρ.set i (some (.val d))) | none => .bad) (fun De => De.nx (σ.set i (some y)) H1) := by
  cases e2 : r.stay with
  | none => exact BdS.bad
  | some d =>
    obtain ⟨F2, s2, e3, q⟩ := RvOk.stay (F0 := F0) o st e2
    exact BdS.nx ((s.step s2).put (fun _ => ⟨y, rfl, q⟩) fun _ _ _ h => by cases h) e3
theorem s_setV {i : Nat} {x : Str} {pos' : Pos} (hN : X.N.Nodup) (hi : X.N[i]? = some x) (hx : Loc X.env.scope x) (he : PDe X W e te) (hs : swapsWith e (some (.Name x pos')) pos.line X.env = pure false := by rfl) (hf : X.fn x = true ∨ X.env.scope.names.lookup x = some .local := by first | exact .inl rfl | exact .inr rfl | assumption) :
    PDs X W (.Assign [.Name x pos'] e pos) (dSetV i te) := by
  obtain ⟨t1, a1, a2⟩ := he
  refine ⟨_, ps_set hN hi hx a1 hs hf, fun ρ F0 H0 F σ H s => ?_⟩
  refine BdS.of (ts := fun y H1 De => De.nx (σ.set i (some y)) H1) s (a2 ρ F0 H0 F σ H s) fun r y F1 H1 _ s1 st o => ?_
  exact bds_stay s s1 st o
/-- a local of its own is kept from here on -/
def frz (i : Nat) (ρ : Env) : Env := match ρ[i]? with
  | some (some (.acc d)) => ρ.set i (some (.val d))
  | _ => ρ
theorem set_same {α : Type} {l : List α} {i : Nat} {x : α} (h : l[i]? = some x) : l.set i x = l := by
  apply List.ext_getElem?
  intro j
  by_cases hj : i = j
  · subst hj
    have hl : i < l.length := (List.getElem?_eq_some_iff.mp h).1
    rw [List.getElem?_set_self hl, h]
  · rw [List.getElem?_set_ne hj]
theorem StOk.froze {K : PySem.W.Frag} {ρ : Env} {F0 H0 F : Hp} {σ : L2.St} {H : Hp} (i : Nat) (st : StOk K ρ F0 H0 F σ H) : ∃ F', StOk K (frz i ρ) F0 H0 F' σ H ∧ Ex F F' := by
  unfold frz
  cases e : ρ[i]? with
  | none => exact ⟨F, st, Ex.refl _⟩
  | some o =>
    cases o with
    | none => exact ⟨F, st, Ex.refl _⟩
    | some sl =>
      cases sl with
      | val d => exact ⟨F, st, Ex.refl _⟩
      | par d => exact ⟨F, st, Ex.refl _⟩
      | acc d =>
        obtain ⟨a, h1, h2, h3, h4, ⟨o, h5⟩, h6⟩ := st.slot i _ e
        have ex : Ex F (upd F a o) := Ex.new h3
        refine ⟨upd F a o, ?_, ex⟩
        have es : σ.set i (some (.ref a)) = σ := set_same h1
        have other : ∀ j e', j ≠ i → ρ[j]? = some (some (.acc e')) → ∀ b, σ[j]? = some (some (.ref b)) → b ≠ a := fun j e' hj hρ b hb hba => st.dis j i e' d hj hρ e (by rw [hb, h1, hba])
        have st2 : StOk K (ρ.set i (some (.val d))) F0 H0 F (σ.set i (some (.ref a))) H → True := fun _ => trivial
        refine ⟨st.base, st.f0.trans ex, ex_into st.fr h5, fun x q => ?_, by rw [List.length_set]; exact st.len, fun j s' e' => ?_, fun j k d' e' hjk q1 q2 => ?_⟩
        · by_cases hx : x = a
          · subst hx; exact .inr h2
          · rw [upd_ne hx] at q; exact st.new x q
        · by_cases hj : i = j
          · subst hj
            have hl : i < ρ.length := (List.getElem?_eq_some_iff.mp e).1
            rw [List.getElem?_set_self hl] at e'
            injection e' with e'
            injection e' with e'
            subst e'
            exact ⟨_, h1, h6.froze h4 h5 h3⟩
          · rw [List.getElem?_set_ne hj] at e'
            have q := st.slot j s' e'
            cases s' with
            | val d' => obtain ⟨v, q1, q2⟩ := q; exact ⟨v, q1, q2.mono ex⟩
            | par d' => obtain ⟨v, q1, q2⟩ := q; exact ⟨v, q1, q2.mono ex (Ex.refl _)⟩
            | acc d' =>
              obtain ⟨b, q1, q2, q3, q4, q5, q6⟩ := q
              exact ⟨b, q1, q2, by rw [upd_ne (other j d' (fun z => hj z.symm) e' b q1)]; exact q3, q4, q5, q6.mono ex (Ex.refl _)⟩
        · have back : ∀ (n : Nat) (x : D), (ρ.set i (some (.val d)))[n]? = some (some (.acc x)) → ρ[n]? = some (some (.acc x)) := fun n x hn => by
            by_cases hin : i = n
            · subst hin
              have hl : i < ρ.length := (List.getElem?_eq_some_iff.mp e).1
              rw [List.getElem?_set_self hl] at hn
              injection hn with hn
              injection hn with hn
              cases hn
            · rw [List.getElem?_set_ne hin] at hn; exact hn
          exact st.dis j k d' e' hjk (back _ _ q1) (back _ _ q2)
def frzs : List Nat → Env → Env
  | [], ρ => ρ
  | i :: is, ρ => frzs is (frz i ρ)
theorem StOk.frozes {K : PySem.W.Frag} {F0 H0 : Hp} {σ : L2.St} {H : Hp} : ∀ (is : List Nat) {ρ : Env} {F : Hp}, StOk K ρ F0 H0 F σ H → ∃ F', StOk K (frzs is ρ) F0 H0 F' σ H ∧ Ex F F'
  | [], ρ, F, st => ⟨F, st, Ex.refl _⟩
  | i :: is, ρ, F, st => by
    obtain ⟨F1, s1, e1⟩ := st.froze i
    obtain ⟨F2, s2, e2⟩ := StOk.frozes is s1
    exact ⟨F2, s2, e1.trans e2⟩
/-- ahead of a statement some locals are kept for good -/
def dFrz (is : List Nat) (t : DS) : DS := fun ρ => t (frzs is ρ)
theorem s_frz (is : List Nat) (h : PDs X W st t) : PDs X W st (dFrz is t) := by
  obtain ⟨t1, a1, a2⟩ := h
  refine ⟨t1, a1, fun ρ F0 H0 F σ H s => ?_⟩
  obtain ⟨F', s', e'⟩ := s.frozes is
  exact (a2 _ F0 H0 F' σ H s').weak e'
end
end DL
set_option maxHeartbeats 4000000
namespace DL
open PySem L2
open Evl (Ex)

/-! ### objects of one's own that change -/
theorem RepB.upd_ne {K : PySem.W.Frag} {F H : Hp} {d : D} {a b : Addr} {o : HO} (h : RepB K F H d (.ref b)) (hn : b ≠ a) : RepB K F (upd H a o) d (.ref b) := by
  cases d <;> simp only [RepB] at h ⊢
  case lst ds => obtain ⟨c, xs, h1, h2, h3⟩ := h; injection h1 with h1; subst h1; exact ⟨b, xs, rfl, by rw [L2.upd_ne hn]; exact h2, h3⟩
  case dK ds => obtain ⟨c, xs, h1, h2, h3⟩ := h; injection h1 with h1; subst h1; exact ⟨b, xs, rfl, by rw [L2.upd_ne hn]; exact h2, h3⟩
  case dT ds => obtain ⟨c, xs, h1, h2, h3⟩ := h; injection h1 with h1; subst h1; exact ⟨b, xs, rfl, by rw [L2.upd_ne hn]; exact h2, h3⟩
  case obj C fs => obtain ⟨c, dx, xs, h1, h2, h3⟩ := h; injection h1 with h1; subst h1; exact ⟨b, dx, xs, rfl, by rw [L2.upd_ne hn]; exact h2, h3⟩
  case scr ns =>
    obtain ⟨c, h1, h2⟩ := h; injection h1 with h1; subst h1
    refine ⟨b, rfl, ?_⟩
    rcases h2 with (h2 | ⟨o', h2⟩) | h2
    · exact .inl (.inl (by rw [L2.upd_ne hn]; exact h2))
    · exact .inl (.inr ⟨o', by rw [L2.upd_ne hn]; exact h2⟩)
    · exact .inr h2
  all_goals exact h
theorem StOk.mutate {K : PySem.W.Frag} {ρ : Env} {F0 H0 F : Hp} {σ : L2.St} {H : Hp} {i : Nat} {d d' : D} {a : Addr} {o : HO} (st : StOk K ρ F0 H0 F σ H) (e : ρ[i]? = some (some (.acc d))) (ha : σ[i]? = some (some (.ref a)))
    (hf : DL.flat d' = false) (hr : RepB K F (upd H a o) d' (.ref a)) : StOk K (ρ.set i (some (.acc d'))) F0 H0 F σ (upd H a o) := by
  obtain ⟨b, h1, h2, h3, h4, ⟨o1, h5⟩, h6⟩ := st.slot i _ e
  rw [ha] at h1
  injection h1 with h1; injection h1 with h1; injection h1 with h1
  subst h1
  have hl : i < ρ.length := (List.getElem?_eq_some_iff.mp e).1
  have back : ∀ (n : Nat) (x : D), (ρ.set i (some (.acc d')))[n]? = some (some (.acc x)) → ∃ y, ρ[n]? = some (some (.acc y)) := fun n x hn => by
    by_cases hin : i = n
    · subst hin; exact ⟨d, e⟩
    · rw [List.getElem?_set_ne hin] at hn; exact ⟨x, hn⟩
  refine ⟨Ex.mut st.base h2, st.f0, Ex.mut st.fr h3, st.new, by rw [List.length_set]; exact st.len, fun j s' e' => ?_, fun j k x y hjk q1 q2 => ?_⟩
  · by_cases hj : i = j
    · subst hj
      rw [List.getElem?_set_self hl] at e'
      injection e' with e'; injection e' with e'
      subst e'
      exact ⟨a, ha, h2, h3, hf, ⟨o, upd_same⟩, hr⟩
    · rw [List.getElem?_set_ne hj] at e'
      have q := st.slot j s' e'
      cases s' with
      | val x => exact q
      | par x => exact q
      | acc x =>
        obtain ⟨c, q1, q2, q3, q4, ⟨o2, q5⟩, q6⟩ := q
        have hc : c ≠ a := fun z => st.dis i j d x hj e e' (by rw [ha, q1, z])
        exact ⟨c, q1, q2, q3, q4, ⟨o2, by rw [L2.upd_ne hc]; exact q5⟩, q6.upd_ne hc⟩
  · obtain ⟨x', q1⟩ := back _ _ q1
    obtain ⟨y', q2⟩ := back _ _ q2
    exact st.dis j k x' y' hjk q1 q2
section
variable {X : Cx} {W : WX} {st : Stmt} {rest : List Stmt} {t u : DS} {e : Expr} {te : DE} {pos : Pos}
/-- an expression with an effect; its value stays -/
abbrev DX := Env → R (D × Env)
def BdX (K : PySem.W.Frag) (W : WX) (F0 H0 F : Hp) (σ : L2.St) (H : Hp) (r : R (D × Env)) (te : VK → Prop) : Prop := ∀ Q : VK, match r with
  | .ok p => (∀ v F' H', StOk K p.2 F0 H0 F' σ H' → Ex F F' → Rep K F' p.1 v → Q v H') → te Q
  | .exc x => (∀ cls d F' H', Step F F' H H' → ExcOk K F' H' x cls d → W cls d σ H') → te Q
  | .bad => True
theorem BdX.bad {K : PySem.W.Frag} {F0 H0 F : Hp} {σ : L2.St} {H : Hp} {te : VK → Prop} : BdX K W F0 H0 F σ H .bad te := fun _ => trivial
theorem BdX.of {K : PySem.W.Frag} {ρ : Env} {F0 H0 F : Hp} {σ : L2.St} {H : Hp} {α β : Type} {Ok : Hp → Hp → α → β → Prop} {r : R α} {te : (β → Hp → Prop) → Prop} {f : α → R (D × Env)} {ts : β → Hp → VK → Prop}
    (st : StOk K ρ F0 H0 F σ H) (h1 : Bd K W σ F H Ok r te) (h2 : ∀ a y F1 H1, r = .ok a → StOk K ρ F0 H0 F1 σ H1 → Step F F1 H H1 → Ok F1 H1 a y → BdX K W F0 H0 F1 σ H1 (f a) (ts y H1)) :
    BdX K W F0 H0 F σ H (r.bind f) (fun Q => te fun y H1 => ts y H1 Q) := by
  intro Q
  cases r with
  | bad => trivial
  | exc x => exact fun k => h1 (fun y H1 => ts y H1 Q) k
  | ok a =>
    rw [R.bind_ok]
    cases e : f a with
    | bad => trivial
    | ok p => exact fun k => h1 (fun y H1 => ts y H1 Q) fun y F1 H1 s o => by have q := h2 a y F1 H1 rfl (st.step s) s o Q; rw [e] at q; exact q fun v F' H' a b c => k v F' H' a (s.f.trans b) c
    | exc x => exact fun k => h1 (fun y H1 => ts y H1 Q) fun y F1 H1 s o => by have q := h2 a y F1 H1 rfl (st.step s) s o Q; rw [e] at q; exact q fun cls d F' H' a b => k cls d F' H' (s.trans a) b
def PDx (X : Cx) (W : WX) (e : Expr) (t : DX) : Prop :=
  ∃ te, PE X e te ∧ ∀ ρ F0 H0 F σ H, StOk X.K ρ F0 H0 F σ H → BdX X.K W F0 H0 F σ H (t ρ) (te σ H)
def xOf (te : DE) : DX := fun ρ => (dV te ρ).bind fun d => .ok (d, ρ)
theorem x_of (h : PDe X W e te) : PDx X W e (xOf te) := by
  obtain ⟨t1, a1, a2⟩ := h.v
  refine ⟨t1, a1, fun ρ F0 H0 F σ H s => ?_⟩
  exact BdX.of (ts := fun y H1 Q => Q y H1) s (a2 ρ F0 H0 F σ H s) fun d v F1 H1 _ s1 st o Q k => k v F1 H1 s1 (Ex.refl _) o
/-- xs.pop(e), xs.pop() -/
def popAt (i : Nat) (ρ : Env) (ds : List D) : D → R (D × Env)
  | .int k => if -(2 ^ 63) ≤ k ∧ k < 2 ^ 63 then (match seqIndex? k ds.length with
    | some j => (match ds[j]? with
      | some d => .ok (d, ρ.set i (some (.acc (.lst (ds.eraseIdx j)))))
      | none => .bad)
    | none => .bad) else .bad
  | _ => .bad
def dPopAt (i : Nat) (te : DE) : DX := fun ρ => match ρ[i]? with
  | some (some (.acc (.lst ds))) => (te ρ).bind fun r => popAt i ρ ds r.d
  | _ => .bad
/-- what stands in a slot that is a list of one's own -/
theorem StOk.own {K : PySem.W.Frag} {ρ : Env} {F0 H0 F : Hp} {σ : L2.St} {H : Hp} {i : Nat} {ds : List D} (st : StOk K ρ F0 H0 F σ H) (e : ρ[i]? = some (some (.acc (.lst ds)))) :
    ∃ a xs, σ[i]? = some (some (.ref a)) ∧ H a = some (.lst xs) ∧ Reps K F ds xs := by
  obtain ⟨a, h1, h2, h3, h4, h5, h6⟩ := st.slot i _ e
  obtain ⟨b, xs, q1, q2, q3⟩ := h6
  injection q1 with q1
  subst q1
  exact ⟨a, xs, h1, q2, q3⟩
theorem x_popAt (i : Nat) {x : Str} {p ap cp : Pos} (he : PDe X W e te) (hN : X.N[i]? = some x := by rfl) (hv : Vis X.env.scope x := by first | exact Or.inl rfl | exact Or.inr (Or.inl rfl) | exact Or.inr (Or.inr rfl)) (hd : (x == ("__debug__" : Str)) = false := by decide)
    (hcd : (x == ("__classdict__" : Str)) = false := by decide) (hbase : attributeBase (.Name x p) "pop" X.env (eval (.Name x p) X.env) = eval (.Name x p) X.env := by rfl)
    (hfew : ((backTo cp (starEach (e :: []) X.env)).all (fun x => !x.1) && (backToKw cp (keywordEach [] X.env)).all (fun x => x.1.isSome)
      && decide ((e :: []).length + ([] : List Keyword).length + (if ([] : List Keyword).isEmpty then 0 else 1) < 30)) = true := by rfl)
    (hline : (ap.endLine == cp.line) = true := by rfl) (hs : starEach (e :: []) X.env = (false, eval e X.env) :: starEach [] X.env := by rfl) (hplain : (backTo cp (starEach [] X.env)).any (·.1) = false := by rfl) :
    PDx X W (.Call (.Attribute (.Name x p) "pop" ap) [e] [] cp) (dPopAt i te) := by
  obtain ⟨t1, a1, a2⟩ := he
  refine ⟨_, pe_bm PySem.F.plainAttrs_list PySem.F.slot_list_pop PySem.F.type_list_pop mt_popAt (pe_var hN hv hd hcd) (pa_cons a1 L2.pa_nil hs) hbase hfew hline hs hplain, fun ρ F0 H0 F σ H s => ?_⟩
  unfold dPopAt
  split
  case h_2 => exact BdX.bad
  case h_1 ds e1 =>
    obtain ⟨a, xs, h1, h2, h3⟩ := s.own e1
    have z := BdX.of (ts := fun y H1 Q => rPopAt (.ref a) [y] H1 Q) (f := fun r => popAt i ρ ds r.d) s (a2 ρ F0 H0 F σ H s) fun r y F1 H1 _ s1 st o => ?_
    · intro Q
      have q := z Q
      revert q
      generalize ((te ρ).bind fun r => popAt i ρ ds r.d) = rr
      cases rr with
      | bad => exact id
      | ok p => exact fun q k => ⟨_, h1, .inl ⟨rfl, xs, SqL.of h2⟩, q k⟩
      | exc p => exact fun q k => ⟨_, h1, .inl ⟨rfl, xs, SqL.of h2⟩, q k⟩
    · have ob := o.b s1.fr s1.base
      obtain ⟨a', xs', g1, g2, g3⟩ := s1.own e1
      rw [h1] at g1; injection g1 with g1; injection g1 with g1; injection g1 with g1; subst g1
      unfold popAt
      split
      case h_2 => exact BdX.bad
      case h_1 k ek =>
        rw [ek] at ob
        simp only [RepB] at ob
        subst ob
        split
        case isFalse => exact BdX.bad
        case isTrue hb =>
          split
          case h_2 => exact BdX.bad
          case h_1 j ej =>
            split
            case h_2 => exact BdX.bad
            case h_1 d ed =>
              obtain ⟨v, hv1, hv2⟩ := g3.getD ed
              refine fun Q kk => ⟨a, xs', k, j, v, rfl, rfl, g2, hb.1, hb.2, by rw [g3.length]; exact ej, hv1, ?_⟩
              exact kk v F1 _ (s1.mutate e1 h1 rfl ⟨a, _, rfl, upd_same, g3.eraseIdx j⟩) (Ex.refl _) hv2
/-- name = an effect's value -/
def dSetX (i : Nat) (te : DX) : DS := fun ρ => (te ρ).then ρ fun p => .nx (p.2.set i (some (.val p.1)))
theorem s_setX {i : Nat} {x : Str} {pos' : Pos} {te : DX} (hN : X.N.Nodup) (hi : X.N[i]? = some x) (hx : Loc X.env.scope x) (he : PDx X W e te) (hs : swapsWith e (some (.Name x pos')) pos.line X.env = pure false := by rfl) (hf : X.fn x = true ∨ X.env.scope.names.lookup x = some .local := by first | exact .inl rfl | exact .inr rfl | assumption) :
    PDs X W (.Assign [.Name x pos'] e pos) (dSetX i te) := by
  obtain ⟨t1, a1, a2⟩ := he
  refine ⟨_, ps_set hN hi hx a1 hs hf, fun ρ F0 H0 F σ H s De => ?_⟩
  have z := a2 ρ F0 H0 F σ H s (fun y H1 => De.nx (σ.set i (some y)) H1)
  unfold dSetX
  cases e1 : te ρ with
  | bad => trivial
  | exc x => rw [e1] at z; exact fun k => z fun cls d F' H' st o => k cls d F' σ H' (s.step st) st.f o
  | ok p => rw [e1] at z; exact fun k => z fun v F' H' st ex o => k F' (σ.set i (some v)) H' (st.put (fun _ => ⟨v, rfl, o⟩) fun _ _ _ h => by cases h) ex
/-- xs.append(e) -/
def appTo (i : Nat) (d : D) (ρ : Env) : RS := match ρ[i]? with
  | some (some (.acc (.lst ds))) => if ds.length < sizeLine then .nx (ρ.set i (some (.acc (.lst (ds ++ [d]))))) else .bad
  | _ => .bad
def dApp (i : Nat) (te : DX) : DS := fun ρ => match ρ[i]? with
  | some (some (.acc (.lst _))) => (te ρ).then ρ fun p => appTo i p.1 p.2
  | _ => .bad
theorem s_app (i : Nat) {x : Str} {p ap cp : Pos} {te : DX} (he : PDx X W e te) (hsw : swapsWith (.Call (.Attribute (.Name x p) "append" ap) [e] [] cp) none pos.line X.env = pure false := by rfl) (hN : X.N[i]? = some x := by rfl) (hv : Vis X.env.scope x := by first | exact Or.inl rfl | exact Or.inr (Or.inl rfl) | exact Or.inr (Or.inr rfl)) (hd : (x == ("__debug__" : Str)) = false := by decide)
    (hcd : (x == ("__classdict__" : Str)) = false := by decide) (hbase : attributeBase (.Name x p) "append" X.env (eval (.Name x p) X.env) = eval (.Name x p) X.env := by rfl)
    (hfew : ((backTo cp (starEach (e :: []) X.env)).all (fun x => !x.1) && (backToKw cp (keywordEach [] X.env)).all (fun x => x.1.isSome)
      && decide ((e :: []).length + ([] : List Keyword).length + (if ([] : List Keyword).isEmpty then 0 else 1) < 30)) = true := by rfl)
    (hline : (ap.endLine == cp.line) = true := by rfl) (hs : starEach (e :: []) X.env = (false, eval e X.env) :: starEach [] X.env := by rfl) (hplain : (backTo cp (starEach [] X.env)).any (·.1) = false := by rfl) :
    PDs X W (.Expr (.Call (.Attribute (.Name x p) "append" ap) [e] [] cp) pos) (dApp i te) := by
  obtain ⟨t1, a1, a2⟩ := he
  refine ⟨_, ps_expr (pe_bm PySem.F.plainAttrs_list PySem.F.slot_list_append PySem.F.type_list_append mt_append (pe_var hN hv hd hcd) (pa_cons a1 L2.pa_nil hs) hbase hfew hline hs hplain) hsw, fun ρ F0 H0 F σ H s => ?_⟩
  unfold dApp
  split
  case h_2 => exact BdS.bad
  case h_1 ds e1 =>
    obtain ⟨a, xs, h1, h2, h3⟩ := s.own e1
    intro De
    have z := a2 ρ F0 H0 F σ H s (fun y H1 => rAppend (.ref a) [y] H1 fun _ H2 => De.nx σ H2)
    cases e2 : te ρ with
    | bad => trivial
    | exc x => rw [e2] at z; exact fun k => ⟨_, h1, .inl ⟨rfl, xs, SqL.of h2⟩, z fun cls d F' H' st o => k cls d F' σ H' (s.step st) st.f o⟩
    | ok p =>
      rw [e2] at z
      rw [R.then_ok]
      unfold appTo
      cases e3 : p.2[i]? with
      | none => trivial
      | some o3 =>
        cases o3 with
        | none => trivial
        | some sl =>
          cases sl with
          | val _ => trivial
          | par _ => trivial
          | acc dd =>
            cases dd with
            | lst ds' =>
              by_cases hl : ds'.length < sizeLine
              · simp only [hl, if_true]
                refine fun k => ⟨_, h1, .inl ⟨rfl, xs, SqL.of h2⟩, z fun v F' H' st ex o => ?_⟩
                obtain ⟨a', xs', g1, g2, g3⟩ := st.own e3
                rw [h1] at g1; injection g1 with g1; injection g1 with g1; injection g1 with g1; subst g1
                refine ⟨a, xs', v, rfl, rfl, g2, by rw [g3.length]; exact hl, ?_⟩
                exact k F' σ _ (st.mutate e3 h1 rfl ⟨a, _, rfl, upd_same, g3.append (Reps.cons o Reps.nil)⟩) ex
              · simp only [hl, if_false]
            | _ => trivial
/-- xs[e1] = e2 -/
def setTo (i : Nat) (d : D) (ρ : Env) : D → RS
  | .int k => (match ρ[i]? with
    | some (some (.acc (.lst ds))) => (match ixN ds.length k with
      | some j => .nx (ρ.set i (some (.acc (.lst (ds.set j d)))))
      | none => .bad)
    | _ => .bad)
  | _ => .bad
def dPut (i : Nat) (ti te : DE) : DS := fun ρ => (dV te ρ).then ρ fun d => match ρ[i]? with
  | some (some (.acc (.lst _))) => (ti ρ).then ρ fun r => setTo i d ρ r.d
  | _ => .bad
theorem s_put (i : Nat) {x : Str} {p tp : Pos} {ix : Expr} {ti : DE} (he : PDe X W e te) (hi : PDe X W ix ti) (hN : X.N[i]? = some x := by rfl) (hv : Vis X.env.scope x := by first | exact Or.inl rfl | exact Or.inr (Or.inl rfl) | exact Or.inr (Or.inr rfl)) (hd : (x == ("__debug__" : Str)) = false := by decide)
    (hcd : (x == ("__classdict__" : Str)) = false := by decide) 
    (ha : ∀ v, assign (.Subscript (.Name x p) ix tp) X.env v = (do
      let ov ← holding [v] (eval (.Name x p) X.env)
      let iv ← holding [v, ov] (eval ix X.env)
      standAt tp
      holding [v, ov, iv] (setItem ov iv v)
      release [v, ov, iv] []) := by intro _; rfl)
    (hs : swapsWithSole [.Subscript (.Name x p) ix tp] e pos.line X.env = pure false := by rfl) (hw : swappedStores [.Subscript (.Name x p) ix tp] e X.env = pure none := by rfl)
    (h1 : (assignEach [.Subscript (.Name x p) ix tp] X.env).map (·.2) = [assign (.Subscript (.Name x p) ix tp) X.env] := by rfl) :
    PDs X W (.Assign [.Subscript (.Name x p) ix tp] e pos) (dPut i ti te) := by
  obtain ⟨t1, a1, a2⟩ := he.v
  obtain ⟨t2, b1, b2⟩ := hi
  refine ⟨_, ps_asg a1 (pg_sub (pe_var hN hv hd hcd) b1 set_list ha) hs hw h1, fun ρ F0 H0 F σ H s => ?_⟩
  refine BdS.of (ts := fun y H1 De => gSub (tVar i) t2 rSetL y σ H1 De.nx) s (a2 ρ F0 H0 F σ H s) fun d y F1 H1 _ s1 st o => ?_
  split
  case h_2 => exact BdS.bad
  case h_1 ds e1 =>
    obtain ⟨a, xs, h1, h2, h3⟩ := s1.own e1
    have z := BdS.of (ts := fun k H2 De => rSetL (.ref a) k y H2 fun H3 => De.nx σ H3) (f := fun r => setTo i d ρ r.d) s1 (b2 ρ F0 H0 F1 σ H1 s1) fun r k F2 H2 _ s2 st2 o2 => ?_
    · exact z.map fun De q => ⟨_, h1, q⟩
    · have ob := o2.b s2.fr s2.base
      unfold setTo
      split
      case h_2 => exact BdS.bad
      case h_1 kk ek =>
        rw [ek] at ob
        simp only [RepB] at ob
        subst ob
        split
        case h_2 => exact BdS.bad
        case h_1 ds' e3 =>
          obtain ⟨a', xs', g1, g2, g3⟩ := s2.own e3
          rw [h1] at g1; injection g1 with g1; injection g1 with g1; injection g1 with g1; subst g1
          split
          case h_2 => exact BdS.bad
          case h_1 j ej =>
            refine fun De k => ⟨a, xs', kk, j, rfl, rfl, g2, by rw [g3.length]; exact ej, ?_⟩
            exact k F2 σ _ (s2.mutate e3 h1 rfl ⟨a, _, rfl, upd_same, g3.set (o.mono st2.f) j⟩) (Ex.refl _)
/-- x op= e -/
def dAug (i : Nat) (g : D → D → Option Rv) (te : DE) : DS := fun ρ => (dVar i ρ).then ρ fun x => (te ρ).then ρ fun y => match (g x.d y.d).bind Rv.slot with
  | some s => .nx (ρ.set i (some s))
  | none => .bad
theorem s_aug {i : Nat} {x : Str} {op : Operator} {r : R2} {g : D → D → Option Rv} {pos' : Pos} (hN : X.N.Nodup) (hi : X.N[i]? = some x) (hx : Loc X.env.scope x) (he : PDe X W e te) (ho : OpR X (inplaceOp op) r) (hs : OpS X.K r g)
    (hf : X.fn x = true ∨ X.env.scope.names.lookup x = some .local := by first | exact .inl rfl | exact .inr rfl | assumption) :
    PDs X W (.AugAssign (.Name x pos') op e pos) (dAug i g te) := by
  obtain ⟨t1, a1, a2⟩ := he
  refine ⟨_, ps_aug (op := op) (ti := r) hN hi hx a1 (fun pins s σ H x y v u Q I r1 r2 h => ho pins s σ H x y v u Q I r1 r2 h) hf, fun ρ F0 H0 F σ H s => ?_⟩
  unfold dAug dVar
  cases e1 : ρ[i]? with
  | none => exact BdS.bad
  | some o =>
    cases o with
    | none => exact BdS.bad
    | some sl =>
      obtain ⟨v, h1, h2⟩ := (s.slot i sl e1).rd s.fr
      have z := BdS.of (ts := fun y H1 De => r v y H1 fun z H2 => De.nx (σ.set i (some z)) H2) (f := fun y => match (g sl.rd.d y.d).bind Rv.slot with | some s => .nx (ρ.set i (some s)) | none => .bad) s (a2 ρ F0 H0 F σ H s) fun y u F1 H1 _ s1 st o => ?_
      · exact z.map fun De q => ⟨v, h1, q⟩
      · cases e2 : (g sl.rd.d y.d).bind Rv.slot with
        | none => exact BdS.bad
        | some s' =>
          obtain ⟨rv, e3, e4⟩ := Option.bind_eq_some_iff.mp e2
          intro De k
          refine hs F1 H0 H1 sl.rd.d y.d v u rv s1.fr ((h2.step st).b s1.fr s1.base) (o.b s1.fr s1.base) e3 _ fun w F2 H2 s3 o3 => ?_
          exact k F2 _ H2 (s1.store s3 o3 e4) s3.f
end
end DL
set_option maxHeartbeats 4000000
namespace DL
open PySem L2
open Evl (Ex)

/-! ### what is walked -/
def ItOk (K : PySem.W.Frag) (H0 F : Hp) (ds : List D) (J : It) : Prop := ∃ n G Y, Walk J n G Y ∧ ds.length = n ∧ ∀ F' H', Ex F F' → Ex F' H' → Ex H0 H' →
  G H' ∧ ∀ i x H2, i < n → Y i H' x H2 → ∃ d F2, ds[i]? = some d ∧ Step F' F2 H' H2 ∧ Rep K F2 d x
abbrev DI := Env → R (List D)
def PDi (X : Cx) (W : WX) (tg iter : Expr) (t : DI) : Prop :=
  ∃ wi, PI X tg iter wi ∧ ∀ ρ F0 H0 F σ H, StOk X.K ρ F0 H0 F σ H → Bd X.K W σ F H (fun F' H' ds J => ItOk X.K H0 F' ds J) (t ρ) (wi σ H)
def itemsOf : D → Option (List D)
  | .lst ds => some ds
  | .tup ds => some ds
  | .scr ns => some (ns.map D.int)
  | _ => none
section
variable {X : Cx} {W : WX} {tg e : Expr} {te : DE} {pos p : Pos}
def iSeq (K : PySem.W.Frag) (tl : TE) : TI := fun σ H Rq => tl σ H fun x H1 => ∃ a, x = .ref a ∧ (((∃ xs, SqL K H1 a xs) ∧ Rq (Itl K a) H1) ∨ ((∃ xs, SqT K H1 a xs) ∧ Rq (Itt K a) H1))
theorem pi_seq {l : Expr} {tl : TE} (hl : PE X l tl) : PI X tg l (iSeq X.K tl) := by
  refine ⟨fun pins s σ H Rq I h => ?_⟩
  refine thn (hl.run pins s σ H _ I h) fun v s1 ⟨x, H1, I1, r1, q1⟩ => ?_
  obtain ⟨a, e, ⟨⟨xs, hq⟩, q⟩ | ⟨⟨xs, hq⟩, q⟩⟩ := q1
  · subst e
    cases r1
    obtain ⟨its, rv, p, hz⟩ := I1.list hq
    refine wpAny_pyIter_list p.isList ?_
    refine ⟨s1.heap.objs.size, [s1.heap.objs.size], _, _, H1, rfl, I1.kept (t' := s1.toks) fun b o e => Heap.get?_push_of_some _ e, turn_list a _, ⟨_, Heap.get?_push_size _ rfl, rfl, rfl⟩, fun b hb => ?_, q⟩
    have e : b = s1.heap.objs.size := by simpa using hb
    subst e
    exact I1.fpOk (Nat.le_refl _) (I1.hok.fresh (Nat.le_refl _))
  · subst e
    cases r1
    obtain ⟨its, rv, p, hz⟩ := I1.tuple hq
    refine wpAny_pyIter_tuple (show s1.heap.IsTuple a its.toArray from p) ?_
    refine ⟨s1.heap.objs.size, [s1.heap.objs.size], _, _, H1, rfl, I1.kept (t' := s1.toks) fun b o e => Heap.get?_push_of_some _ e, turn_tuple a _, ⟨_, Heap.get?_push_size _ rfl, rfl, rfl⟩, fun b hb => ?_, q⟩
    have e : b = s1.heap.objs.size := by simpa using hb
    subst e
    exact I1.fpOk (Nat.le_refl _) (I1.hok.fresh (Nat.le_refl _))
/-- a result whose items may be walked: it stands still -/
def Rv.still : Rv → Option Rv
  | .val d => some (.val d)
  | .own d => some (.val d)
  | .par d => some (.par d)
  | .bor d => if DL.flat d = true then some (.val d) else none
def Rv.items (r : Rv) : Option (List D) := r.still.bind fun r => itemsOf r.d
def dSeqI (te : DE) : DI := fun ρ => (te ρ).bind fun r => .of r.items
theorem itOk_list {K : PySem.W.Frag} {H0 F : Hp} {a : Addr} {xs : List V} {ds : List D} (hF : Rd F a (.lst xs) ∨ Rd H0 a (.lst xs)) (hr : Reps K F ds xs) : ItOk K H0 F ds (Itl K a) := by
  refine ⟨xs.length, _, _, walk_list, hr.length.symm, fun F' H' e1 e2 e3 => ⟨?_, fun i x H2 hi hy => ?_⟩⟩
  · rcases hF with h | h
    · exact .inl (Evl.ex_rd (e1.trans e2) h)
    · exact .inl (Evl.ex_rd e3 h)
  · obtain ⟨rfl, hx⟩ := hy
    obtain ⟨d, g1, g2⟩ := hr.get hx
    exact ⟨d, F', g1, .refl e2, g2.mono e1⟩
theorem itOk_scr {K : PySem.W.Frag} {H0 F : Hp} {a : Addr} {ns : List Int} (hF : SqL K F a (ns.map V.int) ∨ SqL K H0 a (ns.map V.int)) : ItOk K H0 F (ns.map D.int) (Itl K a) := by
  refine ⟨(ns.map V.int).length, _, _, walk_list, by simp, fun F' H' e1 e2 e3 => ⟨?_, fun i x H2 hi hy => ?_⟩⟩
  · rcases hF with h | h
    · exact Evl.ex_l (e1.trans e2) h
    · exact Evl.ex_l e3 h
  · obtain ⟨rfl, hx⟩ := hy
    obtain ⟨d, g1, g2⟩ := (Reps.of_ints (K := K) (F := F') ns).get hx
    exact ⟨d, F', g1, .refl e2, g2⟩
theorem itOk_tup {K : PySem.W.Frag} {H0 F : Hp} {a : Addr} {xs : List V} {ds : List D} (hF : SqT K F a xs) (hr : Reps K F ds xs) : ItOk K H0 F ds (Itt K a) := by
  refine ⟨xs.length, _, _, walk_tup, hr.length.symm, fun F' H' e1 e2 e3 => ⟨Evl.ex_t (e1.trans e2) hF, fun i x H2 hi hy => ?_⟩⟩
  obtain ⟨rfl, hx⟩ := hy
  obtain ⟨d, g1, g2⟩ := hr.get hx
  exact ⟨d, F', g1, .refl e2, g2.mono e1⟩
/-- a result that stands still -/
theorem RvOk.still {K : PySem.W.Frag} {F F' H0 Hs H' : Hp} {r r' : Rv} {v : V} (h : RvOk K F' H0 Hs H' r v) (s : Step F F' Hs H') (e : r.still = some r') : ∃ F2, Step F F2 Hs H' ∧ Ex F' F2 ∧ r'.d = r.d ∧ ((∃ d, r' = .val d ∧ Rep K F2 d v) ∨ (∃ d, r' = .par d ∧ RepB K F2 H0 d v)) := by
  cases r with
  | val d => simp only [Rv.still, Option.some.injEq] at e; subst e; exact ⟨F', s, Ex.refl _, rfl, .inl ⟨d, rfl, h⟩⟩
  | own d =>
    simp only [Rv.still, Option.some.injEq] at e; subst e
    obtain ⟨F2, s2, e2, q⟩ := RvOk.stay (F0 := F) (r := .own d) h s rfl
    exact ⟨F2, s2, e2, rfl, .inl ⟨d, rfl, q⟩⟩
  | par d => simp only [Rv.still, Option.some.injEq] at e; subst e; exact ⟨F', s, Ex.refl _, rfl, .inr ⟨d, rfl, h⟩⟩
  | bor d =>
    simp only [Rv.still] at e
    split at e <;> simp only [Option.some.injEq, reduceCtorEq] at e
    subst e
    exact ⟨F', s, Ex.refl _, rfl, .inl ⟨d, rfl, RepB.flat (by assumption) h⟩⟩
theorem i_seq (he : PDe X W e te) : PDi X W tg e (dSeqI te) := by
  obtain ⟨t1, a1, a2⟩ := he
  refine ⟨_, pi_seq a1, fun ρ F0 H0 F σ H st => ?_⟩
  intro Q
  have z := a2 ρ F0 H0 F σ H st (fun x H1 => ∃ a, x = .ref a ∧ (((∃ xs, SqL X.K H1 a xs) ∧ Q (Itl X.K a) H1) ∨ ((∃ xs, SqT X.K H1 a xs) ∧ Q (Itt X.K a) H1)))
  unfold dSeqI
  cases e1 : te ρ with
  | bad => trivial
  | exc x => rw [e1] at z; exact z
  | ok r =>
    rw [e1] at z
    rw [R.bind_ok]
    cases e2 : r.items with
    | none => trivial
    | some ds =>
      refine fun k => z fun v F1 H1 s1 o => ?_
      obtain ⟨r', e3, e4⟩ := Option.bind_eq_some_iff.mp e2
      obtain ⟨F2, s2, ex, ed, q⟩ := RvOk.still o s1 e3
      have eb : Ex H0 H1 := st.base.trans s1.h
      rcases q with ⟨d, rfl, q⟩ | ⟨d, rfl, q⟩
      · cases d <;> simp only [Rv.d_val, itemsOf, Option.some.injEq, reduceCtorEq] at e4
        case lst xs =>
          subst e4
          simp only [Rep] at q
          obtain ⟨a, vs, rfl, q1, q2⟩ := q
          exact ⟨a, rfl, .inl ⟨⟨vs, SqL.of (s2.fr _ _ q1)⟩, k _ F2 H1 s2 (itOk_list (.inl (.inl q1)) q2)⟩⟩
        case tup xs =>
          subst e4
          simp only [Rep] at q
          obtain ⟨a, vs, rfl, q1, q2⟩ := q
          exact ⟨a, rfl, .inr ⟨⟨vs, Evl.ex_t s2.fr q1⟩, k _ F2 H1 s2 (itOk_tup q1 q2)⟩⟩
        case scr ns =>
          subst e4
          simp only [Rep] at q
          obtain ⟨a, rfl, q1⟩ := q
          exact ⟨a, rfl, .inl ⟨⟨_, Evl.ex_l s2.fr q1⟩, k _ F2 H1 s2 (itOk_scr (.inl q1))⟩⟩
      · cases d <;> simp only [Rv.d_par, itemsOf, Option.some.injEq, reduceCtorEq] at e4
        case lst xs =>
          subst e4
          simp only [RepB] at q
          obtain ⟨a, vs, rfl, q1, q2⟩ := q
          exact ⟨a, rfl, .inl ⟨⟨vs, SqL.of (eb _ _ q1)⟩, k _ F2 H1 s2 (itOk_list (.inr (.inl q1)) q2)⟩⟩
        case tup xs =>
          subst e4
          simp only [RepB] at q
          obtain ⟨a, vs, rfl, q1, q2⟩ := q
          exact ⟨a, rfl, .inr ⟨⟨vs, Evl.ex_t s2.fr q1⟩, k _ F2 H1 s2 (itOk_tup q1 q2)⟩⟩
        case scr ns =>
          subst e4
          simp only [RepB] at q
          obtain ⟨a, rfl, q1⟩ := q
          exact ⟨a, rfl, .inl ⟨⟨_, Evl.ex_l eb q1⟩, k _ F2 H1 s2 (itOk_scr (.inr q1))⟩⟩
/-- range -/
def rangeD (lo : Int) (n : Nat) : List D := (List.range n).map fun k => .int (lo + (k : Nat))
theorem itOk_range {K : PySem.W.Frag} {H0 F : Hp} {lo : Int} {n : Nat} : ItOk K H0 F (rangeD lo n) (Itr lo n) := by
  refine ⟨n, _, _, walk_range, by simp [rangeD], fun F' H' e1 e2 e3 => ⟨trivial, fun i x H2 hi hy => ?_⟩⟩
  obtain ⟨rfl, rfl⟩ := hy
  exact ⟨.int (lo + i), F', by simp [rangeD, hi], .refl e2, by simp only [Rep]⟩
def small (i : Int) : Prop := -4611686018427387904 ≤ i ∧ i < 4611686018427387904
noncomputable instance (i : Int) : Decidable (small i) := Classical.propDecidable _
noncomputable def rng1 : List D → Option (List D)
  | [.int j] => if small j then some (rangeD 0 j.toNat) else none
  | _ => none
noncomputable def rng2 : List D → Option (List D)
  | [.int i, .int j] => if small i ∧ small j then some (rangeD i (j - i).toNat) else none
  | _ => none
noncomputable def dRng1 (t : DA) : DI := fun ρ => (t ρ).bind fun xs => .of (rng1 xs)
noncomputable def dRng2 (t : DA) : DI := fun ρ => (t ρ).bind fun xs => .of (rng2 xs)
theorem args1 {K : PySem.W.Frag} {F H : Hp} {d : D} {vs : List V} (h : ArgsOk K F H [false] [d] vs) : ∃ v, vs = [v] ∧ RepB K F H d v := by
  obtain ⟨d', ds', v, vs', h1, h2, h3, h4, h5⟩ := h
  injection h1 with h1 h6
  subst h1 h5
  exact ⟨v, h2, by simpa using h3⟩
theorem args2 {K : PySem.W.Frag} {F H : Hp} {d e : D} {vs : List V} (h : ArgsOk K F H [false, false] [d, e] vs) : ∃ v u, vs = [v, u] ∧ RepB K F H d v ∧ RepB K F H e u := by
  obtain ⟨d', ds', v, vs', h1, h2, h3, h4⟩ := h
  injection h1 with h1 h6
  subst h1 h6
  obtain ⟨u, rfl, h7⟩ := args1 h4
  exact ⟨v, u, h2, by simpa using h3, h7⟩
theorem args3 {K : PySem.W.Frag} {F H : Hp} {d e f : D} {vs : List V} (h : ArgsOk K F H [false, false, false] [d, e, f] vs) : ∃ v u w, vs = [v, u, w] ∧ RepB K F H d v ∧ RepB K F H e u ∧ RepB K F H f w := by
  obtain ⟨d', ds', v, vs', h1, h2, h3, h4⟩ := h
  injection h1 with h1 h6
  subst h1 h6
  obtain ⟨u, w, rfl, h7, h8⟩ := args2 h4
  exact ⟨v, u, w, h2, by simpa using h3, h7, h8⟩
theorem i_range1 {a : Expr} {ta : DA} (hg : Gl X "range") (hm : X.mg "range" = none) (ha : PDas X W [a] [false] ta) (hs : starEach [a] X.env = [(false, eval a X.env)] := by rfl) : PDi X W tg (.Call (.Name "range" p) [a] [] pos) (dRng1 ta) := by
  obtain ⟨t1, a1, a2⟩ := ha
  refine ⟨_, pi_range1 hg hm a1 hs, fun ρ F0 H0 F σ H st => ?_⟩
  refine Bd.bind (te2 := fun vs H1 Q => ∃ j : Int, vs = [.int j] ∧ -(2 ^ 62) ≤ j ∧ j < 2 ^ 62 ∧ Q (Itr 0 j.toNat) H1) (a2 ρ F0 H0 F σ H st) fun xs vs F1 H1 _ s1 o => Bd.of fun ds e Q k => ?_
  unfold rng1 at e
  split at e
  case h_2 => cases e
  case h_1 _ j _ =>
    split at e
    case isFalse => cases e
    case isTrue hj =>
      injection e with e
      subst e
      obtain ⟨v, rfl, hv⟩ := args1 o
      simp only [RepB] at hv
      subst hv
      exact ⟨j, rfl, by have := hj.1; omega, by have := hj.2; omega, k _ F1 H1 (.refl s1.fr) itOk_range⟩
theorem i_range2 {a b : Expr} {ta : DA} (hg : Gl X "range") (hm : X.mg "range" = none) (ha : PDas X W [a, b] [false, false] ta) (hs : starEach [a, b] X.env = [(false, eval a X.env), (false, eval b X.env)] := by rfl) (hs2 : starEach [b] X.env = [(false, eval b X.env)] := by rfl) :
    PDi X W tg (.Call (.Name "range" p) [a, b] [] pos) (dRng2 ta) := by
  obtain ⟨t1, a1, a2⟩ := ha
  refine ⟨_, pi_range2 hg hm a1 hs hs2, fun ρ F0 H0 F σ H st => ?_⟩
  refine Bd.bind (te2 := fun vs H1 Q => ∃ i j : Int, vs = [.int i, .int j] ∧ (-(2 ^ 62) ≤ i ∧ i < 2 ^ 62 ∧ -(2 ^ 62) ≤ j ∧ j < 2 ^ 62) ∧ Q (Itr i (j - i).toNat) H1) (a2 ρ F0 H0 F σ H st) fun xs vs F1 H1 _ s1 o => Bd.of fun ds e Q k => ?_
  unfold rng2 at e
  split at e
  case h_2 => cases e
  case h_1 _ i j _ =>
    split at e
    case isFalse => cases e
    case isTrue hj =>
      injection e with e
      subst e
      obtain ⟨v, u, rfl, hv, hu⟩ := args2 o
      simp only [RepB] at hv hu
      subst hv hu
      exact ⟨i, j, rfl, ⟨by have := hj.1.1; omega, by have := hj.1.2; omega, by have := hj.2.1; omega, by have := hj.2.2; omega⟩, k _ F1 H1 (.refl s1.fr) itOk_range⟩
end

/-! ### targets -/
abbrev DG := D → Env → Option Env
/-- g stores by t, into the slots is alone -/
def TgOk (K : PySem.W.Frag) (g : TG) (t : DG) (is : List Nat) : Prop := ∀ ρ ρ' F0 H0 F σ H d v, StOk K ρ F0 H0 F σ H → Rep K F d v → t d ρ = some ρ' →
  ∀ Q : L2.St → Hp → Prop, (∀ σ', StOk K ρ' F0 H0 F σ' H → (∀ j, j ∉ is → σ'[j]? = σ[j]?) → σ'.length = σ.length → Q σ' H) → g v σ H Q
def tgName (i : Nat) : DG := fun d ρ => some (ρ.set i (some (.val d)))
theorem tg_name {K : PySem.W.Frag} (i : Nat) : TgOk K (gName i) (tgName i) [i] := by
  intro ρ ρ' F0 H0 F σ H d v st r e Q k
  simp only [tgName, Option.some.injEq] at e
  subst e
  refine k _ (st.put (fun _ => ⟨v, rfl, r⟩) fun _ _ _ h => by cases h) (fun j hj => ?_) (by rw [List.length_set])
  rw [List.getElem?_set_ne]
  intro h
  exact hj (by simp [h])
abbrev DGs := List D → Env → Option Env
def TgsOk (K : PySem.W.Frag) (g : TGs) (t : DGs) (is : List Nat) : Prop := ∀ ρ ρ' F0 H0 F σ H ds vs, StOk K ρ F0 H0 F σ H → Reps K F ds vs → t ds ρ = some ρ' →
  ∀ Q : L2.St → Hp → Prop, (∀ σ', StOk K ρ' F0 H0 F σ' H → (∀ j, j ∉ is → σ'[j]? = σ[j]?) → σ'.length = σ.length → Q σ' H) → g vs σ H Q
def tgsNil : DGs := fun ds ρ => match ds with
  | [] => some ρ
  | _ => none
def tgsCons (t : DG) (u : DGs) : DGs := fun ds ρ => match ds with
  | d :: r => (t d ρ).bind (u r)
  | [] => none
theorem tgs_nil {K : PySem.W.Frag} : TgsOk K gNil tgsNil [] := by
  intro ρ ρ' F0 H0 F σ H ds vs st r e Q k
  unfold tgsNil at e
  split at e
  · injection e with e
    subst e
    simp only [Reps] at r
    subst r
    exact ⟨rfl, k σ st (fun _ _ => rfl) rfl⟩
  · cases e
theorem tgs_cons {K : PySem.W.Frag} {g : TG} {gs : TGs} {t : DG} {u : DGs} {is js : List Nat} (h1 : TgOk K g t is) (h2 : TgsOk K gs u js) : TgsOk K (gCons g gs) (tgsCons t u) (is ++ js) := by
  intro ρ ρ' F0 H0 F σ H ds vs st r e Q k
  unfold tgsCons at e
  split at e
  · rename_i d rr
    obtain ⟨ρ1, e1, e2⟩ := Option.bind_eq_some_iff.mp e
    simp only [Reps] at r
    obtain ⟨v, vr, rfl, r1, r2⟩ := r
    refine ⟨v, vr, rfl, h1 ρ ρ1 F0 H0 F σ H d v st r1 e1 _ fun σ1 st1 q1 l1 => ?_⟩
    refine h2 ρ1 ρ' F0 H0 F σ1 H rr vr st1 r2 e2 Q fun σ2 st2 q2 l2 => k σ2 st2 (fun j hj => ?_) (l2.trans l1)
    rw [List.mem_append, not_or] at hj
    rw [q2 j hj.2, q1 j hj.1]
  · cases e
def tgTup (n : Nat) (u : DGs) : DG := fun d ρ => match d with
  | .tup ds => if ds.length = n then u ds ρ else none
  | _ => none
theorem tg_tup {K : PySem.W.Frag} {gs : TGs} {u : DGs} {js : List Nat} {n : Nat} (h : TgsOk K gs u js) : TgOk K (gTup K n gs) (tgTup n u) js := by
  intro ρ ρ' F0 H0 F σ H d v st r e Q k
  unfold tgTup at e
  split at e
  · rename_i ds
    split at e
    · simp only [Rep] at r
      obtain ⟨a, xs, rfl, q1, q2⟩ := r
      exact ⟨a, xs, rfl, Evl.ex_t st.fr q1, by rw [q2.length]; assumption, h ρ ρ' F0 H0 F σ H ds xs st q2 e Q k⟩
    · cases e
  · cases e

/-! ### for, while -/
def forGo (tg : DG) (b : DS) : List D → Env → RS
  | [], ρ => .nx ρ
  | d :: r, ρ => match tg d ρ with
    | none => .bad
    | some ρ1 => match b ρ1 with
      | .nx ρ2 => forGo tg b r ρ2
      | .cnt ρ2 => forGo tg b r ρ2
      | .brk ρ2 => .nx ρ2
      | x => x
def dFor (it : DI) (tg : DG) (b : DS) : DS := fun ρ => (it ρ).then ρ fun ds => forGo tg b ds ρ
theorem drop_cons {α : Type} {l : List α} {i : Nat} {x : α} (h : l[i]? = some x) : l.drop i = x :: l.drop (i + 1) := by
  obtain ⟨hi, e⟩ := List.getElem?_eq_some_iff.mp h
  rw [List.drop_eq_getElem_cons hi, e]
section
variable {X : Cx} {W : WX} {tg iter : Expr} {it : DI} {g : TG} {dt : DG} {is : List Nat} {b : DS} {body : List Stmt} {pos : Pos}
theorem bd_forR {K : PySem.W.Frag} {F0 H0 F : Hp} {tb : TS} {ds : List D} {J : It} {ρ : Env} {σ : L2.St} {H : Hp} (st : StOk K ρ F0 H0 F σ H) (it : ItOk K H0 F ds J) (gt : TgOk K g dt is)
    (hb : ∀ ρ F0 H0 F σ H, StOk K ρ F0 H0 F σ H → BdS K W F0 H0 F (b ρ) (fun De => tb De σ H)) :
    BdS K W F0 H0 F (forGo dt b ds ρ) (fun De => ∃ Wv : Nat → Nat → L2.St → Hp → Prop, (∃ m, Wv 0 m σ H) ∧ ∀ i m σ H, Wv i m σ H →
      (J.stop i H ∧ De.nx σ H) ∨ (J.go i H ∧ ∃ N : L2.St → Hp → Prop, (∀ σ' H', N σ' H' → ∃ m', m' < m ∧ Wv (i + 1) m' σ' H') ∧ ∀ x H', J.yld i H x H' → g x σ H' fun σ2 H2 => tb { De with nx := N, ct := N, bk := De.nx } σ2 H2)) := by
  intro De
  obtain ⟨n, G, Y, wk, hn, hit⟩ := it
  generalize hrs : forGo dt b ds ρ = rs
  have main : ∀ (fin : ∀ (rs : RS), rs ≠ .bad → Prop), True := fun _ => trivial
  -- the conditions of the end
  have key : (∀ F' σ' H', (∃ ρ', StOk K ρ' F0 H0 F' σ' H' ∧ rs = .nx ρ') → Ex F F' → De.nx σ' H') → (∀ v F' H' r, rs = .ret r → Step F0 F' H0 H' → RvOk K F' H0 H0 H' r v → De.rt v H') →
      (∀ x ρ' cls d F' σ' H', rs = .exc x ρ' → StOk K ρ' F0 H0 F' σ' H' → Ex F F' → ExcOk K F' H' x cls d → W cls d σ' H') → rs ≠ .bad → (∀ ρ', rs ≠ .brk ρ') → (∀ ρ', rs ≠ .cnt ρ') →
      ∃ Wv : Nat → Nat → L2.St → Hp → Prop, (∃ m, Wv 0 m σ H) ∧ ∀ i m σ H, Wv i m σ H →
      (J.stop i H ∧ De.nx σ H) ∨ (J.go i H ∧ ∃ N : L2.St → Hp → Prop, (∀ σ' H', N σ' H' → ∃ m', m' < m ∧ Wv (i + 1) m' σ' H') ∧ ∀ x H', J.yld i H x H' → g x σ H' fun σ2 H2 => tb { De with nx := N, ct := N, bk := De.nx } σ2 H2) := by
    intro k1 k2 k3 nb nk nc
    refine for_it wk (fun i σ' H' => ∃ ρi Fi, StOk K ρi F0 H0 Fi σ' H' ∧ Ex F Fi ∧ forGo dt b (ds.drop i) ρi = rs) ⟨ρ, F, st, Ex.refl _, hrs⟩ (fun i σ' H' _ ⟨ρi, Fi, s, e, _⟩ => (hit Fi H' e s.fr s.base).1) ?_ ?_
    · rintro i x σ1 H1 H2 hi ⟨ρi, Fi, s, e, r⟩ hy
      obtain ⟨d, F2, hd, st2, rd⟩ := (hit Fi H1 e s.fr s.base).2 i x H2 hi hy
      rw [drop_cons hd] at r
      have s2 := s.step st2
      unfold forGo at r
      cases e1 : dt d ρi with
      | none => rw [e1] at r; exact absurd r.symm nb
      | some ρ1 =>
        rw [e1] at r
        dsimp only at r
        refine gt ρi ρ1 F0 H0 F2 σ1 H2 d x s2 rd e1 _ fun σ2 s3 _ _ => ?_
        have z := hb ρ1 F0 H0 F2 σ2 H2 s3 { De with nx := fun σ' H' => ∃ ρi Fi, StOk K ρi F0 H0 Fi σ' H' ∧ Ex F Fi ∧ forGo dt b (ds.drop (i + 1)) ρi = rs, ct := fun σ' H' => ∃ ρi Fi, StOk K ρi F0 H0 Fi σ' H' ∧ Ex F Fi ∧ forGo dt b (ds.drop (i + 1)) ρi = rs, bk := De.nx }
        have e2 := e.trans st2.f
        cases e3 : b ρ1 with
        | bad => rw [e3] at r; exact absurd r.symm nb
        | nx ρ2 => rw [e3] at z r; exact z fun F' σ' H' a c => ⟨ρ2, F', a, e2.trans c, r⟩
        | cnt ρ2 => rw [e3] at z r; exact z fun F' σ' H' a c => ⟨ρ2, F', a, e2.trans c, r⟩
        | brk ρ2 => rw [e3] at z r; exact z fun F' σ' H' a c => k1 F' σ' H' ⟨ρ2, a, r.symm⟩ (e2.trans c)
        | ret rr => rw [e3] at z r; exact z fun v F' H' a c => k2 v F' H' rr r.symm a c
        | exc xx ρ2 => rw [e3] at z r; exact z fun cls dd F' σ' H' a c o => k3 xx ρ2 cls dd F' σ' H' r.symm a (e2.trans c) o
    · rintro σ1 H1 ⟨ρi, Fi, s, e, r⟩
      rw [List.drop_eq_nil_of_le (by omega)] at r
      exact k1 Fi σ1 H1 ⟨ρi, s, r.symm⟩ e
  have noBC : ∀ (l : List D) (ρ : Env) (ρ' : Env), forGo dt b l ρ ≠ .brk ρ' ∧ forGo dt b l ρ ≠ .cnt ρ' := by
    intro l
    induction l with
    | nil => intro ρ ρ'; constructor <;> (intro h; cases h)
    | cons d r ih =>
      intro ρ ρ'
      unfold forGo
      cases dt d ρ with
      | none => constructor <;> (intro h; cases h)
      | some ρ1 =>
        dsimp only
        cases b ρ1 with
        | nx ρ2 => exact ih ρ2 ρ'
        | cnt ρ2 => exact ih ρ2 ρ'
        | brk ρ2 => constructor <;> (intro h; cases h)
        | bad => constructor <;> (intro h; cases h)
        | ret _ => constructor <;> (intro h; cases h)
        | exc _ _ => constructor <;> (intro h; cases h)
  have nk : ∀ ρ', rs ≠ .brk ρ' := fun ρ' => hrs ▸ (noBC ds ρ ρ').1
  have nc : ∀ ρ', rs ≠ .cnt ρ' := fun ρ' => hrs ▸ (noBC ds ρ ρ').2
  cases rs with
  | bad => trivial
  | brk ρ' => exact absurd rfl (nk ρ')
  | cnt ρ' => exact absurd rfl (nc ρ')
  | nx ρ' => exact fun k => key (fun F' σ' H' ⟨ρ2, a, e⟩ x => by injection e with e; subst e; exact k F' σ' H' a x) (fun _ _ _ _ e => by cases e) (fun _ _ _ _ _ _ _ e => by cases e) (by simp) nk nc
  | ret r => exact fun k => key (fun F' σ' H' ⟨ρ2, a, e⟩ x => by cases e) (fun v F' H' r' e => by injection e with e; subst e; exact k v F' H') (fun _ _ _ _ _ _ _ e => by cases e) (by simp) nk nc
  | exc x ρ' => exact fun k => key (fun F' σ' H' ⟨ρ2, a, e⟩ x => by cases e) (fun v F' H' r' e => by cases e) (fun x' ρ2 cls d F' σ' H' e => by injection e with e1 e2; subst e1 e2; exact k cls d F' σ' H') (by simp) nk nc
theorem s_for (hp : PassesOwn (model X.prog X.w) X.A X.env X.xe) (hc : X.calm = true) (hi : PDi X W tg iter it) (hg : PG X tg g) (gt : TgOk X.K g dt is) (hb : PDss X W body b)
    (hs : ∀ x, foldedSetIterable iter X.env x = pure x := by intro _; rfl) : PDs X W (.For tg iter body [] pos) (dFor it dt b) := by
  obtain ⟨wi, i1, i2⟩ := hi
  obtain ⟨tb, b1, b2⟩ := hb
  refine ⟨_, ps_for hp hc i1 hg b1 hs, fun ρ F0 H0 F σ H s => ?_⟩
  exact BdS.of (f := fun ds => forGo dt b ds ρ) s (i2 ρ F0 H0 F σ H s) fun ds J F1 H1 _ s1 st o => bd_forR s1 o gt b2
/-- while: at most n turns -/
def whGo (c : DT) (b : DS) : Nat → Env → RS
  | 0, _ => .bad
  | n + 1, ρ => (c ρ).then ρ fun k => if k = true then (match b ρ with
    | .nx ρ2 => whGo c b n ρ2
    | .cnt ρ2 => whGo c b n ρ2
    | .brk ρ2 => .nx ρ2
    | x => x) else .nx ρ
def dWhile (n : Nat) (c : DT) (b : DS) : DS := whGo c b n
theorem s_while (n : Nat) {c : Expr} {tc : DT} (hp : PassesOwn (model X.prog X.w) X.A X.env X.xe) (hc : PDt X W c tc) (hb : PDss X W body b) : PDs X W (.While c body [] pos) (dWhile n tc b) := by
  obtain ⟨t0, c1, c2⟩ := hc
  obtain ⟨tb, b1, b2⟩ := hb
  refine ⟨_, ps_while hp c1 b1, fun ρ F0 H0 F σ H s De => ?_⟩
  unfold dWhile
  have noBC : ∀ (n : Nat) (ρ : Env) (ρ' : Env), whGo tc b n ρ ≠ .brk ρ' ∧ whGo tc b n ρ ≠ .cnt ρ' := by
    intro n
    induction n with
    | zero => intro ρ ρ'; constructor <;> (intro h; cases h)
    | succ n ih =>
      intro ρ ρ'
      unfold whGo
      cases tc ρ with
      | bad => constructor <;> (intro h; cases h)
      | exc x => constructor <;> (intro h; cases h)
      | ok k =>
        rw [R.then_ok]
        cases k with
        | false => constructor <;> (intro h; cases h)
        | true =>
          rw [if_pos rfl]
          cases b ρ with
          | nx ρ2 => exact ih ρ2 ρ'
          | cnt ρ2 => exact ih ρ2 ρ'
          | brk ρ2 => constructor <;> (intro h; cases h)
          | bad => constructor <;> (intro h; cases h)
          | ret _ => constructor <;> (intro h; cases h)
          | exc _ _ => constructor <;> (intro h; cases h)
  generalize hrs : whGo tc b n ρ = rs
  have nk : ∀ ρ', rs ≠ .brk ρ' := fun ρ' => hrs ▸ (noBC n ρ ρ').1
  have nc : ∀ ρ', rs ≠ .cnt ρ' := fun ρ' => hrs ▸ (noBC n ρ ρ').2
  have key : (∀ F' σ' H', (∃ ρ', StOk X.K ρ' F0 H0 F' σ' H' ∧ rs = .nx ρ') → Ex F F' → De.nx σ' H') → (∀ v F' H' r, rs = .ret r → Step F0 F' H0 H' → RvOk X.K F' H0 H0 H' r v → De.rt v H') →
      (∀ x ρ' cls d F' σ' H', rs = .exc x ρ' → StOk X.K ρ' F0 H0 F' σ' H' → Ex F F' → ExcOk X.K F' H' x cls d → W cls d σ' H') → rs ≠ .bad → tWhile t0 tb De σ H := by
    intro k1 k2 k3 nb
    refine ⟨fun m σ' H' => ∃ ρi Fi, StOk X.K ρi F0 H0 Fi σ' H' ∧ Ex F Fi ∧ whGo tc b m ρi = rs, ⟨n, ρ, F, s, Ex.refl _, hrs⟩, ?_⟩
    rintro m σ1 H1 ⟨ρi, Fi, s1, e, r⟩
    cases m with
    | zero => exact absurd r.symm nb
    | succ m =>
      unfold whGo at r
      have z := c2 ρi F0 H0 Fi σ1 H1 s1 (fun bb H2 => if bb = true then ∃ N : L2.St → Hp → Prop, (∀ σ' H', N σ' H' → ∃ m', m' < m + 1 ∧ ∃ ρi Fi, StOk X.K ρi F0 H0 Fi σ' H' ∧ Ex F Fi ∧ whGo tc b m' ρi = rs) ∧ tb { De with nx := N, ct := N, bk := De.nx } σ1 H2 else De.nx σ1 H2)
      cases e1 : tc ρi with
      | bad => rw [e1] at r; exact absurd r.symm nb
      | exc x =>
        rw [e1] at z r
        exact z fun cls d F' H' st o => k3 x ρi cls d F' σ1 H' r.symm (s1.step st) (e.trans st.f) o
      | ok k =>
        rw [e1] at z r
        rw [R.then_ok] at r
        refine z fun k' F2 H2 st hk => ?_
        subst hk
        cases k with
        | false =>
          rw [if_neg Bool.false_ne_true] at r ⊢
          exact k1 F2 σ1 H2 ⟨ρi, s1.step st, r.symm⟩ (e.trans st.f)
        | true =>
          rw [if_pos rfl] at r ⊢
          refine ⟨fun σ' H' => ∃ ρi Fi, StOk X.K ρi F0 H0 Fi σ' H' ∧ Ex F Fi ∧ whGo tc b m ρi = rs, fun σ' H' q => ⟨m, Nat.lt_succ_self m, q⟩, ?_⟩
          have y := b2 ρi F0 H0 F2 σ1 H2 (s1.step st) { De with nx := fun σ' H' => ∃ ρi Fi, StOk X.K ρi F0 H0 Fi σ' H' ∧ Ex F Fi ∧ whGo tc b m ρi = rs, ct := fun σ' H' => ∃ ρi Fi, StOk X.K ρi F0 H0 Fi σ' H' ∧ Ex F Fi ∧ whGo tc b m ρi = rs, bk := De.nx }
          have e2 := e.trans st.f
          cases e3 : b ρi with
          | bad => rw [e3] at r; exact absurd r.symm nb
          | nx ρ2 => rw [e3] at y r; exact y fun F' σ' H' a c => ⟨ρ2, F', a, e2.trans c, r⟩
          | cnt ρ2 => rw [e3] at y r; exact y fun F' σ' H' a c => ⟨ρ2, F', a, e2.trans c, r⟩
          | brk ρ2 => rw [e3] at y r; exact y fun F' σ' H' a c => k1 F' σ' H' ⟨ρ2, a, r.symm⟩ (e2.trans c)
          | ret rr => rw [e3] at y r; exact y fun v F' H' a c => k2 v F' H' rr r.symm a c
          | exc xx ρ2 => rw [e3] at y r; exact y fun cls dd F' σ' H' a c o => k3 xx ρ2 cls dd F' σ' H' r.symm a (e2.trans c) o
  cases rs with
  | bad => trivial
  | brk ρ' => exact absurd rfl (nk ρ')
  | cnt ρ' => exact absurd rfl (nc ρ')
  | nx ρ' => exact fun k => key (fun F' σ' H' ⟨ρ2, a, e⟩ x => by injection e with e; subst e; exact k F' σ' H' a x) (fun _ _ _ _ e => by cases e) (fun _ _ _ _ _ _ _ e => by cases e) (by simp)
  | ret r => exact fun k => key (fun F' σ' H' ⟨ρ2, a, e⟩ x => by cases e) (fun v F' H' r' e => by injection e with e; subst e; exact k v F' H') (fun _ _ _ _ _ _ _ e => by cases e) (by simp)
  | exc x ρ' => exact fun k => key (fun F' σ' H' ⟨ρ2, a, e⟩ x => by cases e) (fun v F' H' r' e => by cases e) (fun x' ρ2 cls d F' σ' H' e => by injection e with e1 e2; subst e1 e2; exact k cls d F' σ' H') (by simp)
end
end DL
set_option maxHeartbeats 4000000
namespace DL
open PySem L2 PyProof.Rows
open Evl (Ex)

/-! ### list comprehensions -/
def wipeE (ρ : Env) : List Nat → Env
  | [] => ρ
  | v :: vs => (wipeE ρ vs).set v none
theorem StOk.forget {K : PySem.W.Frag} {ρ : Env} {F0 H0 F : Hp} {σ : L2.St} {H : Hp} (i : Nat) (st : StOk K ρ F0 H0 F σ H) : StOk K (ρ.set i none) F0 H0 F (σ.set i none) H where
  base := st.base
  f0 := st.f0
  fr := st.fr
  new := st.new
  len := by rw [List.length_set, List.length_set, st.len]
  slot := fun j s' e => by
    by_cases h : i = j
    · subst h
      by_cases hl : i < ρ.length
      · rw [List.getElem?_set_self hl] at e; cases e
      · rw [List.getElem?_eq_none (by rw [List.length_set]; omega)] at e; cases e
    · rw [List.getElem?_set_ne h] at e ⊢
      exact st.slot j s' e
  dis := fun j k d e hjk h1 h2 => by
    have get : ∀ (n : Nat) (x : D), (ρ.set i none)[n]? = some (some (.acc x)) → ρ[n]? = some (some (.acc x)) ∧ (σ.set i none)[n]? = σ[n]? := fun n x hn => by
      by_cases h : i = n
      · subst h
        by_cases hl : i < ρ.length
        · rw [List.getElem?_set_self hl] at hn; cases hn
        · rw [List.getElem?_eq_none (by rw [List.length_set]; omega)] at hn; cases hn
      · rw [List.getElem?_set_ne h] at hn
        exact ⟨hn, List.getElem?_set_ne h⟩
    obtain ⟨a1, a2⟩ := get j d h1
    obtain ⟨b1, b2⟩ := get k e h2
    rw [a2, b2]
    exact st.dis j k d e hjk a1 b1
theorem StOk.wiped {K : PySem.W.Frag} {ρ : Env} {F0 H0 F : Hp} {σ : L2.St} {H : Hp} (st : StOk K ρ F0 H0 F σ H) : ∀ vs : List Nat, StOk K (wipeE ρ vs) F0 H0 F (wipe σ vs) H
  | [] => st
  | v :: vs => (st.wiped vs).forget v
theorem wipe_get {σ : L2.St} {vs : List Nat} {j : Nat} (h : j ∉ vs) : (wipe σ vs)[j]? = σ[j]? := by
  induction vs with
  | nil => rfl
  | cons v vs ih =>
    simp only [List.mem_cons, not_or] at h
    unfold wipe
    rw [List.getElem?_set_ne (fun z => h.1 z.symm), ih h.2]
theorem wipe_at {σ : L2.St} {vs : List Nat} {j : Nat} (h : j ∈ vs) (hl : j < σ.length) : (wipe σ vs)[j]? = some none := by
  induction vs with
  | nil => cases h
  | cons v vs ih =>
    unfold wipe
    by_cases hv : v = j
    · subst hv
      rw [List.getElem?_set_self (by rw [wipe_length]; exact hl)]
    · rw [List.getElem?_set_ne hv]
      rcases List.mem_cons.mp h with h | h
      · exact absurd h.symm hv
      · exact ih h
theorem wipe_eq {σ σ2 : L2.St} {vs is : List Nat} (hs : ∀ i ∈ is, i ∈ vs) (hl : σ2.length = σ.length) (h : ∀ j, j ∉ is → σ2[j]? = (wipe σ vs)[j]?) : wipe σ2 vs = wipe σ vs := by
  apply List.ext_getElem?
  intro j
  by_cases hj : j ∈ vs
  · by_cases hlt : j < σ.length
    · rw [wipe_at hj (by omega), wipe_at hj hlt]
    · rw [List.getElem?_eq_none (by rw [wipe_length]; omega), List.getElem?_eq_none (by rw [wipe_length]; omega)]
  · rw [wipe_get hj, h j fun z => hj (hs j z)]
/-- the clause's tests -/
def PDts (X : Cx) (W : WX) (es : List Expr) (t : DT) : Prop :=
  ∃ tt, PTs X es tt ∧ ∀ ρ F0 H0 F σ H, StOk X.K ρ F0 H0 F σ H → Bd X.K W σ F H (fun _ _ b c => b = c) (t ρ) (tt σ H)
def dYes : DT := fun _ => .ok true
abbrev W0 : WX := fun _ _ _ _ => False
theorem ts_nil {X : Cx} {W : WX} : PDts X W [] dYes := ⟨_, pts_nil, fun ρ F0 H0 F σ H st Q k => k true F H (.refl st.fr) rfl⟩
theorem ts_one {X : Cx} {W : WX} {e : Expr} {t : DT} (h : PDt X W e t) : PDts X W [e] t := by
  obtain ⟨t1, h1, h2⟩ := h
  exact ⟨_, pts_one h1, h2⟩
def compGo (tg : DG) (c : DT) (el : DE) (ρ : Env) : List D → R (List D)
  | [] => .ok []
  | d :: r => match tg d ρ with
    | none => .bad
    | some ρ1 => match c ρ1 with
      | .ok true => (match (el ρ1).bind fun r => R.of r.stay with
        | .ok y => (compGo tg c el ρ r).bind fun ys => .ok (y :: ys)
        | _ => .bad)
      | .ok false => compGo tg c el ρ r
      | _ => .bad
def dComp (it : DI) (vs : List Nat) (tg : DG) (c : DT) (el : DE) : DE := fun ρ => (it ρ).bind fun ds => if ds.length ≤ sizeLine then (compGo tg c el (wipeE ρ vs) ds).bind fun ys => .ok (.own (.lst ys)) else .bad
section
variable {X : Cx} {W : WX} {elt tg iter : Expr} {ifs : List Expr} {scope : Scope} {own : List (Str × Nat)} {pos : Pos} {it : DI} {dt : DG} {is : List Nat} {dc : DT} {de : DE} {g : TG}
theorem compGo_exc {tg : DG} {c : DT} {el : DE} {ρ : Env} : ∀ {ds : List D} {x : XC}, compGo tg c el ρ ds ≠ .exc x
  | [], x => by simp [compGo]
  | d :: r, x => by
    unfold compGo
    cases tg d ρ with
    | none => simp
    | some ρ1 =>
      dsimp only
      cases c ρ1 with
      | bad => simp
      | exc y => simp
      | ok b =>
        cases b with
        | false => exact compGo_exc
        | true =>
          dsimp only
          cases (el ρ1).bind fun r => R.of r.stay with
          | bad => simp
          | exc y => simp
          | ok y =>
            dsimp only
            intro h
            cases e : compGo tg c el ρ r with
            | ok ys => rw [e] at h; simp at h
            | bad => rw [e] at h; simp at h
            | exc z => exact compGo_exc e
/-- the loop of a comprehension -/
theorem bd_comp {K : PySem.W.Frag} {W : WX} {tt : TT} {te : TE} {vs : List Nat} (gt : TgOk K g dt is) (hv : ∀ i ∈ is, i ∈ vs)
    (ht : ∀ ρ F0 H0 F σ H, StOk K ρ F0 H0 F σ H → Bd K W0 σ F H (fun _ _ b c => b = c) (dc ρ) (tt σ H))
    (he : ∀ ρ F0 H0 F σ H, StOk K ρ F0 H0 F σ H → Bd K W0 σ F H (fun F' H' r v => RvOk K F' H0 H H' r v) (de ρ) (te σ H))
    {ρ : Env} {F0 H0 F : Hp} {σ : L2.St} {H : Hp} {ds : List D} {J : It} (st : StOk K ρ F0 H0 F σ H) (io : ItOk K H0 F ds J) (hz : ds.length ≤ sizeLine) :
    Bd K W σ F H (fun F' H' r v => RvOk K F' H0 H H' r v) ((compGo dt dc de (wipeE ρ vs) ds).bind fun ys => .ok (.own (.lst ys)))
      (fun Q => ∀ D, H D = none → ∃ Wv : Nat → Nat → Hp → Prop, (∃ m, Wv 0 m (upd H D (.lst []))) ∧ ∀ i m H, Wv i m H →
        (J.stop i H ∧ Q (V.ref D) H) ∨ (J.go i H ∧ ∃ Nx : Hp → Prop, (∀ H', Nx H' → ∃ m', m' < m ∧ Wv (i + 1) m' H') ∧ ∀ x H', J.yld i H x H' → g x (wipe σ vs) H' fun σ2 H2 => wipe σ2 vs = wipe σ vs ∧ tt σ2 H2 fun b H3 =>
          if b = true then te σ2 H3 fun y H4 => ∃ acc, H4 D = some (.lst acc) ∧ acc.length < sizeLine ∧ Nx (upd H4 D (.lst (acc ++ [y]))) else Nx H3)) := by
  intro Q
  cases e0 : compGo dt dc de (wipeE ρ vs) ds with
  | bad => trivial
  | exc x => exact absurd e0 compGo_exc
  | ok ys =>
    rw [R.bind_ok]
    intro k P hP
    obtain ⟨n, G, Y, wk, hn, hit⟩ := io
    -- Pv i: a heap that grows over upd H P (.lst []), the list at P beside
    refine lc_it wk (fun i H' => ∃ Fi acc dn, Step F Fi H H' ∧ Fi P = none ∧ H' P = some (.lst acc) ∧ Reps K Fi dn acc ∧ acc.length ≤ i ∧ ∃ r, compGo dt dc de (wipeE ρ vs) (ds.drop i) = .ok r ∧ ys = dn ++ r)
      ⟨F, [], [], Step.newH st.fr hP, Evl.fresh_back st.fr hP, upd_same, Reps.nil, Nat.le_refl _, ys, e0, rfl⟩ ?_ ?_ ?_
    · rintro i H' _ ⟨Fi, acc, dn, s, _⟩
      exact (hit Fi H' s.f s.fr (st.base.trans s.h)).1
    · rintro i x H1 H2 hi ⟨Fi, acc, dn, s, fP, hP1, ra, hl, r, er, ey⟩ hy
      obtain ⟨d, F2, hd, st2, rd⟩ := (hit Fi H1 s.f s.fr (st.base.trans s.h)).2 i x H2 hi hy
      rw [drop_cons hd] at er
      unfold compGo at er
      have sx : Step F F2 H H2 := s.trans st2
      have sw : StOk K (wipeE ρ vs) F0 H0 F2 (wipe σ vs) H2 := (st.step sx).wiped vs
      cases e1 : dt d (wipeE ρ vs) with
      | none => rw [e1] at er; cases er
      | some ρ1 =>
        rw [e1] at er
        dsimp only at er
        refine gt _ ρ1 F0 H0 F2 (wipe σ vs) H2 d x sw rd e1 _ fun σ2 st3 q2 l2 => ⟨wipe_eq hv (l2.trans (wipe_length σ vs)) q2, ?_⟩
        have z1 := ht ρ1 F0 H0 F2 σ2 H2 st3
        cases e2 : dc ρ1 with
        | bad => rw [e2] at er; cases er
        | exc y => rw [e2] at er; cases er
        | ok b =>
          rw [e2] at er
          refine (show ∀ Q : Bool → Hp → Prop, (∀ c F3 H3, Step F2 F3 H2 H3 → b = c → Q c H3) → tt σ2 H2 Q from fun Q => by have q := z1 Q; rw [e2] at q; exact q) _ fun c F3 H3 s3 hc => ?_
          subst hc
          have fP2 := st2.keepN fP hP1
          have hP2 := st2.h _ _ hP1
          have fP3 := s3.keepN fP2 hP2
          have hP3 := s3.h _ _ hP2
          cases b with
          | false =>
            rw [if_neg Bool.false_ne_true]
            exact ⟨F3, acc, dn, sx.trans s3, fP3, hP3, (ra.mono st2.f).mono s3.f, by omega, r, er, ey⟩
          | true =>
            rw [if_pos rfl]
            dsimp only at er
            cases e4 : de ρ1 with
            | bad => rw [e4] at er; cases er
            | exc y => rw [e4] at er; cases er
            | ok rv =>
              rw [e4, R.bind_ok] at er
              cases e5 : rv.stay with
              | none => rw [e5] at er; cases er
              | some yv =>
                rw [e5, R.of_some] at er
                dsimp only at er
                have z2 := he ρ1 F0 H0 F3 σ2 H3 (st3.step s3)
                refine (show ∀ Q : V → Hp → Prop, (∀ v F4 H4, Step F3 F4 H3 H4 → RvOk K F4 H0 H3 H4 rv v → Q v H4) → te σ2 H3 Q from fun Q => by have q := z2 Q; rw [e4] at q; exact q) _ fun v F4 H4 s4 o4 => ?_
                obtain ⟨F5, s5, _, q5⟩ := RvOk.stay (F0 := F) o4 s4 e5
                have fP5 := s5.keepN fP3 hP3
                have hP5 := s5.h _ _ hP3
                have sy := (sx.trans s3).trans s5
                refine ⟨acc, hP5, by omega, F5, acc ++ [v], dn ++ [yv], ⟨Ex.mut sy.h hP, sy.f, Ex.mut sy.fr fP5, sy.new⟩, fP5, upd_same, (((ra.mono st2.f).mono s3.f).mono s5.f).append (Reps.cons q5 Reps.nil), by rw [List.length_append, List.length_singleton]; omega, ?_⟩
                cases e6 : compGo dt dc de (wipeE ρ vs) (ds.drop (i + 1)) with
                | bad => rw [e6] at er; cases er
                | exc y => rw [e6] at er; cases er
                | ok r' =>
                  rw [e6, R.bind_ok] at er
                  injection er with er
                  subst er
                  exact ⟨r', rfl, by rw [ey, List.append_assoc]; rfl⟩
    · rintro H' ⟨Fi, acc, dn, s, fP, hP1, ra, hl, r, er, ey⟩
      rw [List.drop_eq_nil_of_le (by omega)] at er
      simp only [compGo, R.ok.injEq] at er
      subst er
      rw [List.append_nil] at ey
      subst ey
      exact k _ Fi H' s ⟨P, rfl, hP, fP, rfl, ⟨_, hP1⟩, ⟨P, acc, rfl, hP1, ra⟩⟩

/-- one reading for all blocks -/
theorem unif_e {ι : Type} {Y : ι → Cx} {K : PySem.W.Frag} {e : Expr} {t : DE} (hK : ∀ i, (Y i).K = K) (h : ∀ i, PDe (Y i) W e t) :
    ∃ te, (∀ i, PE (Y i) e te) ∧ ∀ ρ F0 H0 F σ H, StOk K ρ F0 H0 F σ H → Bd K W σ F H (fun F' H' r v => RvOk K F' H0 H H' r v) (t ρ) (te σ H) := by
  refine ⟨fun σ H Q => ∀ i te, PE (Y i) e te → (∀ ρ F0 H0 F σ H, StOk K ρ F0 H0 F σ H → Bd K W σ F H (fun F' H' r v => RvOk K F' H0 H H' r v) (t ρ) (te σ H)) → te σ H Q, fun i => ⟨fun pins s σ H Q I q => ?_⟩, fun ρ F0 H0 F σ H st Q => ?_⟩
  · obtain ⟨te, h1, h2⟩ := h i
    rw [hK i] at h2
    exact h1.run pins s σ H Q I (q i te h1 h2)
  · cases e1 : t ρ with
    | bad => trivial
    | ok r => exact fun k i te _ h2 => by have z := h2 ρ F0 H0 F σ H st Q; rw [e1] at z; exact z k
    | exc x => exact fun k i te _ h2 => by have z := h2 ρ F0 H0 F σ H st Q; rw [e1] at z; exact z k
theorem unif_ts {ι : Type} {Y : ι → Cx} {K : PySem.W.Frag} {es : List Expr} {t : DT} (hK : ∀ i, (Y i).K = K) (h : ∀ i, PDts (Y i) W es t) :
    ∃ tt, (∀ i, PTs (Y i) es tt) ∧ ∀ ρ F0 H0 F σ H, StOk K ρ F0 H0 F σ H → Bd K W σ F H (fun _ _ b c => b = c) (t ρ) (tt σ H) := by
  refine ⟨fun σ H Q => ∀ i tt, PTs (Y i) es tt → (∀ ρ F0 H0 F σ H, StOk K ρ F0 H0 F σ H → Bd K W σ F H (fun _ _ b c => b = c) (t ρ) (tt σ H)) → tt σ H Q, fun i => ⟨fun pins s σ H Q I q => ?_⟩, fun ρ F0 H0 F σ H st Q => ?_⟩
  · obtain ⟨te, h1, h2⟩ := h i
    rw [hK i] at h2
    exact h1.run pins s σ H Q I (q i te h1 h2)
  · cases e1 : t ρ with
    | bad => trivial
    | ok r => exact fun k i te _ h2 => by have z := h2 ρ F0 H0 F σ H st Q; rw [e1] at z; exact z k
    | exc x => exact fun k i te _ h2 => by have z := h2 ρ F0 H0 F σ H st Q; rw [e1] at z; exact z k
abbrev Blk := Shared × Hp × Addr × List (Str × Addr) × List Addr
abbrev blkOf (X : Cx) (scope : Scope) (b : Blk) : Cx := X.blk b.1 b.2.1 scope (compEnvC scope b.2.2.2.1 b.2.2.1 X.env) b.2.2.2.2
theorem bd_lc (hc : X.calm = true) (hN : X.N.Nodup) (hi : PDi X W tg iter it) (ok : BlkOk X.N X.env.scope scope own) (gt : TgOk X.K g dt is) (hv : ∀ i ∈ is, i ∈ own.map (·.2))
    (hg : ∀ b : Blk, PG (blkOf X scope b) tg g) (ht : ∀ b : Blk, PDts (blkOf X scope b) W0 ifs dc) (he : ∀ b : Blk, PDe (blkOf X scope b) W0 elt de) :
    ∃ wi tt te, PI X tg iter wi ∧ (∀ b : Blk, PTs (blkOf X scope b) ifs tt) ∧ (∀ b : Blk, PE (blkOf X scope b) elt te) ∧
      ∀ ρ F0 H0 F σ H, StOk X.K ρ F0 H0 F σ H → Bd X.K W σ F H (fun F' H' r v => RvOk X.K F' H0 H H' r v) (dComp it (own.map (·.2)) dt dc de ρ) (tLc wi g tt te (own.map (·.2)) σ H) := by
  obtain ⟨wi, i1, i2⟩ := hi
  obtain ⟨tt, t1, t2⟩ := unif_ts (Y := blkOf X scope) (K := X.K) (fun _ => rfl) ht
  obtain ⟨te, e1, e2⟩ := unif_e (Y := blkOf X scope) (K := X.K) (fun _ => rfl) he
  refine ⟨wi, tt, te, i1, t1, e1, fun ρ F0 H0 F σ H st => ?_⟩
  refine Bd.bind (te2 := fun (J : It) (H1 : Hp) (Q : V → Hp → Prop) => ∀ D, H1 D = none → ∃ Wv : Nat → Nat → Hp → Prop, (∃ m, Wv 0 m (upd H1 D (.lst []))) ∧ ∀ i m H, Wv i m H →
        (J.stop i H ∧ Q (V.ref D) H) ∨ (J.go i H ∧ ∃ Nx : Hp → Prop, (∀ H', Nx H' → ∃ m', m' < m ∧ Wv (i + 1) m' H') ∧ ∀ x H', J.yld i H x H' → g x (wipe σ (own.map (·.2))) H' fun σ2 H2 => wipe σ2 (own.map (·.2)) = wipe σ (own.map (·.2)) ∧ tt σ2 H2 fun b H3 =>
          if b = true then te σ2 H3 fun y H4 => ∃ acc, H4 D = some (.lst acc) ∧ acc.length < sizeLine ∧ Nx (upd H4 D (.lst (acc ++ [y]))) else Nx H3)) (i2 ρ F0 H0 F σ H st) fun ds J F1 H1 _ s1 o => ?_
  by_cases hz : ds.length ≤ sizeLine
  · rw [if_pos hz]
    exact (bd_comp (W := W) gt hv t2 e2 (st.step s1) o hz).imp fun _ _ _ _ _ o => o.start s1.h
  · rw [if_neg hz]
    exact fun _ => trivial
theorem pd_comp (hc : X.calm = true) (hN : X.N.Nodup) (hi : PDi X W tg iter it) (ok : BlkOk X.N X.env.scope scope own) (gt : TgOk X.K g dt is) (hv : ∀ i ∈ is, i ∈ own.map (·.2))
    (hg : ∀ b : Blk, PG (blkOf X scope b) tg g) (ht : ∀ b : Blk, PDts (blkOf X scope b) W0 ifs dc) (he : ∀ b : Blk, PDe (blkOf X scope b) W0 elt de)
    (hs : ∀ x, foldedSetIterable iter X.env x = pure x := by intro _; rfl) : PDe X W (.ListComp elt [⟨tg, iter, ifs, 0⟩] scope pos) (dComp it (own.map (·.2)) dt dc de) := by
  obtain ⟨wi, tt, te, i1, t1, e1, h⟩ := bd_lc hc hN hi ok gt hv hg ht he
  exact ⟨_, pe_lc hc hN i1 ok (fun s H C cl fp => hg (s, H, C, cl, fp)) (fun s H C cl fp => t1 (s, H, C, cl, fp)) (fun s H C cl fp => e1 (s, H, C, cl, fp)) hs, h⟩
/-- name = [..] -/
theorem s_setLc {i : Nat} {y : Str} {py spos : Pos} (hc : X.calm = true) (hN : X.N.Nodup) (hy : X.N[i]? = some y) (hyl : X.env.scope.names.lookup y = some .local)
    (hsw : swapsWith (.ListComp elt [⟨tg, iter, ifs, 0⟩] scope pos) (some (.Name y py)) spos.line X.env = pure true) (hi : PDi X W tg iter it) (ok : BlkOk X.N X.env.scope scope own) (gt : TgOk X.K g dt is) (hv : ∀ i ∈ is, i ∈ own.map (·.2))
    (hg : ∀ b : Blk, PG (blkOf X scope b) tg g) (ht : ∀ b : Blk, PDts (blkOf X scope b) W0 ifs dc) (he : ∀ b : Blk, PDe (blkOf X scope b) W0 elt de)
    (hs : ∀ x, foldedSetIterable iter X.env x = pure x := by intro _; rfl) : PDs X W (.Assign [.Name y py] (.ListComp elt [⟨tg, iter, ifs, 0⟩] scope pos) spos) (dSet i (dComp it (own.map (·.2)) dt dc de)) := by
  obtain ⟨wi, tt, te, i1, t1, e1, h⟩ := bd_lc hc hN hi ok gt hv hg ht he
  refine ⟨_, ps_setLc hc hN hy hyl hsw i1 ok (fun s H C cl fp => hg (s, H, C, cl, fp)) (fun s H C cl fp => t1 (s, H, C, cl, fp)) (fun s H C cl fp => e1 (s, H, C, cl, fp)) hs, fun ρ F0 H0 F σ H s => ?_⟩
  refine BdS.of (ts := fun y H1 De => De.nx (σ.set i (some y)) H1) s (h ρ F0 H0 F σ H s) fun r y F1 H1 _ s1 st o => ?_
  cases e2 : r.slot with
  | none => exact BdS.bad
  | some sl => exact BdS.nx (s.store st o e2) (Ex.refl _)
theorem s_setLcV {i : Nat} {y : Str} {py spos : Pos} (hc : X.calm = true) (hN : X.N.Nodup) (hy : X.N[i]? = some y) (hyl : X.env.scope.names.lookup y = some .local)
    (hsw : swapsWith (.ListComp elt [⟨tg, iter, ifs, 0⟩] scope pos) (some (.Name y py)) spos.line X.env = pure true) (hi : PDi X W tg iter it) (ok : BlkOk X.N X.env.scope scope own) (gt : TgOk X.K g dt is) (hv : ∀ i ∈ is, i ∈ own.map (·.2))
    (hg : ∀ b : Blk, PG (blkOf X scope b) tg g) (ht : ∀ b : Blk, PDts (blkOf X scope b) W0 ifs dc) (he : ∀ b : Blk, PDe (blkOf X scope b) W0 elt de)
    (hs : ∀ x, foldedSetIterable iter X.env x = pure x := by intro _; rfl) : PDs X W (.Assign [.Name y py] (.ListComp elt [⟨tg, iter, ifs, 0⟩] scope pos) spos) (dSetV i (dComp it (own.map (·.2)) dt dc de)) := by
  obtain ⟨wi, tt, te, i1, t1, e1, h⟩ := bd_lc hc hN hi ok gt hv hg ht he
  refine ⟨_, ps_setLc hc hN hy hyl hsw i1 ok (fun s H C cl fp => hg (s, H, C, cl, fp)) (fun s H C cl fp => t1 (s, H, C, cl, fp)) (fun s H C cl fp => e1 (s, H, C, cl, fp)) hs, fun ρ F0 H0 F σ H s => ?_⟩
  exact BdS.of (ts := fun y H1 De => De.nx (σ.set i (some y)) H1) s (h ρ F0 H0 F σ H s) fun r y F1 H1 _ s1 st o => bds_stay s s1 st o
end

/-! ### defs -/
def startE (ms : List Bool) (n : Nat) (ds : List D) : Env := (ms.zip ds).map (fun p => some (if p.1 = true then Slot.val p.2 else Slot.par p.2)) ++ List.replicate (n - ds.length) none
def RS.end : RS → R Rv
  | .nx _ => .ok (.val .non)
  | .ret r => .ok r
  | .exc x _ => .exc x
  | _ => .bad
/-- what a def computes -/
def runD (t : DS) (ms : List Bool) (n : Nat) (ds : List D) : R Rv := (t (startE ms n ds)).end
theorem ArgsOk.lens {K : PySem.W.Frag} {F H : Hp} : ∀ {ms : List Bool} {ds : List D} {vs : List V}, ArgsOk K F H ms ds vs → ds.length = ms.length ∧ vs.length = ms.length
  | [], _, _, h => by obtain ⟨rfl, rfl⟩ := h; exact ⟨rfl, rfl⟩
  | m :: ms, _, _, h => by
    obtain ⟨d, ds', v, vs', rfl, rfl, h3, h4⟩ := h
    obtain ⟨a, b⟩ := h4.lens
    exact ⟨by simp [a], by simp [b]⟩
theorem ArgsOk.start {K : PySem.W.Frag} {F H : Hp} : ∀ {ms : List Bool} {ds : List D} {vs : List V}, ArgsOk K F H ms ds vs → ∀ (i : Nat) (s : Slot), ((ms.zip ds).map (fun p => some (if p.1 = true then Slot.val p.2 else Slot.par p.2)))[i]? = some (some s) → SlotOk K F H H (vs.map some)[i]? s ∧ ∀ d, s ≠ .acc d
  | [], _, _, h, i, s, e => by simp at e
  | m :: ms, _, _, h, i, s, e => by
    obtain ⟨d, ds', v, vs', rfl, rfl, h3, h4⟩ := h
    cases i with
    | zero =>
      simp only [List.zip_cons_cons, List.map_cons, List.getElem?_cons_zero, Option.some.injEq] at e ⊢
      subst e
      cases m with
      | true => simp only [if_true] at h3 ⊢; exact ⟨⟨v, rfl, h3⟩, fun _ h => by cases h⟩
      | false => simp only [Bool.false_eq_true, if_false] at h3 ⊢; exact ⟨⟨v, rfl, h3⟩, fun _ h => by cases h⟩
    | succ i =>
      simp only [List.zip_cons_cons, List.map_cons, List.getElem?_cons_succ] at e ⊢
      exact h4.start i s e
theorem stOk_start {K : PySem.W.Frag} {F H : Hp} {ms : List Bool} {ds : List D} {vs : List V} {N : List Str} (h : ArgsOk K F H ms ds vs) (e : Ex F H) : StOk K (startE ms N.length ds) F H F (L2.start N vs) H := by
  obtain ⟨l1, l2⟩ := h.lens
  have lz : ((ms.zip ds).map (fun p => some (if p.1 = true then Slot.val p.2 else Slot.par p.2))).length = ms.length := by simp [List.length_zip]; omega
  have none_of : ∀ (i : Nat) (s : Slot), (startE ms N.length ds)[i]? = some (some s) → ((ms.zip ds).map (fun p => some (if p.1 = true then Slot.val p.2 else Slot.par p.2)))[i]? = some (some s) := fun i s q => by
    unfold startE at q
    by_cases hi : i < ms.length
    · rw [List.getElem?_append_left (by omega)] at q; exact q
    · rw [List.getElem?_append_right (by omega), List.getElem?_replicate] at q
      split at q <;> cases q
  refine ⟨Ex.refl _, Ex.refl _, e, fun a q => .inl q, ?_, fun i s q => ?_, fun i j d e' _ q1 _ => ?_⟩
  · unfold startE L2.start
    simp [List.length_zip]
    omega
  · have q2 := none_of i s q
    obtain ⟨z, _⟩ := h.start i s q2
    have hi : i < ms.length := by have := (List.getElem?_eq_some_iff.mp q2).1; omega
    unfold L2.start
    rw [List.getElem?_append_left (by simp; omega)]
    exact z
  · exact absurd rfl ((h.start i _ (none_of i _ q1)).2 d)
section
variable {P : Program} {w : World} {K : PySem.W.Frag} {mg : Str → Option Value} {base : Heap}
abbrev FnD (P : Program) (w : World) (K : PySem.W.Frag) (mg : Str → Option Value) (base : Heap) (k : Nat) (f : Addr) (fd : FuncData) (ps : List Str) (ms : List Bool) (m : List D → R Rv) : Prop :=
  FnOk P w K mg base (L2.CX P w) k f fd ps (SpD K ms m)
/-- the context of a def's body -/
abbrev cxD (P : Program) (w : World) (K : PySem.W.Frag) (mg : Str → Option Value) (base : Heap) (N : List Str) (qual : Str) (st : Stmt) (f : Addr) (cdv : Value) (A : Around) (outer : List PySem.Env) (s : Shared) (H : Hp) (E : XK) : Cx :=
  cxOf (L2.CX P w) P w K mg base N qual (defScope st) f cdv A outer s H E
theorem fn_d {x qual : Str} {st : Stmt} {f : Addr} {fd : FuncData} {N ps : List Str} {k : Nat} {ms : List Bool} {t : DS} {m : List D → R Rv} (F : Fun K x qual st f fd) (S : FnScope N ps (defScope st)) (hms : ms.length = ps.length)
    (hm : ∀ ds, ds.length = ms.length → m ds ≠ .bad → runD t ms N.length ds = m ds)
    (hbody : ∀ (cdv : Value) (A : Around) (outer : List PySem.Env) (s : Shared) (H : Hp) (E : XK), Room k (A.deeper (envOfC qual (defScope st) s.heap.objs.size f cdv)) →
      PDss (cxD P w K mg base N qual st f cdv A outer s H E) (fun cls d _ H' => E cls d H') (defBody st) t) : FnD P w K mg base (k + 1) f fd ps ms m := by
  refine F.okX S (fun vs H Q E h => ?_) (fun cdv A outer s H vs Q E hr h => ?_)
  · obtain ⟨F1, ds, e, ha, _⟩ := h
    exact (ha.lens.2).trans hms
  · obtain ⟨F1, ds, e, ha, hq⟩ := h
    obtain ⟨ts, h1, h2⟩ := hbody cdv A outer s H E hr
    refine ⟨ts, h1, ?_⟩
    have z := h2 _ F1 H F1 _ H (stOk_start (N := N) ha e) { nx := fun _ H' => Q .non H', rt := Q }
    have nb : m ds ≠ .bad := fun q => by rw [q] at hq; exact hq
    have em := hm ds ha.lens.1 nb
    unfold runD at em
    rw [← em] at hq
    cases e3 : t (startE ms N.length ds) with
    | bad => rw [e3] at hq; exact hq.elim
    | brk _ => rw [e3] at hq; exact hq.elim
    | cnt _ => rw [e3] at hq; exact hq.elim
    | nx ρ' => rw [e3] at hq z; exact z fun F' σ' H' s' _ => hq .non F' H' ⟨s'.base, s'.f0, s'.fr, s'.new⟩ (show Rep K F' .non .non by simp only [Rep])
    | ret r => rw [e3] at hq z; exact z fun v F' H' s' o => hq v F' H' s' o
    | exc x ρ' => rw [e3] at hq z; exact z fun cls d F' σ' H' s' _ o => hq cls d F' H' ⟨s'.base, s'.f0, s'.fr, s'.new⟩ o
end
end DL
set_option maxHeartbeats 4000000
namespace DL
open PySem L2 PyProof.Rows
open Evl (Ex)

/-! ### operators by data -/
section
variable {K : PySem.W.Frag} {F H : Hp} {x : V}
@[simp] theorem repB_int {i : Int} : RepB K F H (.int i) x ↔ x = .int i := Iff.rfl
@[simp] theorem repB_bl {i : Bool} : RepB K F H (.bl i) x ↔ x = .bl i := Iff.rfl
@[simp] theorem repB_non : RepB K F H .non x ↔ x = .non := Iff.rfl
@[simp] theorem repB_str {i : Str} : RepB K F H (.str i) x ↔ x = .str i := Iff.rfl
theorem rv_int {H0 Hs : Hp} {i : Int} : RvOk K F H0 Hs H (.val (.int i)) (.int i) := by simp only [RvOk, Rep]
theorem rv_bl {H0 Hs : Hp} {i : Bool} : RvOk K F H0 Hs H (.val (.bl i)) (.bl i) := by simp only [RvOk, Rep]
theorem rv_str {H0 Hs : Hp} {i : Str} : RvOk K F H0 Hs H (.val (.str i)) (.str i) := by simp only [RvOk, Rep]
end
section
variable {K : PySem.W.Frag}
/-! #### + -/
def gAdd : D → D → Option Rv
  | .int i, .int j => some (.val (.int (i + j)))
  | .lst xs, .lst ys => if xs.length + ys.length ≤ sizeLine then some (.own (.lst (xs ++ ys))) else none
  | .tup xs, .tup ys => if xs.length + ys.length ≤ sizeLine then some (.val (.tup (xs ++ ys))) else none
  | .str a, .str b => if a.length + b.length ≤ sizeLine then some (.val (.str (a ++ b))) else none
  | _, _ => none
def rAddA (K : PySem.W.Frag) : R2 := fun x y H Q => rI0 (fun i j => .int (i + j)) x y H Q ∨ rCat x y H Q ∨ rCatA K x y H Q ∨ (∃ i j, x = .str i ∧ y = .str j ∧ i.length + j.length ≤ sizeLine ∧ Q (.str (i ++ j)) H)
theorem op_addA {X : Cx} : OpR X (binaryOp .Add) (rAddA X.K) := op_add.or (op_cat.or (op_catA.or op_add_str))
theorem opS_add : OpS K (rAddA K) gAdd := by
  intro F H0 H dx dy x y rv e hx hy g Q k
  unfold gAdd at g
  split at g
  case h_1 i j => injection g with g; subst g; exact .inl ⟨i, j, hx, hy, k _ F H (.refl e) rv_int⟩
  case h_2 xs ys =>
    split at g
    case isFalse => cases g
    case isTrue hz =>
      injection g with g; subst g
      obtain ⟨a, us, rfl, h1, h2⟩ := hx
      obtain ⟨b, vs, rfl, h3, h4⟩ := hy
      exact .inr (.inl ⟨a, b, us, vs, rfl, rfl, h1, h3, by rw [h2.length, h4.length]; exact hz, fun p hp => k _ F _ (Step.newH e hp) ⟨p, rfl, hp, Evl.fresh_back e hp, rfl, ⟨_, upd_same⟩, ⟨p, _, rfl, upd_same, h2.append h4⟩⟩⟩)
  case h_3 xs ys =>
    split at g
    case isFalse => cases g
    case isTrue hz =>
      injection g with g; subst g
      obtain ⟨a, us, rfl, h1, h2⟩ := hx
      obtain ⟨b, vs, rfl, h3, h4⟩ := hy
      refine .inr (.inr (.inl ⟨a, b, us, vs, rfl, rfl, Evl.ex_t e h1, Evl.ex_t e h3, by rw [h2.length, h4.length]; exact hz, fun hx => ?_, fun _ hy => ?_, fun _ _ p hp => ?_⟩))
      · subst hx
        have : xs = [] := by have := h2.length; exact List.eq_nil_of_length_eq_zero (by simpa using this.symm)
        subst this
        exact k _ F H (.refl e) (show Rep K F (.tup _) _ by simp only [Rep]; exact ⟨b, vs, rfl, h3, h4⟩)
      · subst hy
        have : ys = [] := by have := h4.length; exact List.eq_nil_of_length_eq_zero (by simpa using this.symm)
        subst this
        exact k _ F H (.refl e) (show Rep K F (.tup _) _ by simp only [Rep]; exact ⟨a, us, rfl, h1, by rw [List.append_nil]; exact h2⟩)
      · exact k _ _ _ (Step.newF e hp) (show Rep K _ (.tup _) _ by simp only [Rep]; exact ⟨p, _, rfl, SqT.of upd_same, (h2.append h4).mono (Ex.new (Evl.fresh_back e hp))⟩)
  case h_4 a b =>
    split at g
    case isFalse => cases g
    case isTrue hz => injection g with g; subst g; exact .inr (.inr (.inr ⟨a, b, hx, hy, hz, k _ F H (.refl e) rv_str⟩))
  case h_5 => cases g
/-! #### -, *, //, %, ** -/
def gSub : D → D → Option Rv
  | .int i, .int j => some (.val (.int (i - j)))
  | _, _ => none
theorem opS_sub : OpS K (rI0 fun i j => .int (i - j)) gSub := by
  intro F H0 H dx dy x y rv e hx hy g Q k
  unfold gSub at g
  split at g
  case h_2 => cases g
  case h_1 i j => injection g with g; subst g; exact ⟨i, j, hx, hy, k _ F H (.refl e) rv_int⟩
def mulOk (i j : Int) : Prop := CMul i j ∨ CMulW i j
noncomputable instance (i j : Int) : Decidable (mulOk i j) := Classical.propDecidable _
noncomputable def gMul : D → D → Option Rv
  | .int i, .int j => if mulOk i j then some (.val (.int (i * j))) else none
  | .lst xs, .int k => if -(2 ^ 63) ≤ k ∧ k < 2 ^ 63 ∧ xs.length * k.toNat ≤ sizeLine then some (.own (.lst (List.replicate k.toNat xs).flatten)) else none
  | _, _ => none
def rMulA : R2 := fun x y H Q => rI CMul (fun i j => .int (i * j)) x y H Q ∨ rI CMulW (fun i j => .int (i * j)) x y H Q ∨ rRep x y H Q
theorem op_mulA {X : Cx} : OpR X (binaryOp .Mult) rMulA := op_mul.or (op_mulW.or op_rep)
theorem Reps.replicate {F : Hp} {ds : List D} {vs : List V} (h : Reps K F ds vs) : ∀ n, Reps K F (List.replicate n ds).flatten (List.replicate n vs).flatten
  | 0 => by simp [Reps.nil]
  | n + 1 => by rw [List.replicate_succ, List.replicate_succ, List.flatten_cons, List.flatten_cons]; exact h.append (Reps.replicate h n)
theorem opS_mul : OpS K rMulA gMul := by
  intro F H0 H dx dy x y rv e hx hy g Q k
  unfold gMul at g
  split at g
  case h_1 i j =>
    split at g
    case isFalse => cases g
    case isTrue hc =>
      injection g with g; subst g
      rcases hc with hc | hc
      · exact .inl ⟨i, j, hx, hy, hc, k _ F H (.refl e) rv_int⟩
      · exact .inr (.inl ⟨i, j, hx, hy, hc, k _ F H (.refl e) rv_int⟩)
  case h_2 xs n =>
    split at g
    case isFalse => cases g
    case isTrue hc =>
      injection g with g; subst g
      obtain ⟨a, us, rfl, h1, h2⟩ := hx
      exact .inr (.inr ⟨a, n, us, rfl, hy, h1, hc.1, hc.2.1, by rw [h2.length]; exact hc.2.2, fun p hp => k _ F _ (Step.newH e hp) ⟨p, rfl, hp, Evl.fresh_back e hp, rfl, ⟨_, upd_same⟩, ⟨p, _, rfl, upd_same, h2.replicate _⟩⟩⟩)
  case h_3 => cases g
def divOk (i j : Int) : Prop := 0 < j ∧ (j < 1073741824 ∨ j.natAbs.log2 < 9000)
noncomputable instance (i j : Int) : Decidable (divOk i j) := Classical.propDecidable _
noncomputable def gDiv : D → D → Option Rv
  | .int i, .int j => if divOk i j then some (.val (.int (i / j))) else none
  | _, _ => none
def rDivA : R2 := fun x y H Q => rI CDiv (fun i j => .int (i / j)) x y H Q ∨ rI CDivW (fun i j => .int (i / j)) x y H Q
theorem op_divA {X : Cx} : OpR X (binaryOp .FloorDiv) rDivA := op_fdiv.or op_fdivW
theorem opS_div : OpS K rDivA gDiv := by
  intro F H0 H dx dy x y rv e hx hy g Q k
  unfold gDiv at g
  split at g
  case h_2 => cases g
  case h_1 i j =>
    split at g
    case isFalse => cases g
    case isTrue hc =>
      injection g with g; subst g
      rcases hc with ⟨h0, hc | hc⟩
      · exact .inl ⟨i, j, hx, hy, ⟨h0, hc⟩, k _ F H (.refl e) rv_int⟩
      · exact .inr ⟨i, j, hx, hy, ⟨h0, hc⟩, k _ F H (.refl e) rv_int⟩
def gMod : D → D → Option Rv
  | .int i, .int j => if 0 < j then some (.val (.int (i % j))) else none
  | _, _ => none
theorem opS_mod : OpS K (rI (fun _ j => 0 < j) fun i j => .int (i % j)) gMod := by
  intro F H0 H dx dy x y rv e hx hy g Q k
  unfold gMod at g
  split at g
  case h_2 => cases g
  case h_1 i j =>
    split at g
    case isFalse => cases g
    case isTrue hc => injection g with g; subst g; exact ⟨i, j, hx, hy, hc, k _ F H (.refl e) rv_int⟩
noncomputable instance (i j : Int) : Decidable (CPow i j) := Classical.propDecidable _
noncomputable def gPow : D → D → Option Rv
  | .int i, .int j => if CPow i j then some (.val (.int (i ^ j.toNat))) else none
  | _, _ => none
theorem opS_pow : OpS K (rI CPow fun i j => .int (i ^ j.toNat)) gPow := by
  intro F H0 H dx dy x y rv e hx hy g Q k
  unfold gPow at g
  split at g
  case h_2 => cases g
  case h_1 i j =>
    split at g
    case isFalse => cases g
    case isTrue hc => injection g with g; subst g; exact ⟨i, j, hx, hy, hc, k _ F H (.refl e) rv_int⟩
def gNeg : D → Option Rv
  | .int i => some (.val (.int (-i)))
  | _ => none
theorem unS_neg : UnS K (rU fun i => .int (-i)) gNeg := by
  intro F H0 H dx x rv e hx g Q k
  unfold gNeg at g
  split at g
  case h_2 => cases g
  case h_1 i => injection g with g; subst g; exact ⟨i, hx, k _ F H (.refl e) rv_int⟩
/-! #### <, <=, >, >= of ints -/
def gCmp (f : Int → Int → Bool) : D → D → Option Rv
  | .int i, .int j => some (.val (.bl (f i j)))
  | _, _ => none
theorem opS_cmpI {f : Int → Int → Bool} : OpS K (rI0 fun i j => .bl (f i j)) (gCmp f) := by
  intro F H0 H dx dy x y rv e hx hy g Q k
  unfold gCmp at g
  split at g
  case h_2 => cases g
  case h_1 i j => injection g with g; subst g; exact ⟨i, j, hx, hy, k _ F H (.refl e) rv_bl⟩
abbrev gLt := gCmp fun i j => decide (i < j)
abbrev gLe := gCmp fun i j => decide (i ≤ j)
abbrev gGt := gCmp fun i j => decide (j < i)
abbrev gGe := gCmp fun i j => decide (j ≤ i)
/-! #### ==, in -/
mutual
def pyD : D → PyData
  | .non => .none
  | .bl b => .bool b
  | .int i => .int i
  | .str x => .str x
  | .tup ds => .tuple (pyDs ds)
  | .lst ds => .list (pyDs ds)
  | .scr ns => .list (ns.map PyData.int)
  | _ => .none
def pyDs : List D → List PyData
  | [] => []
  | d :: r => pyD d :: pyDs r
end
mutual
def okD : D → Bool
  | .tup ds => okDs ds
  | .lst ds => okDs ds
  | .dK _ => false
  | .dT _ => false
  | .obj _ _ => false
  | .ref _ => false
  | _ => true
def okDs : List D → Bool
  | [] => true
  | d :: r => okD d && okDs r
end
theorem dpAll_ints {H : Hp} : ∀ ns : List Int, DpAll K H (ns.map V.int) (ns.map PyData.int)
  | [] => .nil
  | n :: ns => .cons (.int n) (dpAll_ints ns)
mutual
theorem Rep.dp {F H : Hp} (e : Ex F H) : ∀ {d : D} {v : V}, okD d = true → Rep K F d v → Dp K H v (pyD d)
  | .non, v, _, h => by simp only [Rep] at h; subst h; simp only [pyD]; exact .non
  | .bl b, v, _, h => by simp only [Rep] at h; subst h; simp only [pyD]; exact .bl b
  | .int i, v, _, h => by simp only [Rep] at h; subst h; simp only [pyD]; exact .int i
  | .str x, v, _, h => by simp only [Rep] at h; subst h; simp only [pyD]; exact .str x
  | .tup ds, v, ok, h => by
    simp only [Rep] at h
    simp only [okD] at ok
    obtain ⟨a, xs, rfl, h2, h3⟩ := h
    simp only [pyD]
    exact .tup (Evl.ex_t e h2) (Reps.dp e ok h3)
  | .lst ds, v, ok, h => by
    simp only [Rep] at h
    simp only [okD] at ok
    obtain ⟨a, xs, rfl, h2, h3⟩ := h
    simp only [pyD]
    exact .lst (SqL.of (e _ _ h2)) (Reps.dp e ok h3)
  | .scr ns, v, ok, h => by
    simp only [Rep] at h
    obtain ⟨a, rfl, h2⟩ := h
    simp only [pyD]
    exact .lst (Evl.ex_l e h2) (dpAll_ints ns)
  | .dK _, _, ok, _ => by simp [okD] at ok
  | .dT _, _, ok, _ => by simp [okD] at ok
  | .obj _ _, _, ok, _ => by simp [okD] at ok
  | .ref _, _, ok, _ => by simp [okD] at ok
theorem Reps.dp {F H : Hp} (e : Ex F H) : ∀ {ds : List D} {vs : List V}, okDs ds = true → Reps K F ds vs → DpAll K H vs (pyDs ds)
  | [], vs, _, h => by simp only [Reps] at h; subst h; simp only [pyDs]; exact .nil
  | d :: ds, vs, ok, h => by
    simp only [Reps] at h
    simp only [okDs, Bool.and_eq_true] at ok
    obtain ⟨v, r, rfl, h2, h3⟩ := h
    simp only [pyDs]
    exact .cons (Rep.dp e ok.1 h2) (Reps.dp e ok.2 h3)
end
theorem RepB.dp {F H : Hp} (e : Ex F H) {d : D} {v : V} (ok : okD d = true) (h : RepB K F H d v) : Dp K H v (pyD d) := by
  cases d <;> simp only [RepB] at h
  case lst ds =>
    obtain ⟨a, xs, rfl, h2, h3⟩ := h
    simp only [okD] at ok
    simp only [pyD]
    exact .lst (SqL.of h2) (Reps.dp e ok h3)
  case scr ns =>
    obtain ⟨a, rfl, h2⟩ := h
    simp only [pyD]
    exact .lst h2 (dpAll_ints ns)
  case tup ds =>
    obtain ⟨a, xs, rfl, h2, h3⟩ := h
    simp only [okD] at ok
    simp only [pyD]
    exact .tup (Evl.ex_t e h2) (Reps.dp e ok h3)
  case non => subst h; simp only [pyD]; exact .non
  case bl => subst h; simp only [pyD]; exact .bl _
  case int => subst h; simp only [pyD]; exact .int _
  case str => subst h; simp only [pyD]; exact .str _
  all_goals simp [okD] at ok
/-- may be compared -/
def cmpOk (d : D) : Bool := okD d && SeqAt.shaped (pyD d)
def eqD (d e : D) : Bool := PyData.eqv (pyD d) (pyD e)
def gEq (d e : D) : Option Rv := if cmpOk d = true ∧ cmpOk e = true then some (.val (.bl (eqD d e))) else none
def gNe (d e : D) : Option Rv := if cmpOk d = true ∧ cmpOk e = true then some (.val (.bl (!eqD d e))) else none
theorem opS_eq : OpS K (rEqD K) gEq := by
  intro F H0 H dx dy x y rv e hx hy g Q k
  unfold gEq at g
  split at g
  case isFalse => cases g
  case isTrue hc =>
    injection g with g; subst g
    simp only [cmpOk, Bool.and_eq_true] at hc
    exact ⟨_, _, hx.dp e hc.1.1, hy.dp e hc.2.1, hc.1.2, hc.2.2, k _ F H (.refl e) rv_bl⟩
theorem opS_ne : OpS K (rNeD K) gNe := by
  intro F H0 H dx dy x y rv e hx hy g Q k
  unfold gNe at g
  split at g
  case isFalse => cases g
  case isTrue hc =>
    injection g with g; subst g
    simp only [cmpOk, Bool.and_eq_true] at hc
    exact ⟨_, _, hx.dp e hc.1.1, hy.dp e hc.2.1, hc.1.2, hc.2.2, k _ F H (.refl e) rv_bl⟩
/-- x in a list, a tuple of data -/
def rInA (K : PySem.W.Frag) (neg : Bool) : R2 := fun x y H Q => ∃ d ds, Dp K H x d ∧ (Dp K H y (.list ds) ∨ Dp K H y (.tuple ds)) ∧ SeqAt.shaped d = true ∧ SeqAt.shaped (.list ds) = true ∧ Q (.bl (if neg = true then !ds.any fun z => PyData.eqv z d else ds.any fun z => PyData.eqv z d)) H
theorem shaped_tl {ds : List PyData} : SeqAt.shaped (.tuple ds) = SeqAt.shaped (.list ds) := by simp [SeqAt.shaped, PyData.canLay0, PyData.depth]
theorem op_inA {X : Cx} (hu : X.A.units + 65 < cLine) : OpR X (compareOp .In) (rInA X.K false) := by
  intro pins s σ H x y v u Q I rx ry h
  obtain ⟨d, ds, hd, he, sd, se, q⟩ := h
  obtain ⟨as, r1⟩ := Dp.reads I d x v hd rx
  rcases he with he | he
  · obtain ⟨bs, r2⟩ := Dp.reads I (.list ds) y u he ry
    exact SeqAt.in_list_reads r2 r1 (SeqAt.canLay_of_shaped se) (SeqAt.canLay_of_shaped sd) (room_in_shaped sd hu) ⟨.bl _, H, I, rfl, q⟩
  · obtain ⟨bs, r2⟩ := Dp.reads I (.tuple ds) y u he ry
    exact SeqAt.in_tuple_reads r2 r1 (SeqAt.canLay_of_shaped se) (SeqAt.canLay_of_shaped sd) (room_in_shaped sd hu) ⟨.bl _, H, I, rfl, q⟩
theorem op_notInA {X : Cx} (hu : X.A.units + 65 < cLine) : OpR X (compareOp .NotIn) (rInA X.K true) := by
  intro pins s σ H x y v u Q I rx ry h
  obtain ⟨d, ds, hd, he, sd, se, q⟩ := h
  obtain ⟨as, r1⟩ := Dp.reads I d x v hd rx
  rcases he with he | he
  · obtain ⟨bs, r2⟩ := Dp.reads I (.list ds) y u he ry
    exact SeqAt.notIn_list_reads r2 r1 (SeqAt.canLay_of_shaped se) (SeqAt.canLay_of_shaped sd) (room_in_shaped sd hu) ⟨.bl _, H, I, rfl, q⟩
  · obtain ⟨bs, r2⟩ := Dp.reads I (.tuple ds) y u he ry
    exact SeqAt.notIn_tuple_reads r2 r1 (SeqAt.canLay_of_shaped se) (SeqAt.canLay_of_shaped sd) (room_in_shaped sd hu) ⟨.bl _, H, I, rfl, q⟩
def inD (d : D) (ds : List D) : Bool := ds.any fun z => eqD z d
def gIn (neg : Bool) (d c : D) : Option Rv := (itemsOf c).bind fun ds => if cmpOk d = true ∧ cmpOk (.lst ds) = true then some (.val (.bl (if neg = true then !inD d ds else inD d ds))) else none
theorem pyDs_map : ∀ ds : List D, pyDs ds = ds.map pyD
  | [] => rfl
  | d :: ds => by simp [pyDs, pyDs_map ds]
theorem inD_py (d : D) (ds : List D) : inD d ds = (pyDs ds).any fun z => PyData.eqv z (pyD d) := by
  unfold inD eqD
  rw [pyDs_map, List.any_map]
  rfl
theorem pyDs_ints (ns : List Int) : pyDs (ns.map D.int) = ns.map PyData.int := by
  rw [pyDs_map, List.map_map]
  apply List.map_congr_left
  intro a _
  simp [pyD]
theorem opS_in {neg : Bool} : OpS K (rInA K neg) (gIn neg) := by
  intro F H0 H dx dy x y rv e hx hy g Q k
  unfold gIn at g
  obtain ⟨ds, g1, g2⟩ := Option.bind_eq_some_iff.mp g
  split at g2
  case isFalse => cases g2
  case isTrue hc =>
    injection g2 with g2; subst g2
    simp only [cmpOk, Bool.and_eq_true, okD, pyD] at hc
    rw [inD_py] at k
    refine ⟨_, pyDs ds, hx.dp e hc.1.1, ?_, hc.1.2, hc.2.2, k _ F H (.refl e) rv_bl⟩
    cases dy <;> simp only [itemsOf, Option.some.injEq, reduceCtorEq] at g1
    case lst ys => subst g1; have z := RepB.dp (d := .lst ys) e (by simp only [okD]; exact hc.2.1) hy; simp only [pyD] at z; exact .inl z
    case tup ys => subst g1; have z := RepB.dp (d := .tup ys) e (by simp only [okD]; exact hc.2.1) hy; simp only [pyD] at z; exact .inr z
    case scr ns => subst g1; have z := RepB.dp (d := .scr ns) e (by simp only [okD]) hy; simp only [pyD] at z; rw [pyDs_ints]; exact .inl z
end
end DL
set_option maxHeartbeats 4000000
namespace L2
open PySem PySem.Spec PyProof.Rows PySem.W
theorem vals_each : ∀ {bs : List (V × PyData)} {us : List Value}, Vals (bs.map Prod.fst) us → EachIs (fun v (b : V × PyData) => RelV b.1 v) us bs
  | [], us, r => by cases r; exact .nil
  | b :: bs, us, r => by cases r with | cons h t => exact .cons h (vals_each t)
theorem each_vals : ∀ {bs : List (V × PyData)} {us : List Value}, EachIs (fun v (b : V × PyData) => RelV b.1 v) us bs → Vals (bs.map Prod.fst) us
  | [], us, r => by cases r; exact .nil
  | b :: bs, us, r => by cases r with | cons h t => exact .cons h (each_vals t)
theorem each_imp {α β : Type} {R S : α → β → Prop} : ∀ {as : List α} {bs : List β}, EachIs R as bs → (∀ a b, b ∈ bs → R a b → S a b) → EachIs S as bs
  | _, _, .nil, _ => .nil
  | _, _, .cons h t, f => .cons (f _ _ List.mem_cons_self h) (each_imp t fun a b hb => f a b (List.mem_cons_of_mem _ hb))
def rSortedA (K : PySem.W.Frag) : List V → Hp → VK → Prop := fun vs H Q => ∃ (a : Addr) (bs : List (V × PyData)), vs = [.ref a] ∧ SqL K H a (bs.map Prod.fst) ∧ (∀ b ∈ bs, Dp K H b.1 b.2) ∧ AllAlike (bs.map Prod.snd) ∧ Sortable (bs.map Prod.snd) ∧ (∀ b ∈ bs, b.2.depth ≤ 60) ∧
  ∀ p, H p = none → Q (.ref p) (upd H p (.lst ((bs.mergeSort (dataLe false Prod.snd)).map Prod.fst)))
section
variable {X : Cx}
theorem cr_sortedA (hu : X.A.units + 65 < cLine) : CallR X (.builtin "sorted") (rSortedA X.K) := by
  intro pins s σ H vs us Q I r h
  obtain ⟨a, bs, rfl, hs, hd, hal, hk, hdp, q⟩ := h
  obtain ⟨its, rv, hl, hz⟩ := I.list hs
  rw [Vals.ref1 r]
  rw [List.length_map] at hz
  have e := vals_each rv
  refine sorted_data (R := fun v (b : V × PyData) => RelV b.1 v) (enc := Prod.snd) (bs := bs) hl.isList e (each_imp e fun v b hb rr => ?_) hal hk hz (fun b hb => ?_) fun out h1 h2 => ?_
  · exact Dp.reads I b.2 b.1 v (hd b hb) rr
  · have := hdp b hb; omega
  · obtain ⟨ep, he'⟩ := PyProof.Rows.sortedAll_at s.heap its (List.toArray out)
    have hv := each_vals h2
    have hlen : ((bs.mergeSort (dataLe false Prod.snd)).map Prod.fst).length ≤ sizeLine := by rw [List.length_map, List.length_mergeSort]; exact hz
    exact ⟨.ref _, upd H (s.heap.objs.size + 1) (.lst ((bs.mergeSort (dataLe false Prod.snd)).map Prod.fst)), I.laid (t' := s.toks) (fun _ _ => PyProof.Rows.sortedAll_old) (Nat.le_succ _) ⟨hlen, out, ep, hv, he'⟩, rfl, q _ (I.hok.fresh (Nat.le_succ _))⟩
end
end L2
namespace DL
open PySem L2 PyProof.Rows
open Evl (Ex)
section
variable {K : PySem.W.Frag} {F H : Hp}
theorem rv_own {H0 Hs : Hp} {p : Addr} {xs : List V} {ds : List D} (e : Ex F Hs) (hp : Hs p = none) (r : Reps K F ds xs) : RvOk K F H0 Hs (upd Hs p (.lst xs)) (.own (.lst ds)) (.ref p) :=
  ⟨p, rfl, hp, Evl.fresh_back e hp, rfl, ⟨_, upd_same⟩, ⟨p, _, rfl, upd_same, r⟩⟩
theorem rv_tup {H0 Hs : Hp} {p : Addr} {xs : List V} {ds : List D} (e : Ex F Hs) (hp : Hs p = none) (r : Reps K F ds xs) : RvOk K (upd F p (.tup xs)) H0 Hs (upd Hs p (.tup xs)) (.val (.tup ds)) (.ref p) := by
  show Rep K _ (.tup ds) _
  simp only [Rep]
  exact ⟨p, xs, rfl, SqT.of upd_same, r.mono (Ex.new (Evl.fresh_back e hp))⟩
/-! #### items, slices -/
theorem atI_reps {ds : List D} {xs : List V} {i : Int} {d : D} (r : Reps K F ds xs) (h : atI ds i = some d) : ∃ v, atI xs i = some v ∧ Rep K F d v := by
  unfold atI at h ⊢
  obtain ⟨j, h1, h2⟩ := Option.bind_eq_some_iff.mp h
  obtain ⟨v, h3, h4⟩ := r.getD h2
  exact ⟨v, Option.bind_eq_some_iff.mpr ⟨j, by rw [r.length]; exact h1, h3⟩, h4⟩
theorem atI_ints {ns : List Int} {i : Int} {n : Int} (h : atI ns i = some n) : atI (ns.map V.int) i = some (.int n) := by
  unfold atI at h ⊢
  obtain ⟨j, h1, h2⟩ := Option.bind_eq_some_iff.mp h
  exact Option.bind_eq_some_iff.mpr ⟨j, by rw [List.length_map]; exact h1, by rw [List.getElem?_map, h2]; rfl⟩
def gIx : D → D → Option Rv
  | .lst ds, .int i => (atI ds i).map .val
  | .tup ds, .int i => (atI ds i).map .val
  | .scr ns, .int i => (atI ns i).map fun n => .val (.int n)
  | _, _ => none
theorem opS_ix : OpS K (rIx K) gIx := by
  intro F H0 H dx dy x y rv e hx hy g Q k
  unfold gIx at g
  split at g
  case h_1 ds i =>
    obtain ⟨d, g1, rfl⟩ := Option.map_eq_some_iff.mp g
    obtain ⟨a, xs, rfl, h1, h2⟩ := hx
    obtain ⟨v, h3, h4⟩ := atI_reps h2 g1
    exact .inl ⟨a, xs, i, v, rfl, hy, SqL.of h1, h3, k _ F H (.refl e) h4⟩
  case h_2 ds i =>
    obtain ⟨d, g1, rfl⟩ := Option.map_eq_some_iff.mp g
    obtain ⟨a, xs, rfl, h1, h2⟩ := hx
    obtain ⟨v, h3, h4⟩ := atI_reps h2 g1
    exact .inr (.inl ⟨a, xs, i, v, rfl, hy, Evl.ex_t e h1, h3, k _ F H (.refl e) h4⟩)
  case h_3 ns i =>
    obtain ⟨d, g1, rfl⟩ := Option.map_eq_some_iff.mp g
    obtain ⟨a, rfl, h1⟩ := hx
    exact .inl ⟨a, _, i, _, rfl, hy, h1, atI_ints g1, k _ F H (.refl e) rv_int⟩
  case h_4 => cases g
theorem pd_ix {X : Cx} {W : WX} {a b : Expr} {ta tb : DE} {pos : Pos} (ha : PDe X W a ta) (hb : PDe X W b tb) (hs : PlainIx b := by exact fun _ _ => rfl) : PDe X W (.Subscript a b pos) (dOp gIx ta tb) := by
  obtain ⟨tea, a1, a2⟩ := ha
  obtain ⟨teb, b1, b2⟩ := hb
  exact ⟨_, pe_ix ix_seq a1 b1 hs, bd_op (op := rIx X.K) opS_ix a2 b2⟩
/-- a part of a slice -/
def PDo (X : Cx) (W : WX) (e : Option Expr) (t : Env → R (Option Int)) : Prop :=
  ∃ to, PO X e to ∧ ∀ ρ F0 H0 F σ H, StOk X.K ρ F0 H0 F σ H → Bd X.K W σ F H (fun _ _ a b => a = b) (t ρ) (to σ H)
def dNoP : Env → R (Option Int) := fun _ => .ok none
def intD : D → Option (Option Int)
  | .int i => some (some i)
  | _ => none
def dPart (t : DE) : Env → R (Option Int) := fun ρ => (t ρ).bind fun r => .of (intD r.d)
theorem o_none {X : Cx} {W : WX} : PDo X W none dNoP := ⟨_, po_none, fun ρ F0 H0 F σ H st Q k => k none F H (.refl st.fr) rfl⟩
theorem o_some {X : Cx} {W : WX} {e : Expr} {t : DE} (h : PDe X W e t) : PDo X W (some e) (dPart t) := by
  obtain ⟨te, h1, h2⟩ := h
  refine ⟨_, po_some h1, fun ρ F0 H0 F σ H st => ?_⟩
  refine Bd.bind (te2 := fun x H1 Q => ∃ i, x = V.int i ∧ Q (some i) H1) (h2 ρ F0 H0 F σ H st) fun r v F1 H1 _ s1 o => Bd.of fun oi g Q k => ?_
  have ob := o.b s1.fr (st.base.trans s1.h)
  unfold intD at g
  split at g
  case h_2 => cases g
  case h_1 i ei =>
    injection g with g; subst g
    rw [ei] at ob
    exact ⟨i, ob, k _ F1 H1 (.refl s1.fr) rfl⟩
def cutD (ds : List D) (lo hi : Option Int) : List D := (ds.drop (HT.sIx ds.length 0 lo)).take (HT.sIx ds.length ds.length hi - HT.sIx ds.length 0 lo)
def gSl (lo hi : Option Int) : D → Option Rv
  | .lst ds => some (.own (.lst (cutD ds lo hi)))
  | .tup ds => some (.val (.tup (cutD ds lo hi)))
  | _ => none
def dSl (t : DE) (tl th : Env → R (Option Int)) : DE := fun ρ => (t ρ).bind fun r => (tl ρ).bind fun lo => (th ρ).bind fun hi => .of (gSl lo hi r.d)
theorem cut_reps {ds : List D} {xs : List V} {lo hi : Option Int} (r : Reps K F ds xs) : Reps K F (cutD ds lo hi) (cutV xs lo hi) := by
  unfold cutD cutV
  rw [r.length]
  exact (r.drop _).take _
theorem cutD_whole {ds : List D} {lo hi : Option Int} (h : HT.sIx ds.length 0 lo = 0 ∧ HT.sIx ds.length ds.length hi = ds.length) : cutD ds lo hi = ds := by
  unfold cutD
  rw [h.1, h.2]
  simp
theorem pd_slice {X : Cx} {W : WX} {e : Expr} {lo hi : Option Expr} {t : DE} {tl th : Env → R (Option Int)} {p2 pos : Pos} (he : PDe X W e t) (hl : PDo X W lo tl) (hh : PDo X W hi th) : PDe X W (.Subscript e (.Slice lo hi none p2) pos) (dSl t tl th) := by
  obtain ⟨te, a1, a2⟩ := he
  obtain ⟨t1, b1, b2⟩ := hl
  obtain ⟨t2, c1, c2⟩ := hh
  refine ⟨_, pe_slice (sl_list.or sl_tupA) a1 b1 c1, fun ρ F0 H0 F σ H st => ?_⟩
  refine Bd.bind (te2 := fun x H1 Q => t1 σ H1 fun l H2 => t2 σ H2 fun u H3 => rSlL X.K x l u H3 Q ∨ rSlA X.K x l u H3 Q) (a2 ρ F0 H0 F σ H st) fun r v F1 H1 _ s1 o => ?_
  refine Bd.bind (te2 := fun l H2 Q => t2 σ H2 fun u H3 => rSlL X.K v l u H3 Q ∨ rSlA X.K v l u H3 Q) (b2 ρ F0 H0 F1 σ H1 (st.step s1)) fun l l' F2 H2 _ s2 ol => ?_
  subst ol
  refine Bd.bind (te2 := fun u H3 Q => rSlL X.K v l u H3 Q ∨ rSlA X.K v l u H3 Q) (c2 ρ F0 H0 F2 σ H2 ((st.step s1).step s2)) fun u u' F3 H3 _ s3 ou => ?_
  subst ou
  refine Bd.of fun rv g Q k => ?_
  have st3 := ((st.step s1).step s2).step s3
  have hb := ((o.step s2).step s3).b st3.fr st3.base
  have ex : Ex H H3 := (s1.h.trans s2.h).trans s3.h
  unfold gSl at g
  split at g
  case h_1 ds e1 =>
    injection g with g; subst g
    rw [e1] at hb
    obtain ⟨a, xs, rfl, h1, h2⟩ := hb
    exact .inl ⟨a, xs, rfl, SqL.of h1, fun p hp => k _ F3 _ (Step.newH st3.fr hp) ((rv_own st3.fr hp (cut_reps h2)).start ex)⟩
  case h_2 ds e1 =>
    injection g with g; subst g
    rw [e1] at hb
    obtain ⟨a, xs, rfl, h1, h2⟩ := hb
    refine .inr ⟨a, xs, rfl, Evl.ex_t st3.fr h1, fun hw => ?_, fun hw p hp => ?_⟩
    · rw [h2.length] at hw
      refine k _ F3 H3 (.refl st3.fr) ?_
      rw [cutD_whole hw]
      show Rep X.K F3 (.tup ds) _
      simp only [Rep]
      exact ⟨a, xs, rfl, h1, h2⟩
    · exact k _ _ _ (Step.newF st3.fr hp) ((rv_tup st3.fr hp (cut_reps h2)).start ex)
  case h_3 => cases g
/-- xs[::-1] -/
def gRev : D → Option Rv
  | .lst ds => some (.own (.lst ds.reverse))
  | _ => none
theorem pd_rev {X : Cx} {W : WX} {e : Expr} {t : DE} {k : Nat} {p1 p2 p3 pos : Pos} (he : PDe X W e t) : PDe X W (.Subscript e (.Slice none none (some (.UnaryOp .USub (.Constant (.int 1) k p1) p2)) p3) pos) (dUn gRev t) := by
  obtain ⟨te, a1, a2⟩ := he
  refine ⟨_, pe_revL a1, fun ρ F0 H0 F σ H st => ?_⟩
  refine Bd.bind (te2 := fun x H1 Q => ∃ a xs, x = V.ref a ∧ SqL X.K H1 a xs ∧ ∀ p, H1 p = none → Q (V.ref p) (upd H1 p (.lst xs.reverse))) (a2 ρ F0 H0 F σ H st) fun r v F1 H1 _ s1 o => Bd.of fun rv g Q k => ?_
  have hb := o.b s1.fr (st.base.trans s1.h)
  unfold gRev at g
  split at g
  case h_2 => cases g
  case h_1 ds e1 =>
    injection g with g; subst g
    rw [e1] at hb
    obtain ⟨a, xs, rfl, h1, h2⟩ := hb
    exact ⟨a, xs, rfl, SqL.of h1, fun p hp => k _ F1 _ (Step.newH s1.fr hp) ((rv_own s1.fr hp h2.reverse).start s1.h)⟩
/-! #### is None -/
def gIsN (neg : Bool) : D → Option Rv
  | .non => some (.val (.bl (!neg)))
  | _ => some (.val (.bl neg))
def isNonD : D → Bool
  | .non => true
  | _ => false
theorem repB_isN {d : D} {v : V} (h : RepB K F H d v) : decide (v = .non) = isNonD d := by
  cases d <;> simp only [RepB] at h
  case non => subst h; rfl
  case bl => subst h; rfl
  case int => subst h; rfl
  case str => subst h; rfl
  case ref => subst h; rfl
  all_goals
    obtain ⟨a, h⟩ := h
  all_goals first
    | (obtain ⟨xs, rfl, _⟩ := h; rfl)
    | (obtain ⟨dx, ys, rfl, _⟩ := h; rfl)
    | (obtain ⟨rfl, _⟩ := h; rfl)
theorem pd_isN {X : Cx} {W : WX} {a : Expr} {t : DE} {j : Nat} {pos' pos : Pos} (he : PDe X W a t) (hm : behindInMarks .Is (.Constant .none j pos') = false := by rfl) : PDe X W (.Compare a [.Is] [.Constant .none j pos'] pos) (dUn (gIsN false) t) := by
  obtain ⟨te, a1, a2⟩ := he
  refine ⟨_, pe_cmp (pc_isN a1) hm, fun ρ F0 H0 F σ H st => ?_⟩
  refine Bd.bind (te2 := fun x H1 Q => Q (V.bl (decide (x = .non))) H1) (a2 ρ F0 H0 F σ H st) fun r v F1 H1 _ s1 o => Bd.of fun rv g Q k => ?_
  have hb := o.b s1.fr (st.base.trans s1.h)
  show Q (V.bl (decide (v = .non))) H1
  rw [repB_isN hb]
  generalize r.d = d at g
  cases d <;> (injection g with g; subst g; exact k _ F1 H1 (.refl s1.fr) rv_bl)
theorem pd_notN {X : Cx} {W : WX} {a : Expr} {t : DE} {j : Nat} {pos' pos : Pos} (he : PDe X W a t) (hm : behindInMarks .IsNot (.Constant .none j pos') = false := by rfl) : PDe X W (.Compare a [.IsNot] [.Constant .none j pos'] pos) (dUn (gIsN true) t) := by
  obtain ⟨te, a1, a2⟩ := he
  refine ⟨_, pe_cmp (pc_notN a1) hm, fun ρ F0 H0 F σ H st => ?_⟩
  refine Bd.bind (te2 := fun x H1 Q => Q (V.bl (!decide (x = .non))) H1) (a2 ρ F0 H0 F σ H st) fun r v F1 H1 _ s1 o => Bd.of fun rv g Q k => ?_
  have hb := o.b s1.fr (st.base.trans s1.h)
  show Q (V.bl (!decide (v = .non))) H1
  rw [repB_isN hb]
  generalize r.d = d at g
  cases d <;> (injection g with g; subst g; exact k _ F1 H1 (.refl s1.fr) rv_bl)
/-! #### built-in calls -/
def gLen : List D → Option Rv
  | [.lst ds] => some (.val (.int ds.length))
  | [.tup ds] => some (.val (.int ds.length))
  | [.scr ns] => some (.val (.int ns.length))
  | _ => none
theorem callS_len : CallS K [false] (fun xs H Q => ∃ p ys, xs = [.ref p] ∧ (SqL K H p ys ∨ SqT K H p ys) ∧ Q (.int ys.length) H) gLen := by
  intro F H0 H ds vs rv e a g Q k
  unfold gLen at g
  split at g
  case h_1 xs =>
    injection g with g; subst g
    obtain ⟨v, rfl, h⟩ := args1 a
    obtain ⟨p, ys, rfl, h1, h2⟩ := h
    exact ⟨p, ys, rfl, .inl (SqL.of h1), by rw [h2.length]; exact k _ F H (.refl e) rv_int⟩
  case h_2 xs =>
    injection g with g; subst g
    obtain ⟨v, rfl, h⟩ := args1 a
    obtain ⟨p, ys, rfl, h1, h2⟩ := h
    exact ⟨p, ys, rfl, .inr (Evl.ex_t e h1), by rw [h2.length]; exact k _ F H (.refl e) rv_int⟩
  case h_3 ns =>
    injection g with g; subst g
    obtain ⟨v, rfl, h⟩ := args1 a
    obtain ⟨p, rfl, h1⟩ := h
    exact ⟨p, _, rfl, .inl h1, by rw [List.length_map]; exact k _ F H (.refl e) rv_int⟩
  case h_4 => cases g
def gAbs : List D → Option Rv
  | [.int i] => some (.val (.int (if i < 0 then -i else i)))
  | _ => none
theorem callS_abs : CallS K [false] (fun xs H Q => ∃ i, xs = [.int i] ∧ Q (.int (if i < 0 then -i else i)) H) gAbs := by
  intro F H0 H ds vs rv e a g Q k
  unfold gAbs at g
  split at g
  case h_1 i =>
    injection g with g; subst g
    obtain ⟨v, rfl, h⟩ := args1 a
    simp only [RepB] at h
    subst h
    exact ⟨i, rfl, k _ F H (.refl e) rv_int⟩
  case h_2 => cases g
def gInt : List D → Option Rv
  | [.int i] => some (.val (.int i))
  | [.bl b] => some (.val (.int (if b then 1 else 0)))
  | _ => none
theorem callS_int : CallS K [false] (fun xs H Q => (∃ i, xs = [.int i] ∧ Q (.int i) H) ∨ ∃ k, xs = [.bl k] ∧ Q (.int (if k then 1 else 0)) H) gInt := by
  intro F H0 H ds vs rv e a g Q k
  unfold gInt at g
  split at g
  case h_1 i =>
    injection g with g; subst g
    obtain ⟨v, rfl, h⟩ := args1 a
    simp only [RepB] at h
    subst h
    exact .inl ⟨i, rfl, k _ F H (.refl e) rv_int⟩
  case h_2 i =>
    injection g with g; subst g
    obtain ⟨v, rfl, h⟩ := args1 a
    simp only [RepB] at h
    subst h
    exact .inr ⟨i, rfl, k _ F H (.refl e) rv_int⟩
  case h_3 => cases g
/-- list(xs), tuple(xs) -/
def gList : List D → Option Rv
  | [.lst ds] => some (.own (.lst ds))
  | [.tup ds] => some (.own (.lst ds))
  | [.scr ns] => some (.own (.lst (ns.map D.int)))
  | _ => none
theorem callS_list : CallS K [false] (fun xs H Q => ∃ p ys, xs = [.ref p] ∧ (SqL K H p ys ∨ SqT K H p ys) ∧ ∀ l, H l = none → Q (.ref l) (upd H l (.lst ys))) gList := by
  intro F H0 H ds vs rv e a g Q k
  unfold gList at g
  split at g
  case h_1 xs =>
    injection g with g; subst g
    obtain ⟨v, rfl, h⟩ := args1 a
    obtain ⟨p, ys, rfl, h1, h2⟩ := h
    exact ⟨p, ys, rfl, .inl (SqL.of h1), fun l hl => k _ F _ (Step.newH e hl) (rv_own e hl h2)⟩
  case h_2 xs =>
    injection g with g; subst g
    obtain ⟨v, rfl, h⟩ := args1 a
    obtain ⟨p, ys, rfl, h1, h2⟩ := h
    exact ⟨p, ys, rfl, .inr (Evl.ex_t e h1), fun l hl => k _ F _ (Step.newH e hl) (rv_own e hl h2)⟩
  case h_3 ns =>
    injection g with g; subst g
    obtain ⟨v, rfl, h⟩ := args1 a
    obtain ⟨p, rfl, h1⟩ := h
    exact ⟨p, _, rfl, .inl h1, fun l hl => k _ F _ (Step.newH e hl) (rv_own e hl (Reps.of_ints ns))⟩
  case h_4 => cases g
def gTuple : List D → Option Rv
  | [.lst ds] => some (.val (.tup ds))
  | [.tup ds] => some (.val (.tup ds))
  | [.scr ns] => some (.val (.tup (ns.map D.int)))
  | _ => none
theorem callS_tuple : CallS K [false] (fun xs H Q => ∃ p ys, xs = [.ref p] ∧ ((SqL K H p ys ∧ ∀ l, H l = none → Q (.ref l) (upd H l (.tup ys))) ∨ (SqT K H p ys ∧ Q (.ref p) H))) gTuple := by
  intro F H0 H ds vs rv e a g Q k
  unfold gTuple at g
  split at g
  case h_1 xs =>
    injection g with g; subst g
    obtain ⟨v, rfl, h⟩ := args1 a
    obtain ⟨p, ys, rfl, h1, h2⟩ := h
    exact ⟨p, ys, rfl, .inl ⟨SqL.of h1, fun l hl => k _ _ _ (Step.newF e hl) (rv_tup e hl h2)⟩⟩
  case h_2 xs =>
    injection g with g; subst g
    obtain ⟨v, rfl, h⟩ := args1 a
    obtain ⟨p, ys, rfl, h1, h2⟩ := h
    exact ⟨p, ys, rfl, .inr ⟨Evl.ex_t e h1, k _ F H (.refl e) (show Rep K F (.tup xs) _ by simp only [Rep]; exact ⟨p, ys, rfl, h1, h2⟩)⟩⟩
  case h_3 ns =>
    injection g with g; subst g
    obtain ⟨v, rfl, h⟩ := args1 a
    obtain ⟨p, rfl, h1⟩ := h
    exact ⟨p, _, rfl, .inl ⟨h1, fun l hl => k _ _ _ (Step.newF e hl) (rv_tup e hl (Reps.of_ints ns))⟩⟩
  case h_4 => cases g
/-- sum, max, min of ints -/
def gSum : List D → Option Rv
  | [.lst ds] => (intsOf ds).map fun ns => .val (.int ns.sum)
  | [.scr ns] => some (.val (.int ns.sum))
  | _ => none
theorem callS_sum : CallS K [false] (rSum K) gSum := by
  intro F H0 H ds vs rv e a g Q k
  unfold gSum at g
  split at g
  case h_1 xs =>
    obtain ⟨ns, g1, rfl⟩ := Option.map_eq_some_iff.mp g
    obtain ⟨v, rfl, h⟩ := args1 a
    obtain ⟨p, ys, rfl, h1, h2⟩ := h
    rw [intsOf_eq g1] at h2
    exact ⟨p, ns, rfl, SqL.of (by rw [h1, Reps.ints h2]), k _ F H (.refl e) rv_int⟩
  case h_2 ns =>
    injection g with g; subst g
    obtain ⟨v, rfl, h⟩ := args1 a
    obtain ⟨p, rfl, h1⟩ := h
    exact ⟨p, ns, rfl, h1, k _ F H (.refl e) rv_int⟩
  case h_3 => cases g
def maxI : List Int → Option Int
  | [] => none
  | n :: ns => some (ns.foldl max n)
def minI : List Int → Option Int
  | [] => none
  | n :: ns => some (ns.foldl min n)
theorem foldl_max (ns : List Int) : ∀ n, (ns.foldl max n = n ∨ ns.foldl max n ∈ ns) ∧ n ≤ ns.foldl max n ∧ ∀ y ∈ ns, y ≤ ns.foldl max n := by
  induction ns with
  | nil => intro n; simp
  | cons m ns ih =>
    intro n
    obtain ⟨h1, h2, h3⟩ := ih (max n m)
    rw [List.foldl_cons]
    refine ⟨?_, by omega, fun y hy => ?_⟩
    · rcases h1 with h | h
      · rw [h]
        rcases Int.le_total n m with q | q
        · right; rw [Int.max_eq_right q]; exact List.mem_cons_self
        · left; rw [Int.max_eq_left q]
      · exact .inr (List.mem_cons_of_mem _ h)
    · rcases List.mem_cons.mp hy with rfl | hy
      · omega
      · exact h3 y hy
theorem foldl_min (ns : List Int) : ∀ n, (ns.foldl min n = n ∨ ns.foldl min n ∈ ns) ∧ ns.foldl min n ≤ n ∧ ∀ y ∈ ns, ns.foldl min n ≤ y := by
  induction ns with
  | nil => intro n; simp
  | cons m ns ih =>
    intro n
    obtain ⟨h1, h2, h3⟩ := ih (min n m)
    rw [List.foldl_cons]
    refine ⟨?_, by omega, fun y hy => ?_⟩
    · rcases h1 with h | h
      · rw [h]
        rcases Int.le_total n m with q | q
        · left; rw [Int.min_eq_left q]
        · right; rw [Int.min_eq_right q]; exact List.mem_cons_self
      · exact .inr (List.mem_cons_of_mem _ h)
    · rcases List.mem_cons.mp hy with rfl | hy
      · omega
      · exact h3 y hy
theorem maxI_spec {ns : List Int} {m : Int} (h : maxI ns = some m) : m ∈ ns ∧ ∀ y ∈ ns, y ≤ m := by
  cases ns with
  | nil => cases h
  | cons n ns =>
    simp only [maxI, Option.some.injEq] at h
    obtain ⟨h1, h2, h3⟩ := foldl_max ns n
    rw [h] at h1 h2 h3
    refine ⟨h1.elim (fun z => z ▸ List.mem_cons_self) (List.mem_cons_of_mem _), fun y hy => ?_⟩
    rcases List.mem_cons.mp hy with rfl | hy
    · exact h2
    · exact h3 y hy
theorem minI_spec {ns : List Int} {m : Int} (h : minI ns = some m) : m ∈ ns ∧ ∀ y ∈ ns, m ≤ y := by
  cases ns with
  | nil => cases h
  | cons n ns =>
    simp only [minI, Option.some.injEq] at h
    obtain ⟨h1, h2, h3⟩ := foldl_min ns n
    rw [h] at h1 h2 h3
    refine ⟨h1.elim (fun z => z ▸ List.mem_cons_self) (List.mem_cons_of_mem _), fun y hy => ?_⟩
    rcases List.mem_cons.mp hy with rfl | hy
    · exact h2
    · exact h3 y hy
def gMax : List D → Option Rv
  | [.lst ds] => (intsOf ds).bind fun ns => (maxI ns).map fun m => .val (.int m)
  | _ => none
def gMin : List D → Option Rv
  | [.lst ds] => (intsOf ds).bind fun ns => (minI ns).map fun m => .val (.int m)
  | _ => none
theorem callS_max : CallS K [false] (rMax K) gMax := by
  intro F H0 H ds vs rv e a g Q k
  unfold gMax at g
  split at g
  case h_2 => cases g
  case h_1 xs =>
    obtain ⟨ns, g1, g2⟩ := Option.bind_eq_some_iff.mp g
    obtain ⟨m, g3, rfl⟩ := Option.map_eq_some_iff.mp g2
    obtain ⟨v, rfl, h⟩ := args1 a
    obtain ⟨p, ys, rfl, h1, h2⟩ := h
    rw [intsOf_eq g1] at h2
    have sp := maxI_spec g3
    refine ⟨p, ns, rfl, SqL.of (by rw [h1, Reps.ints h2]), List.length_pos_of_mem sp.1, fun m' i1 i2 => ?_⟩
    have : m' = m := Int.le_antisymm (sp.2 _ i1) (i2 _ sp.1)
    subst this
    exact k _ F H (.refl e) rv_int
theorem callS_min : CallS K [false] (rMin K) gMin := by
  intro F H0 H ds vs rv e a g Q k
  unfold gMin at g
  split at g
  case h_2 => cases g
  case h_1 xs =>
    obtain ⟨ns, g1, g2⟩ := Option.bind_eq_some_iff.mp g
    obtain ⟨m, g3, rfl⟩ := Option.map_eq_some_iff.mp g2
    obtain ⟨v, rfl, h⟩ := args1 a
    obtain ⟨p, ys, rfl, h1, h2⟩ := h
    rw [intsOf_eq g1] at h2
    have sp := minI_spec g3
    refine ⟨p, ns, rfl, SqL.of (by rw [h1, Reps.ints h2]), List.length_pos_of_mem sp.1, fun m' i1 i2 => ?_⟩
    have : m' = m := Int.le_antisymm (i2 _ sp.1) (sp.2 _ i1)
    subst this
    exact k _ F H (.refl e) rv_int
/-- sorted -/
def leD (a b : D) : Bool := PySem.W.dataLe false pyD a b
def sortD (ds : List D) : List D := ds.mergeSort leD
def tup1 : PyData → Bool
  | .tuple (_ :: _) => true
  | _ => false
def notTup : PyData → Bool
  | .tuple _ => false
  | .none => false
  | _ => true
def sortOk (ds : List D) : Bool := okDs ds && (ds.all fun d => decide ((pyD d).depth ≤ 60)) && (ds.all fun d => ds.all fun e => PySem.W.alike (pyD d) (pyD e)) && ((ds.all fun d => tup1 (pyD d)) || ds.all fun d => notTup (pyD d))
def gSorted : List D → Option Rv
  | [.lst ds] => if sortOk ds = true then some (.own (.lst (sortD ds))) else none
  | _ => none
theorem reps_mem {ds : List D} : ∀ {vs : List V}, Reps K F ds vs → ∀ p ∈ vs.zip ds, Rep K F p.2 p.1 := by
  induction ds with
  | nil => intro vs h p hp; simp only [Reps] at h; subst h; simp at hp
  | cons d ds ih =>
    intro vs h p hp
    simp only [Reps] at h
    obtain ⟨v, r, rfl, h2, h3⟩ := h
    rw [List.zip_cons_cons] at hp
    rcases List.mem_cons.mp hp with rfl | hp
    · exact h2
    · exact ih h3 p hp
theorem mem_reps {ps : List (V × D)} (h : ∀ p ∈ ps, Rep K F p.2 p.1) : Reps K F (ps.map Prod.snd) (ps.map Prod.fst) := by
  induction ps with
  | nil => exact Reps.nil
  | cons p ps ih => exact Reps.cons (h p List.mem_cons_self) (ih fun q hq => h q (List.mem_cons_of_mem _ hq))
theorem okDs_mem : ∀ {ds : List D}, okDs ds = true → ∀ d ∈ ds, okD d = true
  | d :: ds, h, e, he => by
    simp only [okDs, Bool.and_eq_true] at h
    rcases List.mem_cons.mp he with rfl | he
    · exact h.1
    · exact okDs_mem h.2 e he
theorem callS_sorted : CallS K [false] (rSortedA K) gSorted := by
  intro F H0 H ds vs rv e a g Q k
  unfold gSorted at g
  split at g
  case h_2 => cases g
  case h_1 xs =>
    split at g
    case isFalse => cases g
    case isTrue hok =>
      injection g with g; subst g
      obtain ⟨v, rfl, h⟩ := args1 a
      obtain ⟨p, ys, rfl, h1, h2⟩ := h
      simp only [sortOk, Bool.and_eq_true, List.all_eq_true, decide_eq_true_eq, Bool.or_eq_true] at hok
      obtain ⟨⟨⟨o1, o2⟩, o3⟩, o4⟩ := hok
      -- the pairs (value, data)
      have hl : ys.length = xs.length := h2.length
      have f1 : (ys.zip xs).map Prod.fst = ys := List.map_fst_zip (by omega)
      have f2 : (ys.zip xs).map Prod.snd = xs := List.map_snd_zip (by omega)
      have hm := reps_mem h2
      have mem2 : ∀ q ∈ ys.zip xs, q.2 ∈ xs := fun q hq => by rw [← f2]; exact List.mem_map.mpr ⟨q, hq, rfl⟩
      refine ⟨p, (ys.zip xs).map fun q => (q.1, pyD q.2), rfl, ?_, fun b hb => ?_, fun d hd d' hd' => ?_, ?_, fun b hb => ?_, fun l hl' => ?_⟩
      · rw [List.map_map]
        show SqL K H p ((ys.zip xs).map Prod.fst)
        rw [f1]
        exact SqL.of h1
      · obtain ⟨q, hq, rfl⟩ := List.mem_map.mp hb
        exact (hm q hq).dp e (okDs_mem o1 _ (mem2 q hq))
      · obtain ⟨b, hb, rfl⟩ := List.mem_map.mp hd
        obtain ⟨q, hq, rfl⟩ := List.mem_map.mp hb
        obtain ⟨b', hb', rfl⟩ := List.mem_map.mp hd'
        obtain ⟨q', hq', rfl⟩ := List.mem_map.mp hb'
        exact o3 _ (mem2 q hq) _ (mem2 q' hq')
      · rcases o4 with o4 | o4
        · refine .inl fun d hd => ?_
          obtain ⟨b, hb, rfl⟩ := List.mem_map.mp hd
          obtain ⟨q, hq, rfl⟩ := List.mem_map.mp hb
          have z := o4 _ (mem2 q hq)
          show ∃ x r, pyD q.2 = .tuple (x :: r)
          unfold tup1 at z
          split at z
          · rename_i x r e1; exact ⟨x, r, e1⟩
          · cases z
        · refine .inr fun d hd => ?_
          obtain ⟨b, hb, rfl⟩ := List.mem_map.mp hd
          obtain ⟨q, hq, rfl⟩ := List.mem_map.mp hb
          have z := o4 _ (mem2 q hq)
          show pyD q.2 ≠ .none ∧ ∀ xs, pyD q.2 ≠ .tuple xs
          constructor
          · intro e1; rw [e1] at z; cases z
          · intro xs e1; rw [e1] at z; cases z
      · obtain ⟨q, hq, rfl⟩ := List.mem_map.mp hb
        exact o2 _ (mem2 q hq)
      · have srt : (((ys.zip xs).map fun q => (q.1, pyD q.2)).mergeSort (PySem.W.dataLe false Prod.snd)).map Prod.fst = ((ys.zip xs).mergeSort fun q q' => leD q.2 q'.2).map Prod.fst := by
          rw [← List.map_mergeSort (r := fun q q' : V × D => leD q.2 q'.2) (s := PySem.W.dataLe false Prod.snd) (f := fun q : V × D => (q.1, pyD q.2)) (fun a _ b _ => rfl), List.map_map]
          rfl
        have srt2 : sortD xs = ((ys.zip xs).mergeSort fun q q' => leD q.2 q'.2).map Prod.snd := by
          unfold sortD
          rw [List.map_mergeSort (s := leD) (fun a _ b _ => rfl), f2]
        rw [srt]
        rw [srt2] at k
        exact k _ F _ (Step.newH e hl') (rv_own e hl' (mem_reps fun q hq => hm q (List.mem_mergeSort.mp hq)))
/-- isinstance(x, T), T a built-in class -/
inductive Ty where
  | non | bl | int | str | tup | lst | dct
  deriving DecidableEq
def Ty.name : Ty → String
  | .non => "NoneType"
  | .bl => "bool"
  | .int => "int"
  | .str => "str"
  | .tup => "tuple"
  | .lst => "list"
  | .dct => "dict"
def isB : Ty → Ty → Bool
  | .non, .non => true
  | .bl, .bl => true
  | .bl, .int => true
  | .int, .int => true
  | .str, .str => true
  | .tup, .tup => true
  | .lst, .lst => true
  | .dct, .dct => true
  | _, _ => false
theorem kit_isB (a b : Ty) (hb : b ≠ .non) : PySem.W.kitOne K (.type a.name) (.type b.name) = some (isB a b) := by
  apply kit_ty
  cases a <;> cases b <;> first | exact absurd rfl hb | decide +kernel
def tyD : D → Option Ty
  | .non => some .non
  | .bl _ => some .bl
  | .int _ => some .int
  | .str _ => some .str
  | .tup _ => some .tup
  | .lst _ => some .lst
  | .scr _ => some .lst
  | .dK _ => some .dct
  | .dT _ => some .dct
  | _ => none
theorem sqT_tyX {a : Addr} {xs : List V} (h : SqT K H a xs) : TyX K H (.ref a) (.type "tuple") := by
  rcases h with (h | ⟨o, h⟩) | ⟨o, its, n, h1, h2, _⟩
  · exact .base (.tup h)
  · exact .fTuple h
  · exact .kTuple h1 h2
theorem sqL_tyX {a : Addr} {xs : List V} (h : SqL K H a xs) : TyX K H (.ref a) (.type "list") := by
  rcases h with (h | ⟨o, h⟩) | ⟨o, its, n, h1, h2, _⟩
  · exact .base (.lst h)
  · exact .base (.frz h)
  · exact .kList h1 h2
theorem tyD_tyX (e : Ex F H) {d : D} {v : V} {t : Ty} (h : RepB K F H d v) (ht : tyD d = some t) : TyX K H v (.type t.name) := by
  cases d <;> simp only [tyD, Option.some.injEq, reduceCtorEq] at ht <;> subst ht <;> simp only [RepB] at h
  case non => subst h; exact .base .non
  case bl => subst h; exact .base (.bl _)
  case int => subst h; exact .base (.int _)
  case str => subst h; exact .base (.str _)
  case tup => obtain ⟨a, xs, rfl, h1, _⟩ := h; exact sqT_tyX (Evl.ex_t e h1)
  case lst => obtain ⟨a, xs, rfl, h1, _⟩ := h; exact .base (.lst h1)
  case scr => obtain ⟨a, rfl, h1⟩ := h; exact sqL_tyX h1
  case dK => obtain ⟨a, xs, rfl, h1, _⟩ := h; exact .base (.dK h1)
  case dT => obtain ⟨a, xs, rfl, h1, _⟩ := h; exact .base (.dT h1)
def gIsi (T : Ty) (d : D) : Option Rv := (tyD d).map fun t => .val (.bl (isB t T))
theorem pd_isi {X : Cx} {W : WX} {a : Expr} {t : DE} (T : Ty) (hT : T ≠ .non) {x : Str} {p pos q : Pos} (he : PDe X W a t) (hg : Gl X "isinstance") (hm : X.mg "isinstance" = none) (hgT : Gl X x) (hmT : X.mg x = none) (hvT : bootBuiltins x = some (.type T.name))
    (hn : x ≠ "__name__" := by decide) (hd : (x == ("__debug__" : Str)) = false := by decide) (h1 : starEach [a, .Name x q] X.env = (false, eval a X.env) :: starEach [.Name x q] X.env := by rfl)
    (h2 : starEach [.Name x q] X.env = (false, eval (.Name x q) X.env) :: starEach [] X.env := by rfl) (hpl : (backTo pos (starEach [.Name x q] X.env)).any (·.1) = false := by rfl) :
    PDe X W (.Call (.Name "isinstance" p) [a, .Name x q] [] pos) (dUn (gIsi T) t) := by
  obtain ⟨te, a1, a2⟩ := he
  refine ⟨_, pe_callB call_isi hg hm PyProof.Rows.boot_isinstance (pa_cons a1 (pa_cons (pe_bltn (v := .ty T.name) hgT hmT hvT rfl hn hd) L2.pa_nil h2) h1) (by decide) (by decide) h1 hpl, fun ρ F0 H0 F σ H st => ?_⟩
  refine Bd.bind (te2 := fun x H1 Q => rIsi X.K [x, .ty T.name] H1 Q) (a2 ρ F0 H0 F σ H st) fun r v F1 H1 _ s1 o => Bd.of fun rv g Q k => ?_
  obtain ⟨ty, g1, rfl⟩ := Option.map_eq_some_iff.mp g
  have hb := o.b s1.fr (st.base.trans s1.h)
  exact ⟨v, .ty T.name, .type ty.name, .type T.name, isB ty T, rfl, .ty _, tyD_tyX s1.fr hb g1, kit_isB ty T hT, k _ F1 H1 (.refl s1.fr) rv_bl⟩
end
end DL
set_option maxHeartbeats 4000000
namespace DL
open PySem L2 PyProof.Rows
open Evl (Ex)

/-! ### what is called -/
structure CalD (P : Program) (w : World) (K : PySem.W.Frag) (mg : Str → Option Value) (base : Heap) (k : Nat) (x : Str) (ms : List Bool) (m : List D → R Rv) : Prop where
  ex : ∃ (f : Addr) (fd : FuncData) (ps : List Str), FnD P w K mg base k f fd ps ms m ∧ mg x = some (.ref f) ∧ PySem.W.keepIn K (.ref f) = true ∧ Binds K fd ps []
structure CalR (P : Program) (w : World) (K : PySem.W.Frag) (mg : Str → Option Value) (base : Heap) (A : Around) (x : Str) (ms : List Bool) (m : List D → R Rv) : Prop where
  ex : ∃ (k : Nat) (f : Addr) (fd : FuncData) (ps : List Str), FnD P w K mg base k f fd ps ms m ∧ Room k A ∧ mg x = some (.ref f) ∧ PySem.W.keepIn K (.ref f) = true ∧ Binds K fd ps []
theorem CalD.mono {P : Program} {w : World} {K : PySem.W.Frag} {mg : Str → Option Value} {base : Heap} {j k : Nat} {x : Str} {ms : List Bool} {m : List D → R Rv} {A : Around} (c : CalD P w K mg base j x ms m) (hr : Room k A) (h : j ≤ k) : CalR P w K mg base A x ms m := by
  obtain ⟨f, fd, ps, h1, h2, h3, h4⟩ := c.ex
  exact ⟨j, f, fd, ps, h1, hr.mono h, h2, h3, h4⟩
theorem hu5_of {k : Nat} {A : Around} (r : Room k A) : A.units + 65 < cLine := by have := r.un; omega
theorem fn_0 {P : Program} {w : World} {K : PySem.W.Frag} {mg : Str → Option Value} {base : Heap} {k : Nat} {f : Addr} {fd : FuncData} {ps : List Str} {ms : List Bool} {m : List D → R Rv} (h : m = fun _ => .bad) : FnD P w K mg base k f fd ps ms m := by
  subst h
  refine ⟨fun vs H Q E q => ?_, fun A outer s H args us vs Q E _ _ _ _ q => ?_⟩
  · obtain ⟨_, _, _, _, z⟩ := q; exact z.elim
  · obtain ⟨_, _, _, _, z⟩ := q; exact z.elim
section
variable {X : Cx} {W : WX}
theorem pd_callD {x : Str} {ms : List Bool} {m : List D → R Rv} {e : Expr} {es : List Expr} {t : DA} {p pos : Pos} (C : CalR X.prog X.w X.K X.mg X.base X.A x ms m) (tk : Takes X W) (hg : Gl X x) (ha : PDas X W (e :: es) ms t)
    (hd : (x == ("__debug__" : Str)) = false := by decide) (he : starEach (e :: es) X.env = (false, eval e X.env) :: starEach es X.env := by rfl) (hpl : (backTo pos (starEach es X.env)).any (·.1) = false := by rfl) :
    PDe X W (.Call (.Name x p) (e :: es) [] pos) (dCall m t) := by
  obtain ⟨k, f, fd, ps, h1, h2, h3, h4, h5⟩ := C.ex
  exact pd_call h1 h2 tk hg h3 h4 h5 ha hd he hpl
theorem pd_callD0 {x : Str} {m : List D → R Rv} {p pos : Pos} (C : CalR X.prog X.w X.K X.mg X.base X.A x [] m) (tk : Takes X W) (hg : Gl X x) (hd : (x == ("__debug__" : Str)) = false := by decide) :
    PDe X W (.Call (.Name x p) [] [] pos) (dCall m aNil) := by
  obtain ⟨k, f, fd, ps, F, hr, hm, hk, hb⟩ := C.ex
  refine ⟨tCallS (SpD X.K [] m) (WE W) tNil, ⟨fun pins s σ H Q I h => ?_⟩, bd_call fun ρ F0 H0 F σ H st Q k => k [] F H (.refl st.fr) ⟨rfl, rfl⟩⟩
  exact wpAny_Call_Name_kw (ld_glob I hg hm (PySem.W.callWith_K0 I.kIn hk (run_fnS (us := []) F hr hb (passAt tk σ) I .nil h)) hd)
theorem pg_nameD (nd : X.N.Nodup) (i : Nat) {x : Str} {pos : Pos} (hi : X.N[i]? = some x := by rfl) (hx : Loc X.env.scope x := by first | exact .inl rfl | exact .inr rfl) (hf : X.fn x = true ∨ X.env.scope.names.lookup x = some .local := by first | exact .inl rfl | exact .inr rfl) :
    PG X (.Name x pos) (gName i) := pg_name nd hi hx hf
theorem pt_isN {a : Expr} {t : DE} {j : Nat} {pos' pos : Pos} (he : PDe X W a t) (hm : behindInMarks .Is (.Constant .none j pos') = false := by rfl) : PDt X W (.Compare a [.Is] [.Constant .none j pos'] pos) (dTest (dUn (gIsN false) t)) := by
  obtain ⟨te, a1, a2⟩ := he
  refine ⟨_, L2.pt_cmp (pc_isN a1) hm, bd_test (te := tIsN te) fun ρ F0 H0 F σ H st => ?_⟩
  refine Bd.bind (te2 := fun x H1 Q => Q (V.bl (decide (x = .non))) H1) (a2 ρ F0 H0 F σ H st) fun r v F1 H1 _ s1 o => Bd.of fun rv g Q k => ?_
  have hb := o.b s1.fr (st.base.trans s1.h)
  show Q (V.bl (decide (v = .non))) H1
  rw [repB_isN hb]
  generalize r.d = d at g
  cases d <;> (injection g with g; subst g; exact k _ F1 H1 (.refl s1.fr) rv_bl)
theorem pt_notN {a : Expr} {t : DE} {j : Nat} {pos' pos : Pos} (he : PDe X W a t) (hm : behindInMarks .IsNot (.Constant .none j pos') = false := by rfl) : PDt X W (.Compare a [.IsNot] [.Constant .none j pos'] pos) (dTest (dUn (gIsN true) t)) := by
  obtain ⟨te, a1, a2⟩ := he
  refine ⟨_, L2.pt_cmp (pc_notN a1) hm, bd_test (te := tNotN te) fun ρ F0 H0 F σ H st => ?_⟩
  refine Bd.bind (te2 := fun x H1 Q => Q (V.bl (!decide (x = .non))) H1) (a2 ρ F0 H0 F σ H st) fun r v F1 H1 _ s1 o => Bd.of fun rv g Q k => ?_
  have hb := o.b s1.fr (st.base.trans s1.h)
  show Q (V.bl (!decide (v = .non))) H1
  rw [repB_isN hb]
  generalize r.d = d at g
  cases d <;> (injection g with g; subst g; exact k _ F1 H1 (.refl s1.fr) rv_bl)
/-! ### list(range(..)), tuple(range(..)) -/
theorem rgV_reps {K : PySem.W.Frag} {F : Hp} {a b : Int} : Reps K F (rangeD a (b - a).toNat) (rgV a b) := by
  unfold rangeD rgV
  have : ∀ l : List Nat, Reps K F (l.map fun k => D.int (a + (k : Nat))) (l.map fun i => V.int (a + (i : Nat))) := by
    intro l
    induction l with
    | nil => exact Reps.nil
    | cons x l ih => exact Reps.cons (by simp only [Rep]) ih
  exact this _
/-- the bounds of a range that is laid as a list -/
def rgOk (a b : Int) : Prop := small a ∧ small b ∧ (b - a).toNat ≤ 16777216
noncomputable instance (a b : Int) : Decidable (rgOk a b) := Classical.propDecidable _
theorem rgOk.ok {a b : Int} (h : rgOk a b) : RgOk a b := by
  obtain ⟨⟨h1, h2⟩, ⟨h3, h4⟩, h5⟩ := h
  exact ⟨by omega, by omega, by omega, by omega, h5⟩
noncomputable def rgOwn (k : List D → Rv) (lo hi : D) : Option Rv := match lo, hi with
  | .int a, .int b => if rgOk a b then some (k (rangeD a (b - a).toNat)) else none
  | _, _ => none
noncomputable def dListRg1 (t : DE) : DE := fun ρ => (t ρ).bind fun r => .of (rgOwn (fun l => .own (.lst l)) (.int 0) r.d)
noncomputable def dListRg2 (t u : DE) : DE := dOp (rgOwn fun l => .own (.lst l)) t u
noncomputable def dTupleRg1 (t : DE) : DE := fun ρ => (t ρ).bind fun r => .of (rgOwn (fun l => .val (.tup l)) (.int 0) r.d)
noncomputable def dTupleRg2 (t u : DE) : DE := dOp (rgOwn fun l => .val (.tup l)) t u
variable {a b : Expr} {t u : DE} {p p2 pos pos2 : Pos}
theorem pd_listRg1 (hm : X.mg "list" = none) (hm2 : X.mg "range" = none) (he : PDe X W a t) (hc : X.calm = true := by rfl) (hg : Gl X "list" := by rfl) (hg2 : Gl X "range" := by rfl) (na : starEach [a] X.env = (false, eval a X.env) :: starEach [] X.env := by rfl)
    (na2 : starEach [.Call (.Name "range" p2) [a] [] pos2] X.env = (false, eval (.Call (.Name "range" p2) [a] [] pos2) X.env) :: starEach [] X.env := by rfl) : PDe X W (.Call (.Name "list" p) [.Call (.Name "range" p2) [a] [] pos2] [] pos) (dListRg1 t) := by
  obtain ⟨te, a1, a2⟩ := he
  refine ⟨_, pe_listRg hc hg hm (prg_1 hg2 hm2 a1 na) na2, fun ρ F0 H0 F σ H st => ?_⟩
  refine Bd.bind (te2 := fun x H1 Q => ∃ n, x = V.int n ∧ (RgOk 0 n ∧ ∀ q, H1 q = none → Q (V.ref q) (upd H1 q (.lst (rgV 0 n))))) (a2 ρ F0 H0 F σ H st) fun r v F1 H1 _ s1 o => Bd.of fun rv g Q k => ?_
  have hb := o.b s1.fr (st.base.trans s1.h)
  unfold rgOwn at g
  split at g
  case h_2 => cases g
  case h_1 _ _ i j e1 e2 =>
    split at g
    case isFalse => cases g
    case isTrue hr =>
      injection g with g; subst g
      injection e1 with e1; subst e1
      rw [e2] at hb
      exact ⟨j, hb, hr.ok, fun q hq => k _ F1 _ (Step.newH s1.fr hq) ((rv_own s1.fr hq rgV_reps).start s1.h)⟩
theorem pd_listRg2 (hm : X.mg "list" = none) (hm2 : X.mg "range" = none) (he : PDe X W a t) (he2 : PDe X W b u) (hc : X.calm = true := by rfl) (hg : Gl X "list" := by rfl) (hg2 : Gl X "range" := by rfl) (na : starEach [a, b] X.env = (false, eval a X.env) :: starEach [b] X.env := by rfl)
    (nb : starEach [b] X.env = (false, eval b X.env) :: starEach [] X.env := by rfl) (hp : (backTo pos2 (starEach [b] X.env)).any (·.1) = false := by rfl)
    (na2 : starEach [.Call (.Name "range" p2) [a, b] [] pos2] X.env = (false, eval (.Call (.Name "range" p2) [a, b] [] pos2) X.env) :: starEach [] X.env := by rfl) : PDe X W (.Call (.Name "list" p) [.Call (.Name "range" p2) [a, b] [] pos2] [] pos) (dListRg2 t u) := by
  obtain ⟨te, a1, a2⟩ := he
  obtain ⟨te2, b1, b2⟩ := he2
  refine ⟨_, pe_listRg hc hg hm (prg_2 hg2 hm2 a1 b1 na nb hp) na2, ?_⟩
  refine bd_op (op := fun _ _ _ _ => True) (r := fun x y H Q => ∃ i j, x = V.int i ∧ y = V.int j ∧ (RgOk i j ∧ ∀ q, H q = none → Q (V.ref q) (upd H q (.lst (rgV i j))))) ?_ a2 b2
  intro F H0 H dx dy x y rv e hx hy g Q k
  unfold rgOwn at g
  split at g
  case h_2 => cases g
  case h_1 i j =>
    split at g
    case isFalse => cases g
    case isTrue hr =>
      injection g with g; subst g
      exact ⟨i, j, hx, hy, hr.ok, fun q hq => k _ F _ (Step.newH e hq) (rv_own e hq rgV_reps)⟩
theorem pd_tupleRg1 (hm : X.mg "tuple" = none) (hm2 : X.mg "range" = none) (he : PDe X W a t) (hc : X.calm = true := by rfl) (hg : Gl X "tuple" := by rfl) (hg2 : Gl X "range" := by rfl) (na : starEach [a] X.env = (false, eval a X.env) :: starEach [] X.env := by rfl)
    (na2 : starEach [.Call (.Name "range" p2) [a] [] pos2] X.env = (false, eval (.Call (.Name "range" p2) [a] [] pos2) X.env) :: starEach [] X.env := by rfl) : PDe X W (.Call (.Name "tuple" p) [.Call (.Name "range" p2) [a] [] pos2] [] pos) (dTupleRg1 t) := by
  obtain ⟨te, a1, a2⟩ := he
  refine ⟨_, pe_tupRg hc hg hm (prg_1 hg2 hm2 a1 na) na2, fun ρ F0 H0 F σ H st => ?_⟩
  refine Bd.bind (te2 := fun x H1 Q => ∃ n, x = V.int n ∧ (RgOk 0 n ∧ ∀ q, H1 q = none → Q (V.ref q) (upd H1 q (.tup (rgV 0 n))))) (a2 ρ F0 H0 F σ H st) fun r v F1 H1 _ s1 o => Bd.of fun rv g Q k => ?_
  have hb := o.b s1.fr (st.base.trans s1.h)
  unfold rgOwn at g
  split at g
  case h_2 => cases g
  case h_1 _ _ i j e1 e2 =>
    split at g
    case isFalse => cases g
    case isTrue hr =>
      injection g with g; subst g
      injection e1 with e1; subst e1
      rw [e2] at hb
      exact ⟨j, hb, hr.ok, fun q hq => k _ _ _ (Step.newF s1.fr hq) ((rv_tup s1.fr hq rgV_reps).start s1.h)⟩
theorem pd_tupleRg2 (hm : X.mg "tuple" = none) (hm2 : X.mg "range" = none) (he : PDe X W a t) (he2 : PDe X W b u) (hc : X.calm = true := by rfl) (hg : Gl X "tuple" := by rfl) (hg2 : Gl X "range" := by rfl) (na : starEach [a, b] X.env = (false, eval a X.env) :: starEach [b] X.env := by rfl)
    (nb : starEach [b] X.env = (false, eval b X.env) :: starEach [] X.env := by rfl) (hp : (backTo pos2 (starEach [b] X.env)).any (·.1) = false := by rfl)
    (na2 : starEach [.Call (.Name "range" p2) [a, b] [] pos2] X.env = (false, eval (.Call (.Name "range" p2) [a, b] [] pos2) X.env) :: starEach [] X.env := by rfl) : PDe X W (.Call (.Name "tuple" p) [.Call (.Name "range" p2) [a, b] [] pos2] [] pos) (dTupleRg2 t u) := by
  obtain ⟨te, a1, a2⟩ := he
  obtain ⟨te2, b1, b2⟩ := he2
  refine ⟨_, pe_tupRg hc hg hm (prg_2 hg2 hm2 a1 b1 na nb hp) na2, ?_⟩
  refine bd_op (op := fun _ _ _ _ => True) (r := fun x y H Q => ∃ i j, x = V.int i ∧ y = V.int j ∧ (RgOk i j ∧ ∀ q, H q = none → Q (V.ref q) (upd H q (.tup (rgV i j))))) ?_ a2 b2
  intro F H0 H dx dy x y rv e hx hy g Q k
  unfold rgOwn at g
  split at g
  case h_2 => cases g
  case h_1 i j =>
    split at g
    case isFalse => cases g
    case isTrue hr =>
      injection g with g; subst g
      exact ⟨i, j, hx, hy, hr.ok, fun q hq => k _ _ _ (Step.newF e hq) (rv_tup e hq rgV_reps)⟩
/-! ### xs.index(x) -/
/-- the first place of an equal one -/
def indexD (d : D) (ds : List D) : Option Nat := ds.findIdx? fun z => eqD z d
def gIndex : D → D → Option Rv
  | .lst ds, d => if cmpOk d = true ∧ cmpOk (.lst ds) = true then (indexD d ds).map fun j => .val (.int (j : Nat)) else none
  | _, _ => none
def dIndex (t u : DE) : DE := fun ρ => (t ρ).bind fun r => match r.d with
  | .lst ds => (u ρ).bind fun y => .of (gIndex (.lst ds) y.d)
  | _ => .bad
theorem pd_index (hu : X.A.units + 65 < cLine) {ap cp : Pos} (he : PDe X W a t) (hx : PDe X W b u) (hbase : attributeBase a "index" X.env (eval a X.env) = eval a X.env := by rfl)
    (hfew : ((backTo cp (starEach (b :: []) X.env)).all (fun x => !x.1) && (backToKw cp (keywordEach [] X.env)).all (fun x => x.1.isSome)
      && decide ((b :: []).length + ([] : List Keyword).length + (if ([] : List Keyword).isEmpty then 0 else 1) < 30)) = true := by rfl)
    (hline : (ap.endLine == cp.line) = true := by rfl) (hs : starEach (b :: []) X.env = (false, eval b X.env) :: starEach [] X.env := by rfl) (hplain : (backTo cp (starEach [] X.env)).any (·.1) = false := by rfl) :
    PDe X W (.Call (.Attribute a "index" ap) [b] [] cp) (dIndex t u) := by
  obtain ⟨te, a1, a2⟩ := he
  obtain ⟨tf, b1, b2⟩ := hx
  refine ⟨_, pe_bm PySem.F.plainAttrs_list PySem.F.slot_list_index PySem.F.type_list_index (mt_indexD hu) a1 (pa_cons b1 L2.pa_nil hs) hbase hfew hline hs hplain, fun ρ F0 H0 F σ H st => ?_⟩
  intro Q
  have z := a2 ρ F0 H0 F σ H st (fun x H1 => tyV X.K "list" x H1 ∧ tf σ H1 fun y H2 => rIndexD X.K x [y] H2 Q)
  unfold dIndex
  cases e1 : t ρ with
  | bad => trivial
  | exc x => rw [e1] at z; exact z
  | ok r =>
    rw [e1] at z
    rw [R.bind_ok]
    split
    case h_1 rr ad ed =>
      split at ed
      case h_2 => cases ed
      case h_1 ds edd =>
      cases e2 : u ρ with
      | bad => rw [e2] at ed; cases ed
      | exc x => rw [e2] at ed; cases ed
      | ok r2 =>
        rw [e2, R.bind_ok] at ed
        cases e3 : gIndex (.lst ds) r2.d with
        | none => rw [e3] at ed; cases ed
        | some rv =>
          rw [e3] at ed
          injection ed with ed
          subst ed
          refine fun k => z fun v F1 H1 s1 o => ?_
          have hb := o.b s1.fr (st.base.trans s1.h)
          unfold gIndex at e3
          dsimp only at e3
          split at e3
          case isFalse => cases e3
          case isTrue hc =>
            obtain ⟨j, e4, rfl⟩ := Option.map_eq_some_iff.mp e3
            have hb' := hb
            rw [edd] at hb'
            obtain ⟨p, ys, rfl, h1, h2⟩ := hb'
            refine ⟨.inl ⟨rfl, ys, SqL.of h1⟩, ?_⟩
            have y := b2 ρ F0 H0 F1 σ H1 (st.step s1) (fun y H2 => rIndexD X.K (.ref p) [y] H2 Q)
            rw [e2] at y
            refine y fun v2 F2 H2 s2 o2 => ?_
            have st2 := (st.step s1).step s2
            have hb2 := o2.b st2.fr st2.base
            have hbl := hb.mono s2.f s2.h
            rw [edd] at hbl
            simp only [cmpOk, Bool.and_eq_true] at hc
            have q1 := hbl.dp st2.fr hc.2.1
            have q2 := hb2.dp st2.fr hc.1.1
            simp only [pyD, pyDs_map] at q1
            have c2 := hc.2.2
            simp only [pyD, pyDs_map] at c2
            unfold indexD at e4
            obtain ⟨i1, i2, i3⟩ := List.findIdx?_eq_some_iff_getElem.mp e4
            refine ⟨p, v2, _, _, j, pyD (ds[j]'i1), rfl, rfl, q1, q2, c2, hc.1.2, by rw [List.getElem?_map, List.getElem?_eq_getElem i1]; rfl, i2, fun m z' hm hz => ?_, k _ F2 H2 (s1.trans s2) rv_int⟩
            rw [List.getElem?_map, List.getElem?_eq_getElem (by omega)] at hz
            simp only [Option.map_some, Option.some.injEq] at hz
            subst hz
            have := i3 m hm
            simpa [eqD] using this
    case h_2 rr x ed =>
      split at ed
      case h_2 => cases ed
      case h_1 ds edd =>
      cases e2 : u ρ with
      | bad => rw [e2] at ed; cases ed
      | ok r2 =>
        rw [e2, R.bind_ok] at ed
        cases e3 : gIndex (.lst ds) r2.d with
        | none => rw [e3] at ed; cases ed
        | some rv => rw [e3] at ed; cases ed
      | exc y =>
        rw [e2, R.bind_exc] at ed
        injection ed with ed
        subst ed
        refine fun k => z fun v F1 H1 s1 o => ?_
        have hb := o.b s1.fr (st.base.trans s1.h)
        rw [edd] at hb
        obtain ⟨p, ys, rfl, h1, h2⟩ := hb
        refine ⟨.inl ⟨rfl, ys, SqL.of h1⟩, ?_⟩
        have yy := b2 ρ F0 H0 F1 σ H1 (st.step s1) (fun y H2 => rIndexD X.K (.ref p) [y] H2 Q)
        rw [e2] at yy
        exact yy fun cls d F' H' s' o' => k cls d F' H' (s1.trans s') o'
    case h_3 => trivial
end
/-! ### the end -/
theorem walk_d {l : PySem.W.OpenLaw} {q : Program} {loose : List Str} {XP : (Str → Option Value) → Heap → Prop} {YP : World → Heap → Prop} {d : DefRec} {K : Params → PySem.W.Frag} {k : Nat} {m : List D → R Rv} (hn : l.most = some 63) (hdf : d.params.defaults = [])
    (hr : Room k callerA) (hY : ∀ (w : World) (h : Heap), YP w h → (K w.params).In h)
    (F : ∀ (w : World) (mg : Str → Option Value) (fa : Addr) (h : Heap), (K w.params).In h → h.Ns mainGlobals mg → mg d.name = some (.ref fa) →
      ∃ fd : FuncData, (∀ (s : Shared) (u : Value), BindsTo s fd ⟨[u], []⟩ [("script", u)]) ∧ ∀ base : Heap, (K w.params).In base → base.Ns mainGlobals mg → FnD l.prog w (K w.params) mg base k fa fd ["script"] [false] m)
    (hm : ∀ ns : List Int, ns.length ≤ 63 → m [.scr ns] = .ok (.val (.bl true))) :
    PySem.W.WalkO q loose XP YP l.row.toRowW d [] (fun f vs => PySem.call f vs) := by
  refine L2.walk_of (n := 63) (k := k) (x := "script") (CX := fun w => L2.CX l.prog w) (sp := fun w => SpD (K w.params) [false] m) hn (by decide) hdf hr hY F (fun w H a ns hl _ hS => ?_) (fun w H s e s' h => ?_)
  · refine ⟨fun _ => none, [.scr ns], (fun _ _ h => by cases h), ⟨_, _, _, _, rfl, rfl, ⟨a, rfl, hS⟩, rfl, rfl⟩, ?_⟩
    rw [hm ns hl]
    intro v F' H' _ o
    have o : Rep (K w.params) F' (.bl true) v := o
    simpa only [Rep] using o
  · obtain ⟨_, _, _, _, _, _, _, _, _, _, _, _, z⟩ := h
    exact z.elim
end DL
set_option maxHeartbeats 4000000
namespace DL
open PySem L2
open Evl (Ex)
open PySem.Spec PyProof.Rows
/-! ### len(set(xs)) -/
def nubI : List Int → List Int
  | [] => []
  | x :: l => if x ∈ l then nubI l else x :: nubI l
theorem mem_nubI {x : Int} : ∀ {l : List Int}, x ∈ nubI l ↔ x ∈ l
  | [] => by simp [nubI]
  | y :: l => by
    unfold nubI
    split
    · rename_i h
      rw [mem_nubI, List.mem_cons]
      constructor
      · exact .inr
      · rintro (rfl | h2)
        · exact h
        · exact h2
    · rw [List.mem_cons, List.mem_cons, mem_nubI]
theorem nodup_nubI : ∀ l : List Int, (nubI l).Nodup
  | [] => .nil
  | y :: l => by
    unfold nubI
    split
    · exact nodup_nubI l
    · rename_i h
      exact List.nodup_cons.mpr ⟨fun h2 => h (mem_nubI.mp h2), nodup_nubI l⟩
theorem nub_len {ks ns : List Int} (hn : ks.Nodup) (hm : ∀ k, k ∈ ks ↔ k ∈ ns) : ks.length = (nubI ns).length :=
  ((List.perm_ext_iff_of_nodup hn (nodup_nubI ns)).mpr fun a => (hm a).trans mem_nubI.symm).length_eq
theorem firstMet_nd (f : Nat → Int) : ∀ i, (firstMet f i).Nodup
  | 0 => .nil
  | i + 1 => by
    rw [firstMet_succ]
    unfold step_dedup
    split
    · exact firstMet_nd f i
    · rename_i h
      refine List.nodup_append.mpr ⟨firstMet_nd f i, by simp, fun a ha b hb e => h ?_⟩
      simp only [List.mem_singleton] at hb
      subst hb; subst e
      exact List.any_eq_true.mpr ⟨_, ha, by simp⟩
theorem firstMet_mem (ns : List Int) (k : Int) : k ∈ firstMet (fun i => ns.getD i 0) ns.length ↔ k ∈ ns := by
  have h := firstMet_any (fun i => ns.getD i 0) ns.length k
  have e : (List.range ns.length).map (fun i => ns.getD i 0) = ns := by
    apply List.ext_getElem?
    intro i
    by_cases hi : i < ns.length
    · simp [hi]
    · simp [hi]
  rw [e] at h
  have a : ∀ l : List Int, (l.any (· == k) = true ↔ k ∈ l) := fun l => by simp only [List.any_eq_true, beq_iff_eq, exists_eq_right]
  rw [← a, h, a]
def rLenSet (K : PySem.W.Frag) (x : V) (H : Hp) (Q : V → Hp → Prop) : Prop :=
  ∃ (l : Addr) (ns : List Int), x = V.ref l ∧ (SqL K H l (ns.map V.int) ∨ SqT K H l (ns.map V.int)) ∧ ns.length ≤ 1000 ∧ Q (.int (nubI ns).length) H
theorem pe_lenS {X : Cx} {a : Expr} {ta : TE} {p p2 q pos : Pos} (hc : X.calm = true) (hg : Gl X "len") (hm : X.mg "len" = none) (hg2 : Gl X "set") (hm2 : X.mg "set" = none) (ha : PE X a ta)
    (na : starEach [a] X.env = (false, eval a X.env) :: starEach [] X.env) : PE X (.Call (.Name "len" p) [.Call (.Name "set" p2) [a] [] q] [] pos) (fun σ H Q => ta σ H fun x H1 => rLenSet X.K x H1 Q) := by
  refine ⟨fun pins s σ H Q I h => Call_ (ld_blt I hg hm PySem.boot_len (PyProof.Rows.callWith_builtin1 (PyProof.Rows.args_cons ?_ rfl) rfl rfl))⟩
  refine Call_ (ld_blt I hg2 hm2 PyProof.Rows.boot_set (PyProof.Rows.callWith_type1 (PyProof.Rows.args_cons (thn (ha.run pins s σ H _ I h) fun v s1 ⟨x, H1, I1, r1, q1⟩ => PyProof.Rows.args_nil ?_) na) na rfl))
  obtain ⟨l, ns, rfl, hq, hlen, q1⟩ := q1
  cases r1
  rcases hq with hq | hq
  · obtain ⟨its, r, pl, hz⟩ := I1.list hq
    have hl : its.toArray.size = ns.length := by rw [List.size_toArray, ← r.length, List.length_map]
    refine PySem.call_set_list (I1.ok.hd hc) pl.isList (ns := ns) (by simpa using r.ints) (by unfold scanBound; omega) fun h' tk hS hk => PyProof.Rows.args_nil ?_
    have hfit := nub_len (firstMet_nd (fun i => ns.getD i 0) ns.length) (firstMet_mem ns)
    have hle : (nubI ns).length ≤ 1000 := by rw [← hfit]; exact Nat.le_trans (firstMet_length_le _ _) hlen
    rw [hl] at hS
    obtain ⟨o, es, ep, t, ho, hex, hd, _, _, _, hf, hn⟩ := hS
    have I2 : Inv X pins σ H1 { s1 with heap := h', toks := tk } := I1.kept fun b o e => hk b o (Heap.lt_size e) e
    exact call_len_set ho hex hd hf (by rw [hn, hfit]; omega) ⟨.int (nubI ns).length, H1, I2.tok _, ⟨_, by rw [hn, hfit]⟩, q1⟩
  · obtain ⟨its, r, pl, hz⟩ := I1.tuple hq
    refine call_set_tupI ns (I1.ok.hd hc) pl (by simpa using r.ints) (by unfold scanBound; omega) fun h' tk c hS hcl hk => PyProof.Rows.args_nil ?_
    obtain ⟨o, es, ep, t, ho, hex, hd, _, hnd, hmem, _, hf, hn, _⟩ := hS
    have hfit : c = (nubI ns).length := by
      rw [← hn, ← nub_len hnd (ns := ns) (fun k => (hmem k).symm.trans decide_eq_true_iff), List.length_map, Array.length_toList]
    have I2 : Inv X pins σ H1 { s1 with heap := h', toks := tk } := I1.kept fun b o e => hk b o e
    exact call_len_set ho hex hd hf (by rw [hn]; omega) ⟨.int (nubI ns).length, H1, I2.tok _, ⟨_, by rw [hn, hfit]⟩, q1⟩
def gLenSet : D → Option Rv
  | .lst ds => (intsOf ds).bind fun ns => if ns.length ≤ 1000 then some (.val (.int (nubI ns).length)) else none
  | .tup ds => (intsOf ds).bind fun ns => if ns.length ≤ 1000 then some (.val (.int (nubI ns).length)) else none
  | _ => none
theorem pd_lenSet {X : Cx} {W : WX} {a : Expr} {t : DE} {p p2 q pos : Pos} (hm : X.mg "len" = none) (hm2 : X.mg "set" = none) (ha : PDe X W a t) (hc : X.calm = true := by rfl) (hg : Gl X "len" := by rfl) (hg2 : Gl X "set" := by rfl)
    (na : starEach [a] X.env = (false, eval a X.env) :: starEach [] X.env := by rfl) : PDe X W (.Call (.Name "len" p) [.Call (.Name "set" p2) [a] [] q] [] pos) (dUn gLenSet t) := by
  obtain ⟨te, a1, a2⟩ := ha
  refine ⟨_, pe_lenS hc hg hm hg2 hm2 a1 na, fun ρ F0 H0 F σ H st => ?_⟩
  refine Bd.bind (te2 := fun x H1 Q => rLenSet X.K x H1 Q) (a2 ρ F0 H0 F σ H st) fun r v F1 H1 _ s1 o => Bd.of fun rv g Q k => ?_
  have ob := o.b s1.fr (st.base.trans s1.h)
  unfold gLenSet at g
  split at g
  case h_3 => cases g
  case h_1 ds e1 =>
    obtain ⟨ns, g1, g2⟩ := Option.bind_eq_some_iff.mp g
    split at g2
    case isFalse => cases g2
    case isTrue hl =>
      injection g2 with g2; subst g2
      rw [e1] at ob
      obtain ⟨b, xs, rfl, h1, h2⟩ := ob
      rw [intsOf_eq g1] at h2
      exact ⟨b, ns, rfl, .inl (SqL.of (by rw [h1, Reps.ints h2])), hl, k _ F1 H1 (.refl s1.fr) rv_int⟩
  case h_2 ds e1 =>
    obtain ⟨ns, g1, g2⟩ := Option.bind_eq_some_iff.mp g
    split at g2
    case isFalse => cases g2
    case isTrue hl =>
      injection g2 with g2; subst g2
      rw [e1] at ob
      obtain ⟨b, xs, rfl, h1, h2⟩ := ob
      rw [intsOf_eq g1] at h2
      have h3 := Reps.ints h2
      subst h3
      exact ⟨b, ns, rfl, .inr (Evl.ex_t s1.fr h1), hl, k _ F1 H1 (.refl s1.fr) rv_int⟩
/-! ### order of tuples of ints -/
def lexGe (ns ms : List Int) : Bool := Ob.lexAt (fun j => decide (ns.getD j 0 = ms.getD j 0)) (fun j => decide (ms.getD j 0 ≤ ns.getD j 0)) (decide (ns.length ≥ ms.length)) 0 (min ns.length ms.length)
def lexLt (ns ms : List Int) : Bool := Ob.lexAt (fun j => decide (ns.getD j 0 = ms.getD j 0)) (fun j => decide (ns.getD j 0 < ms.getD j 0)) (decide (ns.length < ms.length)) 0 (min ns.length ms.length)
def lexGt (ns ms : List Int) : Bool := Ob.lexAt (fun j => decide (ns.getD j 0 = ms.getD j 0)) (fun j => decide (ms.getD j 0 < ns.getD j 0)) (decide (ns.length > ms.length)) 0 (min ns.length ms.length)
def lexLe (ns ms : List Int) : Bool := Ob.lexAt (fun j => decide (ns.getD j 0 = ms.getD j 0)) (fun j => decide (ns.getD j 0 ≤ ms.getD j 0)) (decide (ns.length ≤ ms.length)) 0 (min ns.length ms.length)
def rTup (K : PySem.W.Frag) (f : List Int → List Int → Bool) : R2 := fun x y H Q => ∃ (a b : Addr) (ns ms : List Int), x = .ref a ∧ y = .ref b ∧ SqT K H a (ns.map V.int) ∧ SqT K H b (ms.map V.int) ∧ Q (.bl (f ns ms)) H
theorem eq_ii {A : Around} {s : Shared} (i j : Int) (t u : Tok) : SeqAt.EqAt A s (.int i t) (.int j u) (decide (i = j)) := by
  have z : (i == j) = decide (i = j) := Bool.eq_iff_iff.mpr (by simp)
  exact z ▸ SeqAt.EqAt.int_int _ _ _ _
section
variable {X : Cx} (hu : X.A.units + 64 < cLine)
include hu
theorem op_tupAll {op : CmpOp} {f : List Int → List Int → Bool} (h : ∀ {s : Shared} {a b : Addr} {us ws : Array Value} {ns ms : List Int}, s.heap.IsTuple a us → s.heap.IsTuple b ws → us.size = ns.length → ws.size = ms.length →
    (∀ j (h1 : j < us.size), ∃ t, us[j] = .int (ns.getD j 0) t) → (∀ j (h1 : j < ws.size), ∃ t, ws[j] = .int (ms.getD j 0) t) → Ob.RcOp op X.A s (.ref a) (.ref b) (f ns ms))
    (hop : compareOp op = richCompare op) : OpR X (compareOp op) (rTup X.K f) := by
  intro pins s σ H x y v u Q I rx ry hh
  obtain ⟨a, b, ns, ms, rfl, rfl, ha, hb, q⟩ := hh
  cases rx; cases ry
  obtain ⟨us, r1, p1, _⟩ := I.tuple ha
  obtain ⟨ws, r2, p2, _⟩ := I.tuple hb
  have i1 : IntsAre us ns := Vals.ints r1
  have i2 : IntsAre ws ms := Vals.ints r2
  have R := h p1 p2 (by rw [List.size_toArray]; exact i1.length) (by rw [List.size_toArray]; exact i2.length) (fun j h1 => PyProof.Rows.IntsAre.int_at i1 _ _ (by simp at h1; simp [h1])) (fun j h1 => PyProof.Rows.IntsAre.int_at i2 _ _ (by simp at h1; simp [h1]))
  rw [hop]
  exact R X.prog X.w X.xe (EP X pins σ Q) ⟨.bl _, H, I, rfl, q⟩
theorem op_geT : OpR X (compareOp .GtE) (rTup X.K lexGe) := by
  refine op_tupAll hu (fun {s a b us ws ns ms} p1 p2 e1 e2 g1 g2 => ?_) rfl
  have R := Ob.RcOp.tuples_ge (e := fun j => decide (ns.getD j 0 = ms.getD j 0)) (r := fun j => decide (ms.getD j 0 ≤ ns.getD j 0)) p1 p2 (Nat.lt_of_le_of_lt (Nat.le_add_right _ 64) hu)
    (fun j h1 h2 => by obtain ⟨t, et⟩ := g1 j h1; obtain ⟨t', et'⟩ := g2 j h2; rw [et, et']; exact eq_ii _ _ _ _) (fun j h1 h2 _ => by obtain ⟨t, et⟩ := g1 j h1; obtain ⟨t', et'⟩ := g2 j h2; rw [et, et']; exact Ob.RcOp.ge_int _ _ _ _)
  rw [e1, e2] at R
  exact R
theorem op_gtT : OpR X (compareOp .Gt) (rTup X.K lexGt) := by
  refine op_tupAll hu (fun {s a b us ws ns ms} p1 p2 e1 e2 g1 g2 => ?_) rfl
  have R := Ob.RcOp.tuples_gt (e := fun j => decide (ns.getD j 0 = ms.getD j 0)) (r := fun j => decide (ms.getD j 0 < ns.getD j 0)) p1 p2 (Nat.lt_of_le_of_lt (Nat.le_add_right _ 64) hu)
    (fun j h1 h2 => by obtain ⟨t, et⟩ := g1 j h1; obtain ⟨t', et'⟩ := g2 j h2; rw [et, et']; exact eq_ii _ _ _ _) (fun j h1 h2 _ => by obtain ⟨t, et⟩ := g1 j h1; obtain ⟨t', et'⟩ := g2 j h2; rw [et, et']; exact Ob.RcOp.gt_int _ _ _ _)
  rw [e1, e2] at R
  exact R
theorem op_ltT : OpR X (compareOp .Lt) (rTup X.K lexLt) := by
  refine op_tupAll hu (fun {s a b us ws ns ms} p1 p2 e1 e2 g1 g2 => ?_) rfl
  have R := Ob.RcOp.tuples_lt (e := fun j => decide (ns.getD j 0 = ms.getD j 0)) (r := fun j => decide (ns.getD j 0 < ms.getD j 0)) p1 p2 (Nat.lt_of_le_of_lt (Nat.le_add_right _ 64) hu)
    (fun j h1 h2 => by obtain ⟨t, et⟩ := g1 j h1; obtain ⟨t', et'⟩ := g2 j h2; rw [et, et']; exact eq_ii _ _ _ _) (fun j h1 h2 _ => by obtain ⟨t, et⟩ := g1 j h1; obtain ⟨t', et'⟩ := g2 j h2; rw [et, et']; exact Ob.RcOp.lt_int _ _ _ _)
  rw [e1, e2] at R
  exact R
theorem op_leT : OpR X (compareOp .LtE) (rTup X.K lexLe) := by
  refine op_tupAll hu (fun {s a b us ws ns ms} p1 p2 e1 e2 g1 g2 => ?_) rfl
  have R := Ob.RcOp.tuples_le (e := fun j => decide (ns.getD j 0 = ms.getD j 0)) (r := fun j => decide (ns.getD j 0 ≤ ms.getD j 0)) p1 p2 (Nat.lt_of_le_of_lt (Nat.le_add_right _ 64) hu)
    (fun j h1 h2 => by obtain ⟨t, et⟩ := g1 j h1; obtain ⟨t', et'⟩ := g2 j h2; rw [et, et']; exact eq_ii _ _ _ _) (fun j h1 h2 _ => by obtain ⟨t, et⟩ := g1 j h1; obtain ⟨t', et'⟩ := g2 j h2; rw [et, et']; exact Ob.RcOp.le_int _ _ _ _)
  rw [e1, e2] at R
  exact R
end
def gTup (f : List Int → List Int → Bool) : D → D → Option Rv
  | .tup xs, .tup ys => (intsOf xs).bind fun ns => (intsOf ys).map fun ms => .val (.bl (f ns ms))
  | _, _ => none
abbrev gGeT := gTup lexGe
abbrev gGtT := gTup lexGt
abbrev gLtT := gTup lexLt
abbrev gLeT := gTup lexLe
theorem opS_tup {K : PySem.W.Frag} {f : List Int → List Int → Bool} : OpS K (rTup K f) (gTup f) := by
  intro F H0 H dx dy x y rv e hx hy g Q k
  unfold gTup at g
  split at g
  case h_2 => cases g
  case h_1 xs ys =>
    obtain ⟨ns, g1, g2⟩ := Option.bind_eq_some_iff.mp g
    obtain ⟨ms, g3, rfl⟩ := Option.map_eq_some_iff.mp g2
    obtain ⟨a, us, rfl, h1, h2⟩ := hx
    obtain ⟨b, ws, rfl, h3, h4⟩ := hy
    rw [intsOf_eq g1] at h2
    rw [intsOf_eq g3] at h4
    have q2 := Reps.ints h2
    have q4 := Reps.ints h4
    subst q2; subst q4
    exact ⟨a, b, ns, ms, rfl, rfl, Evl.ex_t e h1, Evl.ex_t e h3, k _ F H (.refl e) rv_bl⟩
theorem gTup_ints (f : List Int → List Int → Bool) (ns ms : List Int) : gTup f (.tup (ns.map D.int)) (.tup (ms.map D.int)) = some (.val (.bl (f ns ms))) := by
  simp only [gTup, intsOf_map, Option.bind_some, Option.map_some]
theorem gLenSet_lst {ns : List Int} (h : ns.length ≤ 1000) : gLenSet (.lst (ns.map D.int)) = some (.val (.int (nubI ns).length)) := by simp only [gLenSet, intsOf_map, Option.bind_some, h, if_true]
theorem gLenSet_tup {ns : List Int} (h : ns.length ≤ 1000) : gLenSet (.tup (ns.map D.int)) = some (.val (.int (nubI ns).length)) := by simp only [gLenSet, intsOf_map, Option.bind_some, h, if_true]
end DL
set_option maxHeartbeats 4000000
namespace DL
open PySem L2

/-! ### the programs, unfolded -/
section
variable {ρ : Env} {t u tc : DE} {a b : DT} {ds : List D}
@[simp] theorem dC_eq (d : D) : dC d ρ = .ok (.val d) := (rfl)
@[simp] theorem dVar_eq (i : Nat) : dVar i ρ = (match ρ[i]? with | some (some s) => .ok s.rd | _ => .bad) := (rfl)
@[simp] theorem dOp_eq (g : D → D → Option Rv) : dOp g t u ρ = (t ρ).bind fun x => (u ρ).bind fun y => .of (g x.d y.d) := (rfl)
@[simp] theorem dUn_eq (g : D → Option Rv) : dUn g t ρ = (t ρ).bind fun x => .of (g x.d) := (rfl)
@[simp] theorem dTest_eq : dTest t ρ = (t ρ).bind fun r => .of r.tru := (rfl)
@[simp] theorem dChain_eq (g g' : D → D → Option Rv) : dChain g g' t u tc ρ = (t ρ).bind fun x => (u ρ).bind fun y => (R.of ((g x.d y.d).bind Rv.tru)).bind fun k => if k = true then (tc ρ).bind fun z => .of (g' y.d z.d) else .ok (.val (.bl false)) := (rfl)
@[simp] theorem dAnd_eq : dAnd a b ρ = (a ρ).bind fun c => if c = true then b ρ else .ok false := (rfl)
@[simp] theorem dOr_eq : dOr a b ρ = (a ρ).bind fun c => if c = true then .ok true else b ρ := (rfl)
@[simp] theorem dNot_eq : dNot a ρ = (a ρ).bind fun c => .ok (!c) := (rfl)
@[simp] theorem dAndE_eq : dAndE t u ρ = (t ρ).bind fun x => (R.of x.tru).bind fun c => if c = true then u ρ else .ok (.val (.bl false)) := (rfl)
@[simp] theorem dOrE_eq : dOrE t u ρ = (t ρ).bind fun x => (R.of x.tru).bind fun c => if c = true then .ok (.val (.bl true)) else u ρ := (rfl)
@[simp] theorem dNotE_eq : dNotE t ρ = (t ρ).bind fun x => (R.of x.tru).bind fun c => .ok (.val (.bl (!c))) := (rfl)
@[simp] theorem dIfE_eq : dIfE a t u ρ = (a ρ).bind fun c => if c = true then t ρ else u ρ := (rfl)
@[simp] theorem aNil_eq : aNil ρ = .ok [] := (rfl)
@[simp] theorem aB_eq (v : DA) : aB t v ρ = (t ρ).bind fun x => (v ρ).bind fun r => .ok (x.d :: r) := (rfl)
@[simp] theorem aV_eq (v : DA) : aV t v ρ = ((t ρ).bind fun r => .of r.stay).bind fun x => (v ρ).bind fun r => .ok (x :: r) := (rfl)
@[simp] theorem dV_eq : dV t ρ = (t ρ).bind fun r => .of r.stay := (rfl)
@[simp] theorem dCB_eq (g : List D → Option Rv) (v : DA) : dCB g v ρ = (v ρ).bind fun xs => .of (g xs) := (rfl)
@[simp] theorem dCall_eq (m : List D → R Rv) (v : DA) : dCall m v ρ = (v ρ).bind fun ds => (m ds).bind fun r => .of r.out := (rfl)
@[simp] theorem dTup_eq (v : DA) : dTup v ρ = (v ρ).bind fun xs => .of (if xs.length ≤ sizeLine then some (.val (.tup xs)) else none) := (rfl)
@[simp] theorem dLst_eq (v : DA) : dLst v ρ = (v ρ).bind fun xs => .of (if xs.length ≤ sizeLine then some (.own (.lst xs)) else none) := (rfl)
@[simp] theorem dNoP_eq : dNoP ρ = .ok none := (rfl)
@[simp] theorem dPart_eq : dPart t ρ = (t ρ).bind fun r => .of (intD r.d) := (rfl)
@[simp] theorem dSl_eq (l h : Env → R (Option Int)) : dSl t l h ρ = (t ρ).bind fun r => (l ρ).bind fun lo => (h ρ).bind fun hi => .of (gSl lo hi r.d) := (rfl)
@[simp] theorem dIndex_eq : dIndex t u ρ = (t ρ).bind fun r => match r.d with | .lst ds => (u ρ).bind fun y => .of (gIndex (.lst ds) y.d) | _ => .bad := (rfl)
@[simp] theorem dListRg1_eq : dListRg1 t ρ = (t ρ).bind fun r => .of (rgOwn (fun l => .own (.lst l)) (.int 0) r.d) := (rfl)
@[simp] theorem dListRg2_eq : dListRg2 t u ρ = dOp (rgOwn fun l => .own (.lst l)) t u ρ := (rfl)
@[simp] theorem dTupleRg1_eq : dTupleRg1 t ρ = (t ρ).bind fun r => .of (rgOwn (fun l => .val (.tup l)) (.int 0) r.d) := (rfl)
@[simp] theorem dTupleRg2_eq : dTupleRg2 t u ρ = dOp (rgOwn fun l => .val (.tup l)) t u ρ := (rfl)
@[simp] theorem dSeqI_eq : dSeqI t ρ = (t ρ).bind fun r => .of r.items := (rfl)
@[simp] theorem dRng1_eq (v : DA) : dRng1 v ρ = (v ρ).bind fun xs => .of (rng1 xs) := (rfl)
@[simp] theorem dRng2_eq (v : DA) : dRng2 v ρ = (v ρ).bind fun xs => .of (rng2 xs) := (rfl)
@[simp] theorem dComp_eq (it : DI) (vs : List Nat) (tg : DG) (c : DT) : dComp it vs tg c t ρ = (it ρ).bind fun ds => if ds.length ≤ sizeLine then (compGo tg c t (wipeE ρ vs) ds).bind fun ys => .ok (.own (.lst ys)) else .bad := (rfl)
@[simp] theorem dYes_eq : dYes ρ = .ok true := (rfl)
@[simp] theorem tgName_eq (i : Nat) (d : D) : tgName i d ρ = some (ρ.set i (some (.val d))) := (rfl)
@[simp] theorem tgsNil_eq : tgsNil [] ρ = some ρ := (rfl)
@[simp] theorem tgsCons_eq (x : DG) (y : DGs) (d : D) : tgsCons x y (d :: ds) ρ = (x d ρ).bind (y ds) := (rfl)
@[simp] theorem tgTup_eq (n : Nat) (y : DGs) : tgTup n y (.tup ds) ρ = if ds.length = n then y ds ρ else none := (rfl)
@[simp] theorem wipeE_nil : wipeE ρ [] = ρ := (rfl)
@[simp] theorem wipeE_cons (v : Nat) (vs : List Nat) : wipeE ρ (v :: vs) = (wipeE ρ vs).set v none := (rfl)
-- statements
variable {s r : DS}
@[simp] theorem dSkip_eq : dSkip ρ = .nx ρ := (rfl)
@[simp] theorem dSeq_eq : dSeq s r ρ = (s ρ).then r := (rfl)
@[simp] theorem dIf_eq : dIf a s r ρ = (a ρ).then ρ fun c => if c = true then s ρ else r ρ := (rfl)
@[simp] theorem dDrop_eq : dDrop t ρ = (t ρ).then ρ fun _ => .nx ρ := (rfl)
@[simp] theorem dRet_eq : dRet t ρ = (t ρ).then ρ outRS := (rfl)
@[simp] theorem dRetN_eq : dRetN ρ = .ret (.val .non) := (rfl)
@[simp] theorem dRetA_eq (i : Nat) : dRetA i ρ = (match ρ[i]? with | some (some (.acc d)) => .ret (.own d) | some (some (.val d)) => .ret (.val d) | some (some (.par d)) => outRS (Slot.par d).rd | _ => .bad) := (rfl)
@[simp] theorem dSet_eq (i : Nat) : dSet i t ρ = (t ρ).then ρ fun r => match r.slot with | some s => .nx (ρ.set i (some s)) | none => .bad := (rfl)
@[simp] theorem dSetV_eq (i : Nat) : dSetV i t ρ = (t ρ).then ρ fun r => match r.stay with | some d => .nx (ρ.set i (some (.val d))) | none => .bad := (rfl)
@[simp] theorem dSetX_eq (i : Nat) (x : DX) : dSetX i x ρ = (x ρ).then ρ fun p => .nx (p.2.set i (some (.val p.1))) := (rfl)
@[simp] theorem xOf_eq : xOf t ρ = ((t ρ).bind fun r => .of r.stay).bind fun d => .ok (d, ρ) := (rfl)
@[simp] theorem dPopAt_eq (i : Nat) : dPopAt i t ρ = (match ρ[i]? with | some (some (.acc (.lst ds))) => (t ρ).bind fun r => popAt i ρ ds r.d | _ => .bad) := (rfl)
@[simp] theorem dApp_eq (i : Nat) (x : DX) : dApp i x ρ = (match ρ[i]? with | some (some (.acc (.lst _))) => (x ρ).then ρ fun p => appTo i p.1 p.2 | _ => .bad) := (rfl)
@[simp] theorem dPut_eq (i : Nat) : dPut i u t ρ = ((t ρ).bind fun r => .of r.stay).then ρ fun d => match ρ[i]? with | some (some (.acc (.lst _))) => (u ρ).then ρ fun r => setTo i d ρ r.d | _ => .bad := (rfl)
@[simp] theorem dAug_eq (i : Nat) (g : D → D → Option Rv) : dAug i g t ρ = (dVar i ρ).then ρ fun x => (t ρ).then ρ fun y => match (g x.d y.d).bind Rv.slot with | some s => .nx (ρ.set i (some s)) | none => .bad := (rfl)
@[simp] theorem dFrz_eq (is : List Nat) : dFrz is s ρ = s (frzs is ρ) := (rfl)
@[simp] theorem frzs_nil : frzs [] ρ = ρ := (rfl)
@[simp] theorem frzs_cons (i : Nat) (is : List Nat) : frzs (i :: is) ρ = frzs is (frz i ρ) := (rfl)
@[simp] theorem dFor_eq (it : DI) (tg : DG) : dFor it tg s ρ = (it ρ).then ρ fun ds => forGo tg s ds ρ := (rfl)
@[simp] theorem dWhile_eq (n : Nat) : dWhile n a s ρ = whGo a s n ρ := (rfl)
@[simp] theorem end_nx : (RS.nx ρ).end = .ok (.val .non) := (rfl)
@[simp] theorem end_ret (x : Rv) : (RS.ret x).end = .ok x := (rfl)
@[simp] theorem end_exc (x : XC) : (RS.exc x ρ).end = .exc x := (rfl)
@[simp] theorem end_bad : RS.bad.end = .bad := (rfl)
@[simp] theorem outRS_val (d : D) : outRS (.val d) = .ret (.val d) := (rfl)
@[simp] theorem outRS_own (d : D) : outRS (.own d) = .ret (.own d) := (rfl)
@[simp] theorem rd_val (d : D) : (Slot.val d).rd = .val d := (rfl)
@[simp] theorem rd_acc (d : D) : (Slot.acc d).rd = .bor d := (rfl)
@[simp] theorem rd_int (i : Int) : (Slot.par (.int i)).rd = .val (.int i) := (rfl)
@[simp] theorem rd_bl (i : Bool) : (Slot.par (.bl i)).rd = .val (.bl i) := (rfl)
@[simp] theorem rd_str (i : Str) : (Slot.par (.str i)).rd = .val (.str i) := (rfl)
@[simp] theorem rd_non : (Slot.par .non).rd = .val .non := (rfl)
@[simp] theorem rd_tup : (Slot.par (.tup ds)).rd = .val (.tup ds) := (rfl)
@[simp] theorem rd_lst : (Slot.par (.lst ds)).rd = .par (.lst ds) := (rfl)
@[simp] theorem rd_scr (ns : List Int) : (Slot.par (.scr ns)).rd = .par (.scr ns) := (rfl)
@[simp] theorem tru_bl (c : Bool) : (Rv.val (.bl c)).tru = some c := (rfl)
@[simp] theorem stay_val (d : D) : (Rv.val d).stay = some d := (rfl)
@[simp] theorem stay_own (d : D) : (Rv.own d).stay = some d := (rfl)
@[simp] theorem slot_val (d : D) : (Rv.val d).slot = some (.val d) := (rfl)
@[simp] theorem slot_own (d : D) : (Rv.own d).slot = some (.acc d) := (rfl)
@[simp] theorem slot_par (d : D) : (Rv.par d).slot = some (.par d) := (rfl)
@[simp] theorem out_val (d : D) : (Rv.val d).out = some (.val d) := (rfl)
@[simp] theorem out_own (d : D) : (Rv.own d).out = some (.own d) := (rfl)
@[simp] theorem items_val (d : D) : (Rv.val d).items = itemsOf d := (rfl)
@[simp] theorem items_own (d : D) : (Rv.own d).items = itemsOf d := (rfl)
@[simp] theorem items_par (d : D) : (Rv.par d).items = itemsOf d := (rfl)
@[simp] theorem itemsOf_lst : itemsOf (.lst ds) = some ds := (rfl)
@[simp] theorem itemsOf_tup : itemsOf (.tup ds) = some ds := (rfl)
@[simp] theorem itemsOf_scr (ns : List Int) : itemsOf (.scr ns) = some (ns.map D.int) := (rfl)
@[simp] theorem intD_int (i : Int) : intD (.int i) = some (some i) := (rfl)
-- operators
variable {i j : Int}
@[simp] theorem gAdd_int : gAdd (.int i) (.int j) = some (.val (.int (i + j))) := (rfl)
@[simp] theorem gAdd_lst (xs ys : List D) : gAdd (.lst xs) (.lst ys) = if xs.length + ys.length ≤ sizeLine then some (.own (.lst (xs ++ ys))) else none := (rfl)
@[simp] theorem gAdd_tup (xs ys : List D) : gAdd (.tup xs) (.tup ys) = if xs.length + ys.length ≤ sizeLine then some (.val (.tup (xs ++ ys))) else none := (rfl)
@[simp] theorem gSub_int : gSub (.int i) (.int j) = some (.val (.int (i - j))) := (rfl)
@[simp] theorem gMul_int : gMul (.int i) (.int j) = if mulOk i j then some (.val (.int (i * j))) else none := (rfl)
@[simp] theorem gDiv_int : gDiv (.int i) (.int j) = if divOk i j then some (.val (.int (i / j))) else none := (rfl)
@[simp] theorem gMod_int : gMod (.int i) (.int j) = if 0 < j then some (.val (.int (i % j))) else none := (rfl)
@[simp] theorem gPow_int : gPow (.int i) (.int j) = if CPow i j then some (.val (.int (i ^ j.toNat))) else none := (rfl)
@[simp] theorem gNeg_int : gNeg (.int i) = some (.val (.int (-i))) := (rfl)
@[simp] theorem gCmp_int (f : Int → Int → Bool) : gCmp f (.int i) (.int j) = some (.val (.bl (f i j))) := (rfl)
@[simp] theorem gIsN_non (c : Bool) : gIsN c .non = some (.val (.bl (!c))) := (rfl)
@[simp] theorem gIsN_int (c : Bool) : gIsN c (.int i) = some (.val (.bl c)) := (rfl)
@[simp] theorem gIsN_bl (c k : Bool) : gIsN c (.bl k) = some (.val (.bl c)) := (rfl)
@[simp] theorem gIsN_tup (c : Bool) : gIsN c (.tup ds) = some (.val (.bl c)) := (rfl)
@[simp] theorem gIsN_lst (c : Bool) : gIsN c (.lst ds) = some (.val (.bl c)) := (rfl)
@[simp] theorem gIsi_eq (T : Ty) (d : D) : gIsi T d = (tyD d).map fun t => .val (.bl (isB t T)) := (rfl)
@[simp] theorem gLen_lst : gLen [.lst ds] = some (.val (.int ds.length)) := (rfl)
@[simp] theorem gLen_tup : gLen [.tup ds] = some (.val (.int ds.length)) := (rfl)
@[simp] theorem gLen_scr (ns : List Int) : gLen [.scr ns] = some (.val (.int ns.length)) := (rfl)
@[simp] theorem gAbs_int : gAbs [.int i] = some (.val (.int (if i < 0 then -i else i))) := (rfl)
@[simp] theorem gInt_int : gInt [.int i] = some (.val (.int i)) := (rfl)
@[simp] theorem gInt_bl (c : Bool) : gInt [.bl c] = some (.val (.int (if c then 1 else 0))) := (rfl)
@[simp] theorem gList_lst : gList [.lst ds] = some (.own (.lst ds)) := (rfl)
@[simp] theorem gList_tup : gList [.tup ds] = some (.own (.lst ds)) := (rfl)
@[simp] theorem gTuple_lst : gTuple [.lst ds] = some (.val (.tup ds)) := (rfl)
@[simp] theorem gTuple_tup : gTuple [.tup ds] = some (.val (.tup ds)) := (rfl)
@[simp] theorem gIx_lst : gIx (.lst ds) (.int i) = (atI ds i).map .val := (rfl)
@[simp] theorem gIx_tup : gIx (.tup ds) (.int i) = (atI ds i).map .val := (rfl)
@[simp] theorem gIx_scr (ns : List Int) : gIx (.scr ns) (.int i) = (atI ns i).map fun n => .val (.int n) := (rfl)
@[simp] theorem gSl_lst (lo hi : Option Int) : gSl lo hi (.lst ds) = some (.own (.lst (cutD ds lo hi))) := (rfl)
@[simp] theorem gSl_tup (lo hi : Option Int) : gSl lo hi (.tup ds) = some (.val (.tup (cutD ds lo hi))) := (rfl)
@[simp] theorem gRev_lst : gRev (.lst ds) = some (.own (.lst ds.reverse)) := (rfl)
@[simp] theorem rng1_int : rng1 [.int j] = if small j then some (rangeD 0 j.toNat) else none := (rfl)
@[simp] theorem rng2_int : rng2 [.int i, .int j] = if small i ∧ small j then some (rangeD i (j - i).toNat) else none := (rfl)
@[simp] theorem rgOwn_int (k : List D → Rv) : rgOwn k (.int i) (.int j) = if rgOk i j then some (k (rangeD i (j - i).toNat)) else none := (rfl)
@[simp] theorem runD_eq (ms : List Bool) (n : Nat) : runD s ms n ds = (s (startE ms n ds)).end := (rfl)
@[simp] theorem startE_nil (n : Nat) : startE [] n [] = List.replicate n none := by simp [startE]
end
theorem startE_1 (n : Nat) (d : D) : startE [false] n [d] = some (.par d) :: List.replicate (n - 1) none := by simp [startE]
theorem startE_2 (n : Nat) (d e : D) : startE [false, false] n [d, e] = some (.par d) :: some (.par e) :: List.replicate (n - 2) none := by simp [startE]
theorem startE_3 (n : Nat) (d e f : D) : startE [false, false, false] n [d, e, f] = some (.par d) :: some (.par e) :: some (.par f) :: List.replicate (n - 3) none := by simp [startE]
theorem startE_4 (n : Nat) (d e f g : D) : startE [false, false, false, false] n [d, e, f, g] = some (.par d) :: some (.par e) :: some (.par f) :: some (.par g) :: List.replicate (n - 4) none := by simp [startE]

/-! ### loops, comprehensions: the rules -/
section
variable {tg : DG} {b : DS} {c : DT} {el : DE}
/-- a loop by what holds ahead of each turn -/
theorem forGo_rule {α : Type} {f : α → D} {xs : List α} {ρ : Env} (I : Nat → Env → Prop) (P : RS → Prop) (h0 : I 0 ρ)
    (hs : ∀ (i : Nat) (x : α) (ρ : Env), xs[i]? = some x → I i ρ → ∃ ρ1, tg (f x) ρ = some ρ1 ∧ ((∃ ρ2, (b ρ1 = .nx ρ2 ∨ b ρ1 = .cnt ρ2) ∧ I (i + 1) ρ2) ∨ (∃ r, b ρ1 = .ret r ∧ P (.ret r)) ∨ (∃ x ρ2, b ρ1 = .exc x ρ2 ∧ P (.exc x ρ2)) ∨ (∃ ρ2, b ρ1 = .brk ρ2 ∧ P (.nx ρ2))))
    (he : ∀ ρ', I xs.length ρ' → P (.nx ρ')) : P (forGo tg b (xs.map f) ρ) := by
  have main : ∀ (k : Nat) (ρ : Env), k ≤ xs.length → I (xs.length - k) ρ → P (forGo tg b ((xs.drop (xs.length - k)).map f) ρ) := by
    intro k
    induction k with
    | zero =>
      intro ρ _ h
      rw [Nat.sub_zero, List.drop_length, List.map_nil]
      exact he ρ h
    | succ k ih =>
      intro ρ hk h
      have hlt : xs.length - (k + 1) < xs.length := by omega
      have e1 : xs[xs.length - (k + 1)]? = some (xs[xs.length - (k + 1)]) := List.getElem?_eq_getElem hlt
      rw [List.drop_eq_getElem_cons hlt, List.map_cons]
      obtain ⟨ρ1, q1, q2⟩ := hs _ _ ρ e1 h
      have e2 : xs.length - (k + 1) + 1 = xs.length - k := by omega
      unfold forGo
      rw [q1]
      dsimp only
      rcases q2 with ⟨ρ2, q3, q4⟩ | ⟨r, q3, q4⟩ | ⟨x, ρ2, q3, q4⟩ | ⟨ρ2, q3, q4⟩
      · rw [e2] at q4 ⊢
        rcases q3 with q3 | q3 <;> (rw [q3]; exact ih ρ2 (by omega) q4)
      · rw [q3]; exact q4
      · rw [q3]; exact q4
      · rw [q3]; exact q4
  have z := main xs.length ρ (Nat.le_refl _) (by rw [Nat.sub_self]; exact h0)
  rw [Nat.sub_self, List.drop_zero] at z
  exact z
theorem rangeD_map (lo : Int) (n : Nat) : rangeD lo n = (List.range n).map fun k : Nat => D.int (lo + (k : Nat)) := rfl
/-- .. over a range -/
theorem forGo_range {lo : Int} {n : Nat} {ρ : Env} (I : Nat → Env → Prop) (P : RS → Prop) (h0 : I 0 ρ)
    (hs : ∀ (i : Nat) (ρ : Env), i < n → I i ρ → ∃ ρ1, tg (.int (lo + (i : Nat))) ρ = some ρ1 ∧ ((∃ ρ2, (b ρ1 = .nx ρ2 ∨ b ρ1 = .cnt ρ2) ∧ I (i + 1) ρ2) ∨ (∃ r, b ρ1 = .ret r ∧ P (.ret r)) ∨ (∃ x ρ2, b ρ1 = .exc x ρ2 ∧ P (.exc x ρ2)) ∨ (∃ ρ2, b ρ1 = .brk ρ2 ∧ P (.nx ρ2))))
    (he : ∀ ρ', I n ρ' → P (.nx ρ')) : P (forGo tg b (rangeD lo n) ρ) := by
  rw [rangeD_map]
  refine forGo_rule I P h0 (fun i x ρ hx hI => ?_) (fun ρ' h => he ρ' (by simpa using h))
  have hi : i < n := by simpa using (List.getElem?_eq_some_iff.mp hx).1
  have : x = i := by rw [List.getElem?_range hi] at hx; simpa using hx.symm
  subst this
  exact hs x ρ hi hI
/-- a comprehension -/
theorem compGo_rule {α : Type} {g : α → D} {xs : List α} {ρ : Env} (p : α → Bool) (f : α → D)
    (h : ∀ x ∈ xs, ∃ ρ1, tg (g x) ρ = some ρ1 ∧ c ρ1 = .ok (p x) ∧ (p x = true → ∃ r, el ρ1 = .ok r ∧ r.stay = some (f x))) : compGo tg c el ρ (xs.map g) = .ok ((xs.filter p).map f) := by
  induction xs with
  | nil => rfl
  | cons x xs ih =>
    obtain ⟨ρ1, h1, h2, h3⟩ := h x List.mem_cons_self
    have z := ih fun y hy => h y (List.mem_cons_of_mem _ hy)
    rw [List.map_cons]
    unfold compGo
    rw [h1]
    dsimp only
    rw [h2]
    cases hp : p x with
    | false => dsimp only; rw [z, List.filter_cons_of_neg (by simp [hp])]
    | true =>
      obtain ⟨r, h4, h5⟩ := h3 hp
      dsimp only
      rw [h4, R.bind_ok, h5, R.of_some]
      dsimp only
      rw [z, R.bind_ok, List.filter_cons_of_pos hp, List.map_cons]
theorem compGo_range {lo : Int} {n : Nat} {ρ : Env} (p : Nat → Bool) (f : Nat → D)
    (h : ∀ i, i < n → ∃ ρ1, tg (.int (lo + (i : Nat))) ρ = some ρ1 ∧ c ρ1 = .ok (p i) ∧ (p i = true → ∃ r, el ρ1 = .ok r ∧ r.stay = some (f i))) : compGo tg c el ρ (rangeD lo n) = .ok (((List.range n).filter p).map f) := by
  rw [rangeD_map]
  exact compGo_rule p f fun x hx => h x (List.mem_range.mp hx)
end

/-! ### numbers -/
theorem mulOk_r {i j : Int} (h1 : -(2 ^ 64) < j) (h2 : j < 2 ^ 64) : mulOk i j := .inl (.inr ⟨h1, h2⟩)
theorem mulOk_l {i j : Int} (h1 : -(2 ^ 64) < i) (h2 : i < 2 ^ 64) : mulOk i j := .inl (.inl ⟨h1, h2⟩)
@[simp] theorem mulOk_lit_l {i j : Int} (h1 : -(2 ^ 64) < i) (h2 : i < 2 ^ 64) : mulOk i j = True := eq_true (mulOk_l h1 h2)
@[simp] theorem mulOk_lit_r {i j : Int} (h1 : -(2 ^ 64) < j) (h2 : j < 2 ^ 64) : mulOk i j = True := eq_true (mulOk_r h1 h2)
@[simp] theorem mulOk_mod_l {i j m : Int} (h1 : 0 < m) (h2 : m ≤ 2 ^ 64) : mulOk (i % m) j = True := eq_true (mulOk_l (by have := Int.emod_nonneg i (show m ≠ 0 by omega); omega) (by have := Int.emod_lt_of_pos i h1; omega))
@[simp] theorem mulOk_mod_r {i j m : Int} (h1 : 0 < m) (h2 : m ≤ 2 ^ 64) : mulOk j (i % m) = True := eq_true (mulOk_r (by have := Int.emod_nonneg i (show m ≠ 0 by omega); omega) (by have := Int.emod_lt_of_pos i h1; omega))
@[simp] theorem divOk_lit {i j : Int} (h1 : 0 < j) (h2 : j < 1073741824) : divOk i j = True := eq_true ⟨h1, .inl h2⟩
@[simp] theorem CPow_lit {i j : Int} (h1 : 0 ≤ j) (h2 : j ≤ 1000000) (h3 : i.natAbs < 2 ^ 64) : CPow i j = True := eq_true ⟨h1, h2, h3⟩
@[simp] theorem if_opt_true {α : Type} (a b : α) : (if True then a else b) = a := if_pos trivial
theorem divOk_of {i j : Int} (h1 : 0 < j) (h2 : j < 1073741824) : divOk i j := ⟨h1, .inl h2⟩
theorem rgOk_of {a b : Int} (h1 : 0 ≤ a) (h2 : a ≤ 1000000) (h3 : 0 ≤ b) (h4 : b ≤ 1000000) : rgOk a b := by unfold rgOk small; omega
theorem small_of {i : Int} (h1 : -1000000000 ≤ i) (h2 : i ≤ 1000000000) : small i := by unfold small; omega
theorem size_of {n : Nat} (h : n ≤ 100000) : n ≤ sizeLine := Nat.le_trans h (by decide)
theorem size_lt {n : Nat} (h : n < 100000) : n < sizeLine := Nat.lt_of_lt_of_le h (by decide)

/-! ### lists of ints as data -/
abbrev lI (ns : List Int) : D := .lst (ns.map D.int)
abbrev tI (ns : List Int) : D := .tup (ns.map D.int)
theorem shaped_flat {ds : List PyData} (h : PyData.canLayAll0 ds = true) (h2 : PyData.depthAll ds ≤ 63) : SeqAt.shaped (.list ds) = true := by
  unfold SeqAt.shaped
  rw [Bool.and_eq_true]
  refine ⟨by simpa [PyData.canLay0] using h, ?_⟩
  simp [PyData.depth]
  omega
theorem canLay_ints : ∀ ns : List Int, PyData.canLayAll0 (ns.map PyData.int) = true
  | [] => rfl
  | n :: ns => by simp [PyData.canLayAll0, PyData.canLay0, canLay_ints ns]
theorem depth_ints : ∀ ns : List Int, PyData.depthAll (ns.map PyData.int) = 0
  | [] => rfl
  | n :: ns => by simp [PyData.depthAll, PyData.depth, depth_ints ns]
theorem okDs_ints : ∀ ns : List Int, okDs (ns.map D.int) = true
  | [] => rfl
  | n :: ns => by simp [okDs, okD, okDs_ints ns]
@[simp] theorem cmpOk_int (i : Int) : cmpOk (.int i) = true := by simp [cmpOk, okD, pyD, SeqAt.shaped, PyData.canLay0, PyData.depth]
@[simp] theorem cmpOk_bl (i : Bool) : cmpOk (.bl i) = true := by simp [cmpOk, okD, pyD, SeqAt.shaped, PyData.canLay0, PyData.depth]
@[simp] theorem cmpOk_non : cmpOk .non = true := by simp [cmpOk, okD, pyD, SeqAt.shaped, PyData.canLay0, PyData.depth]
@[simp] theorem cmpOk_ints (ns : List Int) : cmpOk (.lst (ns.map D.int)) = true := by
  simp only [cmpOk, okD, pyD, pyDs_ints, okDs_ints, Bool.true_and]
  exact shaped_flat (canLay_ints ns) (by rw [depth_ints]; omega)
@[simp] theorem cmpOk_tup_ints (ns : List Int) : cmpOk (.tup (ns.map D.int)) = true := by
  simp only [cmpOk, okD, pyD, pyDs_ints, okDs_ints, Bool.true_and, shaped_tl]
  exact shaped_flat (canLay_ints ns) (by rw [depth_ints]; omega)
@[simp] theorem cmpOk_nil : cmpOk (.lst []) = true := cmpOk_ints []
@[simp] theorem cmpOk_tup_nil : cmpOk (.tup []) = true := cmpOk_tup_ints []
@[simp] theorem eqD_int (i j : Int) : eqD (.int i) (.int j) = decide (i = j) := by simp [eqD, pyD, PyData.eqv]; rfl
theorem eqvAll_ints : ∀ ns ms : List Int, PyData.eqvAll (ns.map PyData.int) (ms.map PyData.int) = decide (ns = ms)
  | [], [] => by simp [PyData.eqvAll]
  | [], m :: ms => by simp [PyData.eqvAll]
  | n :: ns, [] => by simp [PyData.eqvAll]
  | n :: ns, m :: ms => by simp [PyData.eqvAll, PyData.eqv, eqvAll_ints ns ms, Bool.beq_eq_decide_eq]
@[simp] theorem eqD_ints (ns ms : List Int) : eqD (.lst (ns.map D.int)) (.lst (ms.map D.int)) = decide (ns = ms) := by
  simp only [eqD, pyD, pyDs_ints, PyData.eqv, eqvAll_ints]
@[simp] theorem eqD_tups (ns ms : List Int) : eqD (.tup (ns.map D.int)) (.tup (ms.map D.int)) = decide (ns = ms) := by
  simp only [eqD, pyD, pyDs_ints, PyData.eqv, eqvAll_ints]
theorem inD_ints (n : Int) (ns : List Int) : inD (.int n) (ns.map D.int) = decide (n ∈ ns) := by
  unfold inD
  rw [List.any_map]
  induction ns with
  | nil => simp
  | cons m ns ih =>
    simp only [List.any_cons, Function.comp, eqD_int, ih, List.mem_cons, Bool.decide_or]
    congr 1
    exact decide_eq_decide.mpr eq_comm
@[simp] theorem gEq_int (i j : Int) : gEq (.int i) (.int j) = some (.val (.bl (decide (i = j)))) := by simp [gEq]
@[simp] theorem gNe_int (i j : Int) : gNe (.int i) (.int j) = some (.val (.bl (!decide (i = j)))) := by simp [gNe]
theorem gEq_ints (ns ms : List Int) : gEq (.lst (ns.map D.int)) (.lst (ms.map D.int)) = some (.val (.bl (decide (ns = ms)))) := by simp [gEq]
theorem gNe_ints (ns ms : List Int) : gNe (.lst (ns.map D.int)) (.lst (ms.map D.int)) = some (.val (.bl (!decide (ns = ms)))) := by simp [gNe]
theorem gIn_ints (neg : Bool) (n : Int) (ns : List Int) : gIn neg (.int n) (.lst (ns.map D.int)) = some (.val (.bl (if neg = true then !decide (n ∈ ns) else decide (n ∈ ns)))) := by
  simp [gIn, inD_ints]
theorem gIn_tup (neg : Bool) (n : Int) (ns : List Int) : gIn neg (.int n) (.tup (ns.map D.int)) = some (.val (.bl (if neg = true then !decide (n ∈ ns) else decide (n ∈ ns)))) := by
  simp [gIn, inD_ints]
theorem atI_map {α β : Type} (f : α → β) (xs : List α) (i : Int) : atI (xs.map f) i = (atI xs i).map f := by
  unfold atI
  rw [List.length_map]
  cases ixN xs.length i with
  | none => rfl
  | some j => simp
theorem atI_get {α : Type} {xs : List α} {i : Nat} {x : α} (h : xs[i]? = some x) : atI xs (i : Int) = some x := atI_nat h
theorem cutD_map {α : Type} (f : α → D) (xs : List α) (lo hi : Option Int) : cutD (xs.map f) lo hi = ((xs.drop (HT.sIx xs.length 0 lo)).take (HT.sIx xs.length xs.length hi - HT.sIx xs.length 0 lo)).map f := by
  unfold cutD
  rw [List.length_map, List.map_take, List.map_drop]
theorem cut_to {α : Type} (f : α → D) (xs : List α) (k : Nat) : cutD (xs.map f) none (some (k : Int)) = (xs.take k).map f := by
  rw [cutD_map, HT.sIx_none, HT.sIx_nat, Nat.sub_zero, List.drop_zero]
  by_cases h : k ≤ xs.length
  · rw [Nat.min_eq_left h]
  · rw [Nat.min_eq_right (by omega), List.take_length, List.take_of_length_le (by omega)]
theorem cut_from {α : Type} (f : α → D) (xs : List α) (k : Nat) : cutD (xs.map f) (some (k : Int)) none = (xs.drop k).map f := by
  rw [cutD_map, HT.sIx_none, HT.sIx_nat]
  congr 1
  by_cases h : k ≤ xs.length
  · rw [Nat.min_eq_left h, List.take_of_length_le (by rw [List.length_drop]; omega)]
  · rw [Nat.min_eq_right (by omega), List.drop_length, List.drop_eq_nil_of_le (by omega)]
    simp

theorem eraseIdx_mapD {α β : Type} (f : α → β) : ∀ (xs : List α) (j : Nat), (xs.map f).eraseIdx j = (xs.eraseIdx j).map f
  | [], j => by simp
  | x :: xs, 0 => by simp
  | x :: xs, j + 1 => by simp [eraseIdx_mapD f xs j]
theorem popAt_eq {i : Nat} {ρ : Env} {α : Type} {f : α → D} {xs : List α} {j : Nat} (h : j < xs.length) (hb : xs.length ≤ 1000000) : popAt i ρ (xs.map f) (.int (j : Nat)) = .ok (f (xs[j]), ρ.set i (some (.acc (.lst ((xs.eraseIdx j).map f))))) := by
  have e : seqIndex? (j : Int) (xs.map f).length = some j := by
    unfold seqIndex?
    have h0 : ¬ ((j : Int) < 0) := by omega
    simp [h0, h]
  unfold popAt
  show (if -(2 ^ 63) ≤ (j : Int) ∧ (j : Int) < 2 ^ 63 then _ else _) = _
  rw [if_pos ⟨by omega, by omega⟩, e]
  simp [h, eraseIdx_mapD]
theorem appTo_eq {i : Nat} {ρ : Env} {d : D} {ds : List D} (h : ρ[i]? = some (some (.acc (.lst ds)))) (hz : ds.length < sizeLine) : appTo i d ρ = .nx (ρ.set i (some (.acc (.lst (ds ++ [d]))))) := by
  unfold appTo
  rw [h]
  simp [hz]
theorem setTo_eq {i : Nat} {ρ : Env} {d : D} {ds : List D} {k : Int} {j : Nat} (h : ρ[i]? = some (some (.acc (.lst ds)))) (hj : ixN ds.length k = some j) : setTo i d ρ (.int k) = .nx (ρ.set i (some (.acc (.lst (ds.set j d))))) := by
  unfold setTo
  simp only [h, hj]
theorem ixN_nat {n j : Nat} (h : j < n) : ixN n (j : Int) = some j := by
  unfold ixN
  rw [if_pos (by omega), if_pos (by omega)]
  simp
end DL
set_option maxHeartbeats 4000000
/-! what many laws share: the cell, the order, plain facts -/
namespace DL
open PySem L2
noncomputable section
/-- _law_cell -/
def T_cell : DS :=
  (dSeq (dSetV 2 (dOp gAdd (dOp gMul (dC (.int 17)) (dVar 1)) (dC (.int 5))))
    (dSeq (dIf (dTest (dOp gLt (dVar 1) (dCB gLen (aB (dVar 0) aNil)))) (dSeq (dSetV 2 (dCB gAbs (aB (dOp gIx (dVar 0) (dVar 1)) aNil)))
    (dIf (dTest (dOp gGe (dVar 2) (dOp gPow (dC (.int 10)) (dC (.int 18))))) (dRet (dOp gSub (dVar 2) (dOp gPow (dC (.int 10)) (dC (.int 18))))) dSkip)) (dIf (dTest (dOp gGt (dCB gLen (aB (dVar 0) aNil)) (dC (.int 0)))) (dSetV 2 (dOp gAdd (dCB gAbs (aB (dOp gIx (dVar 0) (dOp gMod (dCB gInt (aB (dVar 1) aNil)) (dCB gLen (aB (dVar 0) aNil)))) aNil)) (dOp gMul (dC (.int 101)) (dVar 1)))) dSkip))
    (dSeq (dSetV 2 (dOp gMod (dCB gInt (aB (dOp gAdd (dOp gAdd (dOp gMul (dVar 2) (dC (.int 48271))) (dOp gMul (dC (.int 11)) (dVar 1))) (dC (.int 7))) aNil)) (dC (.int 2147483647))))
    (dRet (dOp gDiv (dOp gMod (dCB gInt (aB (dOp gMul (dOp gAdd (dOp gAdd (dOp gMul (dVar 2) (dVar 2)) (dOp gMul (dC (.int 69621)) (dVar 2))) (dVar 1)) (dC (.int 1000000000039))) aNil)) (dC (.int 2305843009213693951))) (dC (.int 2)))))))
def M_cell : List D → R Rv := runD T_cell [false, false] 3
/-- _law_order -/
def T_order : DS :=
  (dSeq (dSet 2 (dListRg1 (dVar 1)))
    (dSeq (dSet 3 (dLst aNil))
    (dSeq (dFor (dRng1 (aB (dVar 1) aNil)) (tgName 4)
    (dSeq (dSetV 5 (dOp gSub (dVar 1) (dVar 4)))
    (dSeq (dApp 3 (dPopAt 2 (dOp gMod (dCB gInt (aB (dVar 0) aNil)) (dVar 5))))
    (dSetV 0 (dOp gDiv (dVar 0) (dVar 5))))))
    (dRetA 3))))
def M_order : List D → R Rv := runD T_order [false, false] 6
end
theorem cell_ex (ns : List Int) (k : Int) (h0 : 0 ≤ k) (h1 : k ≤ 1000000) : ∃ c : Int, 0 ≤ c ∧ M_cell [.scr ns, .int k] = .ok (.val (.int c)) := by
  simp [M_cell, T_cell, startE_2]
  by_cases hk : k < (ns.length : Int)
  · obtain ⟨j, rfl⟩ : ∃ j : Nat, k = j := ⟨k.toNat, by omega⟩
    have hj : j < ns.length := by omega
    have hx := atI_get (List.getElem?_eq_getElem hj)
    simp [hx, hj]
    by_cases hb : (1000000000000000000 : Int) ≤ (if ns[j] < 0 then -ns[j] else ns[j])
    · simp [hb]
    · simp [hb]
      omega
  · simp [hk]
    by_cases hl : 0 < ns.length
    · have hi : 0 < (ns.length : Int) := by omega
      obtain ⟨j, hj⟩ : ∃ j : Nat, k % (ns.length : Int) = j := ⟨(k % (ns.length : Int)).toNat, by have := Int.emod_nonneg k (show (ns.length : Int) ≠ 0 by omega); omega⟩
      have hj2 : j < ns.length := by have := Int.emod_lt_of_pos k hi; omega
      have hx := atI_get (List.getElem?_eq_getElem hj2)
      simp [hl, hj, hx]
      omega
    · simp [hl]
      omega
/-- the cell's number -/
noncomputable def cellF (ns : List Int) (k : Int) : Int := match M_cell [.scr ns, .int k] with
  | .ok (.val (.int c)) => c
  | _ => 0
theorem cell_eq (ns : List Int) {k : Int} (h0 : 0 ≤ k) (h1 : k ≤ 1000000) : M_cell [.scr ns, .int k] = .ok (.val (.int (cellF ns k))) := by
  obtain ⟨c, _, h⟩ := cell_ex ns k h0 h1
  simp [cellF, h]
theorem cell_nn (ns : List Int) {k : Int} (h0 : 0 ≤ k) (h1 : k ≤ 1000000) : 0 ≤ cellF ns k := by
  obtain ⟨c, h2, h⟩ := cell_ex ns k h0 h1
  simpa [cellF, h] using h2

theorem cons_erase_perm : ∀ {l : List Int} {p : Nat} (h : p < l.length), (l[p] :: l.eraseIdx p).Perm l
  | x :: l, 0, h => by simp
  | x :: l, p + 1, h => by
    have := cons_erase_perm (l := l) (p := p) (by simpa using h)
    simp only [List.getElem_cons_succ, List.eraseIdx_cons_succ]
    exact (List.Perm.swap ..).trans (this.cons x)
theorem range_single {n q : Nat} {f : Nat → Bool} (hq : q < n) (h : ∀ p, p < n → (f p = true ↔ p = q)) : (List.range n).filter f = [q] := by
  rw [List.filter_congr (q := fun p => p == q) (fun p hp => by rw [Bool.eq_iff_iff, h p (List.mem_range.mp hp)]; simp)]
  clear h
  induction n with
  | zero => omega
  | succ n ih =>
    rw [List.range_succ, List.filter_append]
    by_cases k : q = n
    · subst k
      rw [List.filter_eq_nil_iff.mpr]
      · simp
      · intro p hp
        have := List.mem_range.mp hp
        simp
        omega
    · rw [ih (by omega)]
      simp
      omega
theorem order_ex (c0 : Int) (n : Nat) (h0 : 0 ≤ c0) (hn : n ≤ 1000) : ∃ l : List Int, M_order [.int c0, .int n] = .ok (.own (lI l)) ∧ l.length = n ∧ l.Perm ((List.range n).map fun k : Nat => (k : Int)) := by
  have h1 : rgOk 0 (n : Int) := rgOk_of (by omega) (by omega) (by omega) (by omega)
  have h2 : small (n : Int) := small_of (by omega) (by omega)
  simp [M_order, T_order, startE_2, h1, h2]
  refine forGo_range (P := fun rs => ∃ l : List Int, (rs.then (dRetA 3)).end = .ok (.own (lI l)) ∧ l.length = n ∧ l.Perm ((List.range n).map fun k : Nat => (k : Int)))
    (fun i ρ => ∃ (c : Int) (l r : List Int) (s0 : Slot) (x y : Option Slot), ρ = [some s0, some (.par (.int n)), some (.acc (lI l)), some (.acc (lI r)), x, y] ∧ s0.rd = .val (.int c) ∧ 0 ≤ c ∧ l.length + i = n ∧ r.length = i ∧ (r ++ l).Perm ((List.range n).map fun k : Nat => (k : Int)))
    ?_ ?_ ?_
  · exact ⟨c0, (List.range n).map fun k : Nat => (k : Int), [], .par (.int c0), none, none, by simp [rangeD], rfl, h0, by simp, rfl, .refl _⟩
  · rintro i ρ hi ⟨c, l, r, s0, x, y, rfl, hs, hc, hl, hr, hv⟩
    have hp : 0 < (n : Int) - i := by omega
    obtain ⟨j, hj⟩ : ∃ j : Nat, c % ((n : Int) - i) = j := ⟨(c % ((n : Int) - i)).toNat, by have := Int.emod_nonneg c (show (n : Int) - i ≠ 0 by omega); omega⟩
    have hj2 : j < l.length := by have := Int.emod_lt_of_pos c hp; omega
    have hd : divOk c ((n : Int) - i) := divOk_of hp (by omega)
    refine ⟨_, rfl, .inl ⟨[some (.val (.int (c / ((n : Int) - i)))), some (.par (.int n)), some (.acc (lI (l.eraseIdx j))), some (.acc (lI (r ++ [l[j]]))), some (.val (.int (0 + (i : Nat)))), some (.val (.int ((n : Int) - i)))], .inl ?_, ?_⟩⟩
    · have hz : r.length < sizeLine := size_lt (by omega)
      have hz2 : i < sizeLine := size_lt (by omega)
      simp [hs, hi, hj, popAt_eq hj2 (by omega), appTo, hz, hz2, hd, hr]
    · refine ⟨_, _, _, _, _, _, rfl, rfl, Int.ediv_nonneg hc (by omega), by rw [List.length_eraseIdx_of_lt hj2]; omega, by simp [hr], ?_⟩
      rw [List.append_assoc]
      exact (List.Perm.append_left r (cons_erase_perm hj2)).trans hv
  · rintro ρ' ⟨c, l, r, s0, x, y, rfl, hs, hc, hl, hr, hv⟩
    have : l = [] := List.length_eq_zero_iff.mp (by omega)
    subst this
    exact ⟨r, by simp, hr, by simpa using hv⟩

theorem perm_range_facts {l : List Int} {n : Nat} (h : l.Perm ((List.range n).map fun k : Nat => (k : Int))) : l.Nodup ∧ (∀ v ∈ l, 0 ≤ v ∧ v < n) := by
  constructor
  · refine h.nodup_iff.mpr ?_
    exact List.Pairwise.map _ (fun a b (hab : a ≠ b) => by omega) List.nodup_range
  · intro v hv
    obtain ⟨a, ha, rfl⟩ := List.mem_map.mp (h.mem_iff.mp hv)
    have := List.mem_range.mp ha
    omega
end DL
set_option maxHeartbeats 4000000
namespace K00
open PySem L2 DL
noncomputable section

/-- faces -/
def t_faces : DS :=
  (dRet (dComp (dRng1 (aB (dCB gLen (aB (dVar 0) aNil)) aNil)) [1] (tgName 1) dYes (dOp gAdd (dSl (dVar 0) dNoP (dPart (dVar 1))) (dSl (dVar 0) (dPart (dOp gAdd (dVar 1) (dC (.int 1)))) dNoP))))
def m_faces : List D → R Rv := runD t_faces [false] 2
/-- without -/
def t_without : DS :=
  (dRet (dCB gTuple (aB (dComp (dSeqI (dVar 0)) [2] (tgName 2) (dTest (dOp gNe (dVar 2) (dVar 1))) (dVar 2)) aNil)))
def m_without : List D → R Rv := runD t_without [false, false] 3
/-- exchanged -/
def t_exchanged : DS :=
  (dRet (dCB gTuple (aB (dCB gSorted (aB (dOp gAdd (dComp (dSeqI (dVar 0)) [3] (tgName 3) (dTest (dOp gNe (dVar 3) (dVar 1))) (dVar 3)) (dLst (aV (dVar 2) aNil))) aNil)) aNil)))
def m_exchanged : List D → R Rv := runD t_exchanged [false, false, false] 4
/-- merged -/
def t_merged : DS :=
  (dRet (dCB gTuple (aB (dCB gSorted (aB (dOp gAdd (dCB gList (aB (dVar 0) aNil)) (dCB gList (aB (dVar 1) aNil))) aNil)) aNil)))
def m_merged : List D → R Rv := runD t_merged [false, false] 2
/-- complement -/
def t_complement : DS :=
  (dRet (dCB gTuple (aB (dComp (dRng1 (aB (dVar 0) aNil)) [2] (tgName 2) (dTest (dOp (gIn true) (dVar 2) (dVar 1))) (dVar 2)) aNil)))
def m_complement : List D → R Rv := runD t_complement [false, false] 3
/-- subsets -/
def t_subsets (m : List D → R Rv) : DS :=
  (dSeq (dIf (dTest (dOp gEq (dVar 1) (dC (.int 0)))) (dRet (dLst (aV (dTup aNil) aNil))) dSkip)
    (dSeq (dSet 2 (dLst aNil))
    (dSeq (dFor (dRng1 (aB (dOp gAdd (dOp gSub (dCB gLen (aB (dVar 0) aNil)) (dVar 1)) (dC (.int 1))) aNil)) (tgName 3)
    (dFor (dSeqI (dCall m (aB (dSl (dVar 0) (dPart (dOp gAdd (dVar 3) (dC (.int 1)))) dNoP) (aB (dOp gSub (dVar 1) (dC (.int 1))) aNil)))) (tgName 4)
    (dApp 2 (xOf (dOp gAdd (dTup (aV (dOp gIx (dVar 0) (dVar 3)) aNil)) (dVar 4))))))
    (dRetA 2))))
def m_subsets_n : Nat → List D → R Rv
  | 0 => fun _ => .bad
  | n + 1 => runD (t_subsets (m_subsets_n n)) [false, false] 5
def m_subsets : List D → R Rv := m_subsets_n 14
/-- order_sign -/
def t_order_sign : DS :=
  (dSeq (dSet 1 (dC (.int 1)))
    (dSeq (dFor (dRng1 (aB (dCB gLen (aB (dVar 0) aNil)) aNil)) (tgName 2)
    (dFor (dRng1 (aB (dVar 2) aNil)) (tgName 3)
    (dIf (dTest (dOp gGt (dOp gIx (dVar 0) (dVar 3)) (dOp gIx (dVar 0) (dVar 2)))) (dSet 1 (dUn gNeg (dVar 1))) dSkip)))
    (dRetA 1)))
def m_order_sign : List D → R Rv := runD t_order_sign [false] 4
/-- shuffle_sign -/
def t_shuffle_sign : DS :=
  (dSeq (dSet 2 (dC (.int 1)))
    (dSeq (dFor (dSeqI (dVar 0)) (tgName 3)
    (dFor (dSeqI (dVar 1)) (tgName 4)
    (dSeq (dIf (dTest (dOp gEq (dVar 3) (dVar 4))) (dRet (dC (.int 0))) dSkip)
    (dIf (dTest (dOp gGt (dVar 3) (dVar 4))) (dSet 2 (dUn gNeg (dVar 2))) dSkip))))
    (dRetA 2)))
def m_shuffle_sign : List D → R Rv := runD t_shuffle_sign [false, false] 5
/-- room_fault -/
def t_room_fault : DS :=
  (dSeq (dIf (dTest (dOp gNe (dCB gLen (aB (dVar 2) aNil)) (dVar 1))) (dRet (dC (.str "count"))) dSkip)
    (dSeq (dFor (dSeqI (dVar 2)) (tgName 3)
    (dIf (dNot (dTest (dChain gLe gLt (dC (.int 0)) (dVar 3) (dVar 0)))) (dRet (dC (.str "place"))) dSkip))
    (dSeq (dIf (dTest (dOp gNe (dUn gLenSet (dVar 2)) (dVar 1))) (dRet (dC (.str "twice"))) dSkip)
    (dRet (dC (.str ""))))))
def m_room_fault : List D → R Rv := runD t_room_fault [false, false, false] 4
/-- _law_cell -/
def t_law_cell : DS :=
  (dSeq (dSetV 2 (dOp gAdd (dOp gMul (dC (.int 17)) (dVar 1)) (dC (.int 5))))
    (dSeq (dIf (dTest (dOp gLt (dVar 1) (dCB gLen (aB (dVar 0) aNil)))) (dSeq (dSetV 2 (dCB gAbs (aB (dOp gIx (dVar 0) (dVar 1)) aNil)))
    (dIf (dTest (dOp gGe (dVar 2) (dOp gPow (dC (.int 10)) (dC (.int 18))))) (dRet (dOp gSub (dVar 2) (dOp gPow (dC (.int 10)) (dC (.int 18))))) dSkip)) (dIf (dTest (dOp gGt (dCB gLen (aB (dVar 0) aNil)) (dC (.int 0)))) (dSetV 2 (dOp gAdd (dCB gAbs (aB (dOp gIx (dVar 0) (dOp gMod (dCB gInt (aB (dVar 1) aNil)) (dCB gLen (aB (dVar 0) aNil)))) aNil)) (dOp gMul (dC (.int 101)) (dVar 1)))) dSkip))
    (dSeq (dSetV 2 (dOp gMod (dCB gInt (aB (dOp gAdd (dOp gAdd (dOp gMul (dVar 2) (dC (.int 48271))) (dOp gMul (dC (.int 11)) (dVar 1))) (dC (.int 7))) aNil)) (dC (.int 2147483647))))
    (dRet (dOp gDiv (dOp gMod (dCB gInt (aB (dOp gMul (dOp gAdd (dOp gAdd (dOp gMul (dVar 2) (dVar 2)) (dOp gMul (dC (.int 69621)) (dVar 2))) (dVar 1)) (dC (.int 1000000000039))) aNil)) (dC (.int 2305843009213693951))) (dC (.int 2)))))))
def m_law_cell : List D → R Rv := runD t_law_cell [false, false] 3
/-- _law_order -/
def t_law_order : DS :=
  (dSeq (dSet 2 (dListRg1 (dVar 1)))
    (dSeq (dSet 3 (dLst aNil))
    (dSeq (dFor (dRng1 (aB (dVar 1) aNil)) (tgName 4)
    (dSeq (dSetV 5 (dOp gSub (dVar 1) (dVar 4)))
    (dSeq (dApp 3 (dPopAt 2 (dOp gMod (dCB gInt (aB (dVar 0) aNil)) (dVar 5))))
    (dSetV 0 (dOp gDiv (dVar 0) (dVar 5))))))
    (dRetA 3))))
def m_law_order : List D → R Rv := runD t_law_order [false, false] 6
/-- _law_sign -/
def t_law_sign : DS :=
  (dSeq (dSet 1 (dCB gList (aB (dVar 0) aNil)))
    (dSeq (dSet 2 (dC (.int 1)))
    (dSeq (dFor (dRng1 (aB (dCB gLen (aB (dVar 1) aNil)) aNil)) (tgName 3)
    (dSeq (dSet 4 (dVar 3))
    (dSeq (dFor (dRng2 (aB (dVar 3) (aB (dCB gLen (aB (dVar 1) aNil)) aNil))) (tgName 5)
    (dIf (dTest (dOp gLt (dOp gIx (dVar 1) (dVar 5)) (dOp gIx (dVar 1) (dVar 4)))) (dSet 4 (dVar 5)) dSkip))
    (dIf (dTest (dOp gNe (dVar 4) (dVar 3))) (dSeq (dSetV 6 (dOp gIx (dVar 1) (dVar 3)))
    (dSeq (dPut 1 (dVar 3) (dOp gIx (dVar 1) (dVar 4)))
    (dSeq (dPut 1 (dVar 4) (dVar 6))
    (dSet 2 (dUn gNeg (dVar 2)))))) dSkip))))
    (dRetA 2))))
def m_law_sign : List D → R Rv := runD t_law_sign [false] 7
/-- _law_whole -/
def t_law_whole : DS :=
  (dRet (dAndE (dUn (gIsi .int) (dVar 0)) (dAndE (dNotE (dUn (gIsi .bl) (dVar 0))) (dOp gEq (dVar 0) (dVar 1)))))
def m_law_whole : List D → R Rv := runD t_law_whole [false, false] 2
/-- _law_room -/
def t_law_room : DS :=
  (dSeq (dIf (dOr (dNot (dTest (dUn (gIsi .tup) (dVar 0)))) (dTest (dOp gNe (dCB gLen (aB (dVar 0) aNil)) (dCB gLen (aB (dVar 1) aNil))))) (dRet (dC (.bl false))) dSkip)
    (dSeq (dFor (dRng1 (aB (dCB gLen (aB (dVar 1) aNil)) aNil)) (tgName 2)
    (dIf (dNot (dTest (dCall m_law_whole (aB (dOp gIx (dVar 0) (dVar 2)) (aB (dOp gIx (dVar 1) (dVar 2)) aNil))))) (dRet (dC (.bl false))) dSkip))
    (dRet (dC (.bl true)))))
def m_law_room : List D → R Rv := runD t_law_room [false, false] 3
/-- _law_rooms -/
def t_law_rooms : DS :=
  (dSeq (dIf (dOr (dNot (dTest (dUn (gIsi .lst) (dVar 0)))) (dTest (dOp gNe (dCB gLen (aB (dVar 0) aNil)) (dCB gLen (aB (dVar 1) aNil))))) (dRet (dC (.bl false))) dSkip)
    (dSeq (dFor (dRng1 (aB (dCB gLen (aB (dVar 1) aNil)) aNil)) (tgName 2)
    (dIf (dNot (dTest (dCall m_law_room (aB (dOp gIx (dVar 0) (dVar 2)) (aB (dOp gIx (dVar 1) (dVar 2)) aNil))))) (dRet (dC (.bl false))) dSkip))
    (dRet (dC (.bl true)))))
def m_law_rooms : List D → R Rv := runD t_law_rooms [false, false] 3
/-- _law_many -/
def t_law_many : DS :=
  (dSeq (dSet 2 (dC (.int 1)))
    (dSeq (dFor (dRng1 (aB (dVar 1) aNil)) (tgName 3)
    (dSet 2 (dOp gDiv (dOp gMul (dVar 2) (dOp gSub (dVar 0) (dVar 3))) (dOp gAdd (dVar 3) (dC (.int 1))))))
    (dRetA 2)))
def m_law_many : List D → R Rv := runD t_law_many [false, false] 4
/-- _law_items -/
def t_law_items : DS :=
  (dSeq (dSet 2 (dLst aNil))
    (dSeq (dSetV 3 (dOp gSub (dOp gMod (dCB gInt (aB (dVar 0) aNil)) (dC (.int 7))) (dC (.int 3))))
    (dSeq (dSetV 0 (dOp gDiv (dVar 0) (dC (.int 7))))
    (dSeq (dFor (dRng1 (aB (dVar 1) aNil)) (tgName 4)
    (dSeq (dApp 2 (xOf (dVar 3)))
    (dSeq (dSetV 3 (dOp gAdd (dOp gAdd (dVar 3) (dC (.int 1))) (dOp gMod (dCB gInt (aB (dVar 0) aNil)) (dC (.int 3)))))
    (dSetV 0 (dOp gDiv (dVar 0) (dC (.int 3)))))))
    (dRet (dCB gTuple (aB (dVar 2) aNil)))))))
def m_law_items : List D → R Rv := runD t_law_items [false, false] 5
/-- _law_subsets_right -/
def t_law_subsets_right : DS :=
  (dSeq (dSetV 2 (dCall m_subsets (aB (dVar 0) (aB (dVar 1) aNil))))
    (dSeq (dIf (dOr (dNot (dTest (dUn (gIsi .lst) (dVar 2)))) (dTest (dOp gNe (dCB gLen (aB (dVar 2) aNil)) (dCall m_law_many (aB (dCB gLen (aB (dVar 0) aNil)) (aB (dVar 1) aNil)))))) (dRet (dC (.bl false))) dSkip)
    (dSeq (dFor (dRng1 (aB (dCB gLen (aB (dVar 2) aNil)) aNil)) (tgName 3)
    (dSeq (dSetV 4 (dOp gIx (dVar 2) (dVar 3)))
    (dSeq (dIf (dOr (dNot (dTest (dUn (gIsi .tup) (dVar 4)))) (dTest (dOp gNe (dCB gLen (aB (dVar 4) aNil)) (dVar 1)))) (dRet (dC (.bl false))) dSkip)
    (dSeq (dFor (dRng1 (aB (dVar 1) aNil)) (tgName 5)
    (dIf (dOr (dTest (dOp (gIn true) (dOp gIx (dVar 4) (dVar 5)) (dVar 0))) (dAnd (dTest (dOp gGt (dVar 5) (dC (.int 0)))) (dTest (dOp gGe (dOp gIx (dVar 4) (dOp gSub (dVar 5) (dC (.int 1)))) (dOp gIx (dVar 4) (dVar 5)))))) (dRet (dC (.bl false))) dSkip))
    (dIf (dAnd (dTest (dOp gGt (dVar 3) (dC (.int 0)))) (dTest (dOp gGeT (dOp gIx (dVar 2) (dOp gSub (dVar 3) (dC (.int 1)))) (dVar 4)))) (dRet (dC (.bl false))) dSkip)))))
    (dRet (dC (.bl true))))))
def m_law_subsets_right : List D → R Rv := runD t_law_subsets_right [false, false] 6
/-- _law_exchanges -/
def t_law_exchanges : DS :=
  (dSeq (dSetV 3 (dComp (dRng1 (aB (dVar 1) aNil)) [8] (tgName 8) (dTest (dOp (gIn true) (dVar 8) (dVar 0))) (dVar 8)))
    (dSeq (dSetV 4 (dComp (dRng1 (aB (dC (.int 12)) aNil)) [8] (tgName 8) (dTest (dOp (gIn true) (dVar 8) (dVar 0))) (dVar 8)))
    (dSeq (dIf (dAnd (dTest (dOp gGt (dCB gLen (aB (dVar 4) aNil)) (dC (.int 0)))) (dNot (dTest (dCall m_law_room (aB (dCall m_without (aB (dCB gTuple (aB (dVar 0) aNil)) (aB (dOp gIx (dVar 4) (dOp gMod (dCB gInt (aB (dOp gDiv (dVar 2) (dC (.int 7))) aNil)) (dCB gLen (aB (dVar 4) aNil)))) aNil))) (aB (dVar 0) aNil)))))) (dRet (dC (.bl false))) dSkip)
    (dSeq (dIf (dTest (dOp gEq (dCB gLen (aB (dVar 0) aNil)) (dC (.int 0)))) (dRet (dC (.bl true))) dSkip)
    (dSeq (dSetV 5 (dOp gIx (dVar 0) (dOp gMod (dCB gInt (aB (dVar 2) aNil)) (dCB gLen (aB (dVar 0) aNil)))))
    (dSeq (dSetV 6 (dComp (dSeqI (dVar 0)) [8] (tgName 8) (dTest (dOp gNe (dVar 8) (dVar 5))) (dVar 8)))
    (dSeq (dIf (dNot (dTest (dCall m_law_room (aB (dCall m_without (aB (dCB gTuple (aB (dVar 0) aNil)) (aB (dVar 5) aNil))) (aB (dVar 6) aNil))))) (dRet (dC (.bl false))) dSkip)
    (dSeq (dIf (dTest (dOp gEq (dCB gLen (aB (dVar 3) aNil)) (dC (.int 0)))) (dRet (dC (.bl true))) dSkip)
    (dSeq (dSetV 7 (dOp gIx (dVar 3) (dOp gMod (dCB gInt (aB (dOp gDiv (dVar 2) (dC (.int 13))) aNil)) (dCB gLen (aB (dVar 3) aNil)))))
    (dRet (dCall m_law_room (aB (dCall m_exchanged (aB (dCB gTuple (aB (dVar 0) aNil)) (aB (dVar 5) (aB (dVar 7) aNil)))) (aB (dCB gSorted (aB (dOp gAdd (dVar 6) (dLst (aV (dVar 7) aNil))) aNil)) aNil)))))))))))))
def m_law_exchanges : List D → R Rv := runD t_law_exchanges [false, false, false] 9
/-- _law_long -/
def t_law_long : DS :=
  (dSeq (dSetV 2 (dOp gMod (dCB gInt (aB (dVar 1) aNil)) (dC (.int 31))))
    (dSeq (dSetV 3 (dOp gAdd (dC (.int 1)) (dOp gMod (dCB gInt (aB (dOp gDiv (dVar 1) (dC (.int 31))) aNil)) (dC (.int 1000)))))
    (dSeq (dSetV 4 (dOp gSub (dOp gMod (dCB gInt (aB (dOp gDiv (dVar 1) (dC (.int 31000))) aNil)) (dC (.int 40000))) (dC (.int 20000))))
    (dRet (dComp (dSeqI (dSl (dCall m_law_order (aB (dVar 0) (aB (dC (.int 30)) aNil))) dNoP (dPart (dVar 2)))) [5] (tgName 5) dYes (dOp gAdd (dOp gMul (dVar 3) (dVar 5)) (dVar 4)))))))
def m_law_long : List D → R Rv := runD t_law_long [false, false] 6
/-- _law_long_right -/
def t_law_long_right : DS :=
  (dSeq (dSetV 1 (dCall m_law_sign (aB (dVar 0) aNil)))
    (dSeq (dSetV 2 (dCB gList (aB (dVar 0) aNil)))
    (dRet (dAndE (dCall m_law_whole (aB (dCall m_order_sign (aB (dVar 0) aNil)) (aB (dVar 1) aNil))) (dAndE (dOp gEq (dVar 0) (dVar 2)) (dCall m_law_whole (aB (dCall m_order_sign (aB (dCB gTuple (aB (dVar 0) aNil)) aNil)) (aB (dVar 1) aNil))))))))
def m_law_long_right : List D → R Rv := runD t_law_long_right [false] 3
/-- _law_fault -/
def t_law_fault : DS :=
  (dSeq (dIf (dTest (dOp gNe (dCB gLen (aB (dVar 2) aNil)) (dVar 1))) (dRet (dC (.str "count"))) dSkip)
    (dSeq (dIf (dTest (dOp gGt (dCB gLen (aB (dComp (dSeqI (dVar 2)) [3] (tgName 3) (dOr (dTest (dOp gLt (dVar 3) (dC (.int 0)))) (dTest (dOp gGe (dVar 3) (dVar 0)))) (dVar 3)) aNil)) (dC (.int 0)))) (dRet (dC (.str "place"))) dSkip)
    (dSeq (dIf (dTest (dOp gGt (dCB gLen (aB (dComp (dRng1 (aB (dVar 1) aNil)) [4] (tgName 4) (dTest (dOp (gIn false) (dOp gIx (dVar 2) (dVar 4)) (dSl (dVar 2) dNoP (dPart (dVar 4))))) (dVar 4)) aNil)) (dC (.int 0)))) (dRet (dC (.str "twice"))) dSkip)
    (dRet (dC (.str ""))))))
def m_law_fault : List D → R Rv := runD t_law_fault [false, false, false] 5
/-- _law_faults_right -/
def t_law_faults_right : DS :=
  (dSeq (dFor (dRng1 (aB (dC (.int 5)) aNil)) (tgName 3)
    (dSeq (dSetV 4 (dCall m_law_cell (aB (dVar 0) (aB (dOp gAdd (dC (.int 12)) (dVar 3)) aNil))))
    (dSeq (dSetV 5 (dOp gAdd (dC (.int 1)) (dOp gMod (dCB gInt (aB (dVar 4) aNil)) (dVar 1))))
    (dSeq (dSetV 6 (dOp gMod (dCB gInt (aB (dOp gDiv (dVar 4) (dC (.int 12))) aNil)) (dC (.int 8))))
    (dSeq (dSetV 7 (dOp gMod (dCB gInt (aB (dOp gDiv (dVar 4) (dC (.int 96))) aNil)) (dVar 5)))
    (dSeq (dSetV 8 (dOp gMul (dOp gMod (dCB gInt (aB (dOp gDiv (dVar 4) (dC (.int 1152))) aNil)) (dC (.int 1000))) (dOp gMod (dCB gInt (aB (dOp gDiv (dVar 4) (dC (.int 1152000))) aNil)) (dC (.int 2)))))
    (dSeq (dSet 9 (dSl (dVar 2) dNoP (dPart (dVar 5))))
    (dSeq (dIf (dTest (dOp gEq (dVar 6) (dC (.int 1)))) (dSet 9 (dSl (dVar 9) (dPart (dC (.int 1))) dNoP)) (dIf (dTest (dOp gEq (dVar 6) (dC (.int 2)))) (dSet 9 (dOp gAdd (dVar 9) (dLst (aV (dOp gIx (dVar 2) (dC (.int 0))) aNil)))) (dIf (dOr (dTest (dOp gEq (dVar 6) (dC (.int 3)))) (dTest (dOp gEq (dVar 6) (dC (.int 5))))) (dPut 9 (dVar 7) (dOp gAdd (dVar 1) (dVar 8))) (dIf (dTest (dOp gEq (dVar 6) (dC (.int 4)))) (dPut 9 (dVar 7) (dOp gSub (dUn gNeg (dC (.int 1))) (dVar 8))) dSkip))))
    (dSeq (dIf (dAnd (dTest (dOp gGt (dVar 5) (dC (.int 1)))) (dOr (dTest (dOp gEq (dVar 6) (dC (.int 5)))) (dTest (dOp gEq (dVar 6) (dC (.int 6)))))) (dPut 9 (dOp gSub (dVar 7) (dC (.int 1))) (dOp gIx (dVar 9) (dVar 7))) dSkip)
    (dSeq (dSetV 10 (dCall m_law_fault (aB (dVar 1) (aB (dVar 5) (aB (dVar 9) aNil)))))
    (dSeq (dSetV 11 (dCB gList (aB (dVar 9) aNil)))
    (dSeq (dSetV 12 (dCall m_room_fault (aB (dVar 1) (aB (dVar 5) (aB (dVar 11) aNil)))))
    (dIf (dOr (dNot (dTest (dUn (gIsi .str) (dVar 12)))) (dOr (dTest (dOp gNe (dVar 12) (dVar 10))) (dOr (dTest (dOp gNe (dVar 11) (dVar 9))) (dTest (dOp gNe (dCall m_room_fault (aB (dVar 1) (aB (dVar 5) (aB (dCB gTuple (aB (dVar 9) aNil)) aNil)))) (dVar 10)))))) (dRet (dC (.bl false))) dSkip)))))))))))))
    (dRet (dC (.bl true))))
def m_law_faults_right : List D → R Rv := runD t_law_faults_right [false, false, false] 13
/-- law -/
def t_law : DS :=
  (dSeq (dSetV 1 (dOp gAdd (dC (.int 1)) (dOp gMod (dCB gInt (aB (dCall m_law_cell (aB (dVar 0) (aB (dC (.int 0)) aNil))) aNil)) (dC (.int 12)))))
    (dSeq (dSetV 2 (dCall m_law_order (aB (dCall m_law_cell (aB (dVar 0) (aB (dC (.int 1)) aNil))) (aB (dVar 1) aNil))))
    (dSeq (dIf (dNot (dTest (dCall m_law_faults_right (aB (dVar 0) (aB (dVar 1) (aB (dVar 2) aNil)))))) (dRet (dC (.bl false))) dSkip)
    (dSeq (dSetV 3 (dOp gMod (dCB gInt (aB (dCall m_law_cell (aB (dVar 0) (aB (dC (.int 2)) aNil))) aNil)) (dOp gAdd (dVar 1) (dC (.int 1)))))
    (dSeq (dIf (dOr (dNot (dTest (dCall m_law_long_right (aB (dSl (dVar 2) dNoP (dPart (dVar 3))) aNil)))) (dNot (dTest (dCall m_law_long_right (aB (dCall m_law_long (aB (dCall m_law_cell (aB (dVar 0) (aB (dC (.int 8)) aNil))) (aB (dCall m_law_cell (aB (dVar 0) (aB (dC (.int 9)) aNil))) aNil))) aNil))))) (dRet (dC (.bl false))) dSkip)
    (dSeq (dSetV 4 (dCB gSorted (aB (dSl (dVar 2) dNoP (dPart (dVar 3))) aNil)))
    (dSeq (dSet 5 (dVar 3))
    (dSeq (dIf (dTest (dOp gEq (dOp gMod (dCB gInt (aB (dCall m_law_cell (aB (dVar 0) (aB (dC (.int 3)) aNil))) aNil)) (dC (.int 2))) (dC (.int 1)))) (dSetV 5 (dOp gMod (dCB gInt (aB (dOp gDiv (dCall m_law_cell (aB (dVar 0) (aB (dC (.int 3)) aNil))) (dC (.int 2))) aNil)) (dOp gAdd (dVar 1) (dC (.int 1))))) dSkip)
    (dSeq (dSetV 6 (dCB gSorted (aB (dSl (dVar 2) (dPart (dVar 5)) (dPart (dOp gAdd (dVar 5) (dOp gMod (dCB gInt (aB (dCall m_law_cell (aB (dVar 0) (aB (dC (.int 4)) aNil))) aNil)) (dOp gAdd (dVar 1) (dC (.int 1))))))) aNil)))
    (dSeq (dSetV 7 (dComp (dSeqI (dVar 4)) [10] (tgName 10) (dTest (dOp (gIn false) (dVar 10) (dVar 6))) (dVar 10)))
    (dSeq (dSetV 8 (dC (.int 0)))
    (dSeq (dIf (dTest (dOp gEq (dCB gLen (aB (dVar 7) aNil)) (dC (.int 0)))) (dSeq (dSetV 8 (dCall m_law_sign (aB (dOp gAdd (dVar 4) (dVar 6)) aNil)))
    (dIf (dNot (dTest (dCall m_law_room (aB (dCall m_merged (aB (dCB gTuple (aB (dVar 4) aNil)) (aB (dCB gTuple (aB (dVar 6) aNil)) aNil))) (aB (dCB gSorted (aB (dOp gAdd (dVar 4) (dVar 6)) aNil)) aNil))))) (dRet (dC (.bl false))) dSkip)) dSkip)
    (dSeq (dIf (dNot (dTest (dCall m_law_whole (aB (dCall m_shuffle_sign (aB (dCB gTuple (aB (dVar 4) aNil)) (aB (dCB gTuple (aB (dVar 6) aNil)) aNil))) (aB (dVar 8) aNil))))) (dRet (dC (.bl false))) dSkip)
    (dSeq (dIf (dNot (dTest (dCall m_law_room (aB (dCall m_complement (aB (dVar 1) (aB (dCB gTuple (aB (dVar 4) aNil)) aNil))) (aB (dComp (dRng1 (aB (dVar 1) aNil)) [10] (tgName 10) (dTest (dOp (gIn true) (dVar 10) (dVar 4))) (dVar 10)) aNil))))) (dRet (dC (.bl false))) dSkip)
    (dSeq (dIf (dNot (dTest (dCall m_law_rooms (aB (dCall m_faces (aB (dCB gTuple (aB (dVar 4) aNil)) aNil)) (aB (dComp (dRng1 (aB (dVar 3) aNil)) [11] (tgName 11) dYes (dOp gAdd (dSl (dVar 4) dNoP (dPart (dVar 11))) (dSl (dVar 4) (dPart (dOp gAdd (dVar 11) (dC (.int 1)))) dNoP))) aNil))))) (dRet (dC (.bl false))) dSkip)
    (dSeq (dIf (dNot (dTest (dCall m_law_exchanges (aB (dVar 4) (aB (dVar 1) (aB (dCall m_law_cell (aB (dVar 0) (aB (dC (.int 5)) aNil))) aNil)))))) (dRet (dC (.bl false))) dSkip)
    (dSeq (dSetV 9 (dCall m_law_items (aB (dCall m_law_cell (aB (dVar 0) (aB (dC (.int 10)) aNil))) (aB (dOp gMod (dCB gInt (aB (dCall m_law_cell (aB (dVar 0) (aB (dC (.int 6)) aNil))) aNil)) (dC (.int 13))) aNil))))
    (dSeq (dIf (dTest (dOp gEq (dOp gMod (dCB gInt (aB (dCall m_law_cell (aB (dVar 0) (aB (dC (.int 11)) aNil))) aNil)) (dC (.int 2))) (dC (.int 1)))) (dSetV 9 (dTupleRg1 (dCB gLen (aB (dVar 9) aNil)))) dSkip)
    (dRet (dCall m_law_subsets_right (aB (dVar 9) (aB (dOp gMod (dCB gInt (aB (dCall m_law_cell (aB (dVar 0) (aB (dC (.int 7)) aNil))) aNil)) (dC (.int 14))) aNil))))))))))))))))))))))
def m_law : List D → R Rv := runD t_law [false] 12
end
end K00
set_option maxHeartbeats 4000000
namespace K00
/-! ### plain: inversions -/
def lowC (x : Int) (l : List Int) : Nat := (l.filter fun y => decide (y < x)).length
def upC (x : Int) (l : List Int) : Nat := (l.filter fun y => decide (x < y)).length
def invN : List Int → Nat
  | [] => 0
  | x :: t => lowC x t + invN t
def crossN : List Int → List Int → Nat
  | [], _ => 0
  | x :: a, b => lowC x b + crossN a b
def sgP (n : Nat) : Int := if n % 2 = 0 then 1 else -1
theorem sgP_succ (n : Nat) : sgP (n + 1) = -sgP n := by
  unfold sgP
  by_cases h : n % 2 = 0
  · rw [if_pos h, if_neg (by omega)]
  · rw [if_neg h, if_pos (by omega)]; rfl
theorem sgP_add_even (n m : Nat) (h : m % 2 = 0) : sgP (n + m) = sgP n := by
  unfold sgP
  by_cases k : n % 2 = 0
  · rw [if_pos k, if_pos (by omega)]
  · rw [if_neg k, if_neg (by omega)]
theorem sgP_eq {n m : Nat} (h : n % 2 = m % 2) : sgP n = sgP m := by
  unfold sgP; rw [h]
theorem lowC_append (x : Int) (a b : List Int) : lowC x (a ++ b) = lowC x a + lowC x b := by simp [lowC]
theorem upC_append (x : Int) (a b : List Int) : upC x (a ++ b) = upC x a + upC x b := by simp [upC]
theorem lowC_cons (x y : Int) (b : List Int) : lowC x (y :: b) = (if y < x then 1 else 0) + lowC x b := by
  unfold lowC
  by_cases h : y < x
  · rw [List.filter_cons_of_pos (by simpa using h), if_pos h, List.length_cons]; omega
  · rw [List.filter_cons_of_neg (by simpa using h), if_neg h]; omega
theorem upC_cons (x y : Int) (b : List Int) : upC x (y :: b) = (if x < y then 1 else 0) + upC x b := by
  unfold upC
  by_cases h : x < y
  · rw [List.filter_cons_of_pos (by simpa using h), if_pos h, List.length_cons]; omega
  · rw [List.filter_cons_of_neg (by simpa using h), if_neg h]; omega
theorem lowC_perm {x : Int} {a b : List Int} (h : a.Perm b) : lowC x a = lowC x b := (h.filter _).length_eq
theorem crossN_perm_r {a b c : List Int} (h : b.Perm c) : crossN a b = crossN a c := by
  induction a with
  | nil => rfl
  | cons x a ih => simp only [crossN, ih, lowC_perm h]
theorem crossN_append_l (a b c : List Int) : crossN (a ++ b) c = crossN a c + crossN b c := by
  induction a with
  | nil => simp [crossN]
  | cons x a ih => simp only [List.cons_append, crossN, ih]; omega
theorem crossN_perm_l {a b c : List Int} (h : a.Perm b) : crossN a c = crossN b c := by
  induction h with
  | nil => rfl
  | cons x _ ih => simp only [crossN, ih]
  | swap x y l => simp only [crossN]; omega
  | trans _ _ ih1 ih2 => rw [ih1, ih2]
theorem invN_append (a b : List Int) : invN (a ++ b) = invN a + invN b + crossN a b := by
  induction a with
  | nil => simp [invN, crossN]
  | cons x a ih => simp only [List.cons_append, invN, crossN, lowC_append, ih]; omega
theorem crossN_one (l : List Int) (x : Int) : crossN l [x] = upC x l := by
  induction l with
  | nil => rfl
  | cons y l ih =>
    rw [upC_cons]
    simp only [crossN, ih]
    unfold lowC
    by_cases h : x < y <;> simp [h]
theorem invN_snoc (l : List Int) (x : Int) : invN (l ++ [x]) = invN l + upC x l := by
  rw [invN_append, crossN_one]
  simp [invN, lowC]
theorem low_up (x : Int) : ∀ l : List Int, x ∉ l → lowC x l + upC x l = l.length
  | [], _ => rfl
  | y :: l, h => by
    have ih := low_up x l (fun k => h (List.mem_cons_of_mem _ k))
    have hne : y ≠ x := fun e => h (by simp [e])
    rw [lowC_cons, upC_cons, List.length_cons]
    by_cases k : y < x
    · rw [if_pos k, if_neg (by omega)]; omega
    · rw [if_neg k, if_pos (by omega)]; omega
theorem inv_swap {a b : Int} {B : List Int} (hab : a ≠ b) (ha : a ∉ B) (hb : b ∉ B) : (invN (a :: (B ++ [b])) + invN (b :: (B ++ [a]))) % 2 = 1 := by
  simp only [invN, lowC_append, invN_snoc]
  have h1 := low_up a B ha
  have h2 := low_up b B hb
  have e1 : lowC a [b] + lowC b [a] = 1 := by
    unfold lowC
    by_cases k : b < a
    · have : ¬ a < b := by omega
      simp [k, this]
    · have : a < b := by omega
      simp [k, this]
  omega
theorem inv_swap_in {A B C : List Int} {a b : Int} (h : (A ++ a :: (B ++ b :: C)).Nodup) : (invN (A ++ a :: (B ++ b :: C)) + invN (A ++ b :: (B ++ a :: C))) % 2 = 1 := by
  have e1 : A ++ a :: (B ++ b :: C) = A ++ ((a :: (B ++ [b])) ++ C) := by simp
  have e2 : A ++ b :: (B ++ a :: C) = A ++ ((b :: (B ++ [a])) ++ C) := by simp
  rw [e1] at h
  rw [e1, e2]
  have hp : (b :: (B ++ [a])).Perm (a :: (B ++ [b])) := by
    refine (List.Perm.cons b (List.perm_append_comm (l₁ := B) (l₂ := [a]))).trans ?_
    refine (List.Perm.swap ..).trans (List.Perm.cons a ?_)
    exact (List.perm_append_comm (l₁ := [b]) (l₂ := B))
  rw [invN_append A, invN_append A, invN_append _ C, invN_append _ C, crossN_perm_l (c := C) hp, crossN_perm_r (a := A) (hp.append_right C)]
  have hn := (List.nodup_append.mp (List.nodup_append.mp h).2.1).1
  have hn2 := List.nodup_cons.mp hn
  have hn3 := List.nodup_append.mp hn2.2
  have hs := inv_swap (B := B) (a := a) (b := b) (fun e => hn2.1 (by simp [e])) (fun k => hn2.1 (by simp [k])) (fun k => hn3.2.2 b k b (by simp) rfl)
  omega
theorem inv_sorted : ∀ {l : List Int}, l.Pairwise (· < ·) → invN l = 0
  | [], _ => rfl
  | x :: t, h => by
    have h2 := List.pairwise_cons.mp h
    unfold invN lowC
    rw [inv_sorted h2.2, List.filter_eq_nil_iff.mpr (fun y hy => by have := h2.1 y hy; simp; omega)]
    rfl
theorem set_parts {l A B C : List Int} {a b : Int} {i j : Nat} (e : l = A ++ a :: (B ++ b :: C)) (hA : A.length = i) (hB : B.length = j - i - 1) (hij : i < j) : (l.set i b).set j a = A ++ b :: (B ++ a :: C) := by
  subst e
  subst hA
  rw [List.set_append_right _ _ (Nat.le_refl _), Nat.sub_self, List.set_cons_zero, List.set_append_right _ _ (by omega)]
  obtain ⟨m, rfl⟩ : ∃ m, j = A.length + (m + 1) := ⟨j - A.length - 1, by omega⟩
  rw [show A.length + (m + 1) - A.length = m + 1 by omega, List.set_cons_succ, List.set_append_right _ _ (by omega)]
  rw [show m - B.length = 0 by omega, List.set_cons_zero]
/-- the swap of two places, as the list tells it -/
theorem swap_parts {l : List Int} {i j : Nat} (hij : i < j) (hj : j < l.length) : ∃ A B C, l = A ++ l[i] :: (B ++ l[j] :: C) ∧ A.length = i ∧ (l.set i l[j]).set j l[i] = A ++ l[j] :: (B ++ l[i] :: C) := by
  have e1 : l = l.take i ++ l.drop i := (List.take_append_drop i l).symm
  have e2 : l.drop i = l[i] :: l.drop (i + 1) := List.drop_eq_getElem_cons (by omega)
  have e3 : l.drop (i + 1) = (l.drop (i + 1)).take (j - i - 1) ++ (l.drop (i + 1)).drop (j - i - 1) := (List.take_append_drop _ _).symm
  have e4 : (l.drop (i + 1)).drop (j - i - 1) = l[j] :: l.drop (j + 1) := by
    rw [List.drop_drop, show i + 1 + (j - i - 1) = j by omega, List.drop_eq_getElem_cons hj]
  rw [e4] at e3
  rw [e3] at e2
  have e5 : l = l.take i ++ l[i] :: ((l.drop (i + 1)).take (j - i - 1) ++ l[j] :: l.drop (j + 1)) := by rw [← e2]; exact e1
  have hA : (l.take i).length = i := by rw [List.length_take]; omega
  have hB : ((l.drop (i + 1)).take (j - i - 1)).length = j - i - 1 := by rw [List.length_take, List.length_drop]; omega
  exact ⟨_, _, _, e5, hA, set_parts e5 hA hB hij⟩
end K00
set_option maxHeartbeats 4000000
namespace K00
open PySem L2 DL
theorem order_in (d : D) (row : List Int) (hd : d = lI row ∨ d = tI row) (i : Nat) (hi : i < row.length) (A3 : Option Slot) (c : Int) :
    ∃ y, forGo (tgName 3) (dIf (dTest (dOp gGt (dOp gIx (dVar 0) (dVar 3)) (dOp gIx (dVar 0) (dVar 2)))) (dSet 1 (dUn gNeg (dVar 1))) dSkip) (rangeD 0 i) [some (.par d), some (.val (.int c)), some (.val (.int (i : Nat))), A3] = .nx [some (.par d), some (.val (.int (c * sgP (upC row[i] (row.take i))))), some (.val (.int (i : Nat))), y] := by
  refine forGo_range (P := fun rs => ∃ y, rs = .nx [some (.par d), some (.val (.int (c * sgP (upC row[i] (row.take i))))), some (.val (.int (i : Nat))), y])
    (fun j ρ => ∃ y, ρ = [some (.par d), some (.val (.int (c * sgP (upC row[i] (row.take j))))), some (.val (.int (i : Nat))), y]) ?_ ?_ ?_
  · exact ⟨A3, by simp [upC, sgP]⟩
  · rintro j ρ hj ⟨y, rfl⟩
    have x1 := atI_get (List.getElem?_eq_getElem hi)
    have x2 := atI_get (List.getElem?_eq_getElem (show j < row.length by omega))
    have e : row.take (j + 1) = row.take j ++ [row[j]] := by rw [List.take_succ, List.getElem?_eq_getElem (show j < row.length by omega)]; rfl
    refine ⟨_, rfl, .inl ?_⟩
    simp only [List.set_cons_succ, List.set_cons_zero]
    by_cases hc : row[i] < row[j]
    · refine ⟨[some (.par d), some (.val (.int (-(c * sgP (upC row[i] (row.take j)))))), some (.val (.int (i : Nat))), some (.val (.int (0 + (j : Nat))))], .inl ?_, some (.val (.int (0 + (j : Nat)))), ?_⟩
      · rcases hd with rfl | rfl <;> simp [atI_map, x1, x2, hc]
      · rw [e, upC_append, upC_cons, if_pos hc, show upC row[i] [] = 0 from rfl, show upC row[i] (row.take j) + (1 + 0) = upC row[i] (row.take j) + 1 from rfl, sgP_succ, Int.mul_neg]
    · refine ⟨[some (.par d), some (.val (.int (c * sgP (upC row[i] (row.take j))))), some (.val (.int (i : Nat))), some (.val (.int (0 + (j : Nat))))], .inl ?_, some (.val (.int (0 + (j : Nat)))), ?_⟩
      · rcases hd with rfl | rfl <;> simp [atI_map, x1, x2, hc]
      · rw [e, upC_append, upC_cons, if_neg hc, show upC row[i] [] = 0 from rfl]
        rfl
  · rintro ρ ⟨y, rfl⟩
    exact ⟨y, rfl⟩
theorem sgP_add (n m : Nat) : sgP (n + m) = sgP n * sgP m := by
  unfold sgP
  by_cases h : n % 2 = 0 <;> by_cases k : m % 2 = 0
  · rw [if_pos h, if_pos k, if_pos (by omega)]; rfl
  · rw [if_pos h, if_neg k, if_neg (by omega)]; rfl
  · rw [if_neg h, if_pos k, if_neg (by omega)]; rfl
  · rw [if_neg h, if_neg k, if_pos (by omega)]; rfl
theorem order_sign_walk (d : D) (row : List Int) (h : row.length ≤ 1000) (hd : d = lI row ∨ d = tI row) : m_order_sign [d] = .ok (.val (.int (sgP (invN row)))) := by
  have h2 : small (row.length : Int) := small_of (by omega) (by omega)
  have hlen : ∀ rest, (dRng1 (aB (dCB gLen (aB (dVar 0) aNil)) aNil)) (some (Slot.par d) :: rest) = .ok (rangeD 0 row.length) := fun rest => by
    rcases hd with rfl | rfl <;> simp [h2]
  simp only [m_order_sign, t_order_sign, runD_eq, startE_1, dSeq_eq, dSet_eq, dC_eq, RS.then_nx, R.then_ok, slot_val, List.set_cons_succ, List.set_cons_zero, Nat.add_one_sub_one, List.replicate, dFor_eq, hlen, show (4 : Nat) - 1 = 3 from rfl]
  refine forGo_range (P := fun rs => (rs.then (dRetA 1)).end = .ok (.val (.int (sgP (invN row)))))
    (fun i ρ => ∃ x y, ρ = [some (.par d), some (.val (.int (sgP (invN (row.take i))))), x, y]) ?_ ?_ ?_
  · exact ⟨none, none, rfl⟩
  · rintro i ρ hi ⟨x, y, rfl⟩
    have h3 : small (i : Int) := small_of (by omega) (by omega)
    refine ⟨_, rfl, .inl ?_⟩
    have e0 : (0 : Int) + (i : Nat) = (i : Nat) := by omega
    rw [e0]
    simp only [List.set_cons_succ, List.set_cons_zero]
    obtain ⟨y2, e1⟩ := order_in d row hd i hi y (sgP (invN (row.take i)))
    have e : row.take (i + 1) = row.take i ++ [row[i]] := by rw [List.take_succ, List.getElem?_eq_getElem hi]; rfl
    refine ⟨_, .inl ?_, some (.val (.int (i : Nat))), y2, rfl⟩
    rw [dFor_eq, e, invN_snoc, sgP_add, ← e1]
    simp [h3, -dIf_eq]
  · rintro ρ ⟨x, y, rfl⟩
    simp
end K00
set_option maxHeartbeats 4000000
namespace K00
open PySem L2 DL
/-! ### the law's own sign: by the exchanges that sort -/
theorem find_in (l : List Int) (k : Nat) (hk : k < l.length) (A B C E G : Option Slot) (hz : l.length ≤ 1000) (H : Option Slot) :
    ∃ (m : Nat) (y : Option Slot), forGo (tgName 5) (dIf (dTest (dOp gLt (dOp gIx (dVar 1) (dVar 5)) (dOp gIx (dVar 1) (dVar 4)))) (dSet 4 (dVar 5)) dSkip) (rangeD (k : Nat) (l.length - k)) [A, some (.acc (lI l)), C, E, some (.val (.int (k : Nat))), G, H] = .nx [A, some (.acc (lI l)), C, E, some (.val (.int (m : Nat))), y, H] ∧ k ≤ m ∧ ∃ hm : m < l.length, ∀ j (hj : j < l.length), k ≤ j → l[m] ≤ l[j] := by
  refine forGo_range (P := fun rs => ∃ (m : Nat) (y : Option Slot), rs = .nx [A, some (.acc (lI l)), C, E, some (.val (.int (m : Nat))), y, H] ∧ k ≤ m ∧ ∃ hm : m < l.length, ∀ j (hj : j < l.length), k ≤ j → l[m] ≤ l[j])
    (fun i ρ => ∃ (m : Nat) (y : Option Slot), ρ = [A, some (.acc (lI l)), C, E, some (.val (.int (m : Nat))), y, H] ∧ k ≤ m ∧ ∃ hm : m < l.length, ∀ j (hj : j < l.length), k ≤ j → j < k + i → l[m] ≤ l[j]) ?_ ?_ ?_
  · exact ⟨k, G, rfl, Nat.le_refl _, hk, fun j hj h1 h2 => by omega⟩
  · rintro i ρ hi ⟨m, y, rfl, hkm, hm, hI⟩
    have hi2 : k + i < l.length := by omega
    have x1 := atI_get (List.getElem?_eq_getElem hi2)
    have x2 := atI_get (List.getElem?_eq_getElem hm)
    have e0 : (k : Int) + (i : Nat) = ((k + i : Nat) : Int) := by omega
    refine ⟨_, rfl, .inl ?_⟩
    rw [e0]
    simp only [List.set_cons_succ, List.set_cons_zero]
    by_cases hc : l[k + i] < l[m]
    · refine ⟨[A, some (.acc (lI l)), C, E, some (.val (.int ((k + i : Nat)))), some (.val (.int ((k + i : Nat)))), H], .inl ?_, k + i, _, rfl, by omega, hi2, fun j hj h1 h2 => ?_⟩
      · simp only [Int.natCast_add] at x1
        simp [atI_map, x1, x2, hc]
      · by_cases hj2 : j < k + i
        · have := hI j hj h1 hj2; omega
        · have : j = k + i := by omega
          subst this; omega
    · refine ⟨[A, some (.acc (lI l)), C, E, some (.val (.int (m : Nat))), some (.val (.int ((k + i : Nat)))), H], .inl ?_, m, _, rfl, hkm, hm, fun j hj h1 h2 => ?_⟩
      · simp only [Int.natCast_add] at x1
        simp [atI_map, x1, x2, hc]
      · by_cases hj2 : j < k + i
        · exact hI j hj h1 hj2
        · have : j = k + i := by omega
          subst this; omega
  · rintro ρ ⟨m, y, rfl, hkm, hm, hI⟩
    exact ⟨m, y, rfl, hkm, hm, fun j hj h1 => hI j hj h1 (by omega)⟩
theorem nd_ne {l : List Int} (h : l.Nodup) {i j : Nat} (hi : i < l.length) (hj : j < l.length) (hne : i ≠ j) : l[i] ≠ l[j] := by
  have := List.pairwise_iff_getElem.mp h
  rcases Nat.lt_or_gt_of_ne hne with k | k
  · exact this i j hi hj k
  · exact (this j i hj hi k).symm
theorem set_map (l : List Int) (i : Nat) (x : Int) : (l.map D.int).set i (.int x) = (l.set i x).map D.int := by rw [List.map_set]
theorem law_sign_walk (row : List Int) (h : row.length ≤ 1000) (hn : row.Nodup) : m_law_sign [lI row] = .ok (.val (.int (sgP (invN row)))) := by
  have h2 : small (row.length : Int) := small_of (by omega) (by omega)
  simp [m_law_sign, t_law_sign, startE_1, h2]
  refine forGo_range (P := fun rs => (rs.then (dRetA 2)).end = .ok (.val (.int (sgP (invN row)))))
    (fun i ρ => ∃ l x y z u c, ρ = [some (.par (lI row)), some (.acc (lI l)), some (.val (.int c)), x, y, z, u] ∧ l.Perm row ∧ c * sgP (invN l) = sgP (invN row) ∧ ∀ a b (hab : a < b) (hb : b < l.length), a < i → l[a] < l[b]) ?_ ?_ ?_
  · exact ⟨row, none, none, none, none, 1, rfl, .refl _, by simp, fun a b hab hb h => by omega⟩
  · rintro i ρ hi ⟨l, x, y, z, u, c, rfl, hp, hc, hI⟩
    have hl := hp.length_eq
    have hnl := hp.nodup_iff.mpr hn
    have hil : i < l.length := by omega
    have h3 : small (i : Int) := small_of (by omega) (by omega)
    have h4 : small (l.length : Int) := small_of (by omega) (by omega)
    have e0 : (0 : Int) + (i : Nat) = (i : Nat) := by omega
    refine ⟨_, rfl, .inl ?_⟩
    rw [e0]
    simp only [List.set_cons_succ, List.set_cons_zero]
    obtain ⟨m, y2, e1, hkm, hm, hmin⟩ := find_in l i hil (some (.par (lI row))) none (some (.val (.int c))) (some (.val (.int (i : Nat)))) z (by omega) u
    have e2 : ((l.length : Int) - i).toNat = l.length - i := by omega
    have e3 : (dFor (dRng2 (aB (dVar 3) (aB (dCB gLen (aB (dVar 1) aNil)) aNil))) (tgName 5) (dIf (dTest (dOp gLt (dOp gIx (dVar 1) (dVar 5)) (dOp gIx (dVar 1) (dVar 4)))) (dSet 4 (dVar 5)) dSkip)) [some (.par (lI row)), some (.acc (lI l)), some (.val (.int c)), some (.val (.int (i : Nat))), some (.val (.int (i : Nat))), z, u] = .nx [some (.par (lI row)), some (.acc (lI l)), some (.val (.int c)), some (.val (.int (i : Nat))), some (.val (.int (m : Nat))), y2, u] := by
      rw [dFor_eq, ← e1]
      simp [h3, h4, e2, -dIf_eq]
    by_cases hmi : m = i
    · subst hmi
      refine ⟨_, .inl ?_, l, some (.val (.int (m : Nat))), some (.val (.int (m : Nat))), y2, u, c, rfl, hp, hc, fun a b hab hb ha => ?_⟩
      · simp only [dSeq_eq, dSet_eq, dVar_eq]
        simp [e3, -dFor_eq]
      · by_cases ha2 : a < m
        · exact hI a b hab hb ha2
        · have : a = m := by omega
          subst this
          have h5 := hmin b hb (by omega)
          have h6 : l[a] ≠ l[b] := nd_ne hnl _ _ (by omega)
          omega
    · have hlt : i < m := by omega
      obtain ⟨A, B, C, q1, q2, q3⟩ := swap_parts hlt hm
      have hpar := inv_swap_in (A := A) (B := B) (C := C) (a := l[i]) (b := l[m]) (by rw [← q1]; exact hnl)
      have x1 := atI_get (List.getElem?_eq_getElem hil)
      have x2 := atI_get (List.getElem?_eq_getElem hm)
      have i1 := ixN_nat hil
      have i2 := ixN_nat hm
      have hne : ¬ (m : Int) = i := by omega
      refine ⟨_, .inl ?_, (l.set i l[m]).set m l[i], some (.val (.int (i : Nat))), some (.val (.int (m : Nat))), y2, some (.val (.int l[i])), -c, rfl, ?_, ?_, fun a b hab hb ha => ?_⟩
      · simp only [dSeq_eq, dSet_eq, dVar_eq]
        simp [e3, -dFor_eq, hmi, atI_map, x1, x2, setTo, i1, i2, List.map_set]
        rw [if_neg hne]
        simp only [lI, List.map_set]
      · rw [q3]
        refine List.Perm.trans ?_ (q1 ▸ hp)
        refine List.Perm.append_left A ?_
        have p1 : (l[m] :: (B ++ l[i] :: C)).Perm (l[m] :: l[i] :: (B ++ C)) := List.Perm.cons _ List.perm_middle
        have p2 : (l[i] :: (B ++ l[m] :: C)).Perm (l[i] :: l[m] :: (B ++ C)) := List.Perm.cons _ List.perm_middle
        exact p1.trans ((List.Perm.swap ..).trans p2.symm)
      · rw [q3, ← hc]
        rw [← q1] at hpar
        have : sgP (invN (A ++ l[m] :: (B ++ l[i] :: C))) = - sgP (invN l) := by
          unfold sgP
          by_cases k1 : invN l % 2 = 0
          · rw [if_pos k1, if_neg (by omega)]
          · rw [if_neg k1, if_pos (by omega)]; rfl
        rw [this, Int.neg_mul_neg]
      · have hb2 : b < l.length := by simpa using hb
        have hmin2 : ∀ j (hj : j < l.length), i ≤ j → j ≠ m → l[m] < l[j] := fun j hj h1 h2 => by
          have h5 := hmin j hj h1
          have h6 : l[m] ≠ l[j] := nd_ne hnl _ _ (by omega)
          omega
        rw [List.getElem_set, List.getElem_set, List.getElem_set, List.getElem_set]
        by_cases ha2 : a < i
        · rw [if_neg (by omega), if_neg (by omega)]
          split
          · exact hI a i ha2 hil ha2
          · split
            · exact hI a m (by omega) hm ha2
            · exact hI a b hab hb2 ha2
        · have : a = i := by omega
          subst this
          rw [if_neg (by omega), if_pos rfl]
          split
          · exact hmin2 a hil (Nat.le_refl _) (by omega)
          · rw [if_neg (by omega)]
            exact hmin2 b hb2 (by omega) (by omega)
  · rintro ρ ⟨l, x, y, z, u, c, rfl, hp, hc, hI⟩
    have hs : invN l = 0 := inv_sorted (List.pairwise_iff_getElem.mpr fun a b ha hb hab => hI a b hab hb (by have := hp.length_eq; omega))
    rw [hs] at hc
    have : c = sgP (invN row) := by rw [← hc]; simp [sgP]
    simp [this]
end K00
set_option maxHeartbeats 4000000
namespace K00
open PySem L2 DL
/-! ### sorted ints -/
def srt (ns : List Int) : List Int := ns.mergeSort fun a b => decide (a ≤ b)
theorem leD_int (a b : Int) : leD (.int a) (.int b) = decide (a ≤ b) := by
  have e : leD (.int a) (.int b) = PySem.W.dataLe false (fun b : Int => .int b) a b := by simp only [leD, PySem.W.dataLe_eq, pyD]
  rw [e, PySem.W.dataLe_int (β := Int) (fun x => x)]
theorem sorted_ints (ns : List Int) : gSorted [.lst (ns.map D.int)] = some (.own (.lst ((srt ns).map D.int))) := by
  have h : sortOk (ns.map D.int) = true := by
    unfold sortOk
    simp only [Bool.and_eq_true, Bool.or_eq_true, List.all_eq_true, List.mem_map, decide_eq_true_eq]
    refine ⟨⟨⟨okDs_ints ns, ?_⟩, ?_⟩, .inr ?_⟩
    · rintro d ⟨a, _, rfl⟩; simp [pyD, PyData.depth]
    · rintro d ⟨a, _, rfl⟩ e ⟨b, _, rfl⟩; simp [pyD, PySem.W.alike]
    · rintro d ⟨a, _, rfl⟩; simp [pyD, notTup]
  simp only [gSorted, h, if_true, sortD, srt]
  rw [List.map_mergeSort (s := leD) (f := D.int) (fun a _ b _ => (leD_int a b).symm)]
theorem srt_perm (ns : List Int) : (srt ns).Perm ns := List.mergeSort_perm ns _
theorem srt_sorted {ns : List Int} (h : ns.Nodup) : (srt ns).Pairwise (· < ·) := by
  have h1 : (srt ns).Pairwise fun a b => decide (a ≤ b) = true := List.pairwise_mergeSort (fun a b c h1 h2 => by simp at *; omega) (fun a b => by simp; omega) ns
  have h2 : (srt ns).Nodup := (srt_perm ns).nodup_iff.mpr h
  exact (h1.and h2).imp fun ⟨h3, h4⟩ => by simp at h3; omega
theorem filt_true {α : Type} (l : List α) : l.filter (fun _ => true) = l := List.filter_eq_self.mpr fun _ _ => rfl
/-! ### the helpers of the law -/
theorem whole_walk (a b : Int) : m_law_whole [.int a, .int b] = .ok (.val (.bl (decide (a = b)))) := by
  simp [m_law_whole, t_law_whole, startE_2, tyD, isB]
theorem room_walk (a : List Int) (h : a.length ≤ 1000) : m_law_room [tI a, lI a] = .ok (.val (.bl true)) := by
  have h2 : small (a.length : Int) := small_of (by omega) (by omega)
  simp [m_law_room, t_law_room, startE_2, tyD, isB, h2]
  refine forGo_range (P := fun rs => (rs.then (dRet (dC (.bl true)))).end = .ok (.val (.bl true))) (fun i ρ => ∃ x, ρ = [some (.par (tI a)), some (.par (lI a)), x]) ?_ ?_ ?_
  · exact ⟨none, rfl⟩
  · rintro i ρ hi ⟨x, rfl⟩
    have x1 := atI_get (List.getElem?_eq_getElem hi)
    refine ⟨_, rfl, .inl ⟨[some (.par (tI a)), some (.par (lI a)), some (.val (.int (0 + (i : Nat))))], .inl ?_, _, rfl⟩⟩
    simp [atI_map, x1, whole_walk]
  · rintro ρ ⟨x, rfl⟩
    simp
theorem rooms_walk (rs : List (List Int)) (h : rs.length ≤ 1000) (h2 : ∀ r ∈ rs, r.length ≤ 1000) : m_law_rooms [.lst (rs.map tI), .lst (rs.map lI)] = .ok (.val (.bl true)) := by
  have h3 : small (rs.length : Int) := small_of (by omega) (by omega)
  simp [m_law_rooms, t_law_rooms, startE_2, tyD, isB, h3]
  refine forGo_range (P := fun r => (r.then (dRet (dC (.bl true)))).end = .ok (.val (.bl true))) (fun i ρ => ∃ x, ρ = [some (.par (.lst (rs.map tI))), some (.par (.lst (rs.map lI))), x]) ?_ ?_ ?_
  · exact ⟨none, rfl⟩
  · rintro i ρ hi ⟨x, rfl⟩
    have x1 := atI_get (List.getElem?_eq_getElem hi)
    have hr := room_walk rs[i] (h2 _ (List.getElem_mem hi))
    refine ⟨_, rfl, .inl ⟨[some (.par (.lst (rs.map tI))), some (.par (.lst (rs.map lI))), some (.val (.int (0 + (i : Nat))))], .inl ?_, _, rfl⟩⟩
    simp [atI_map, x1, hr]
  · rintro ρ ⟨x, rfl⟩
    simp
/-! ### rooms -/
theorem shuffle_in (a b : List Int) (p c : Int) (z : Option Slot) :
    (p ∈ b ∧ forGo (tgName 4) (dSeq (dIf (dTest (dOp gEq (dVar 3) (dVar 4))) (dRet (dC (.int 0))) dSkip) (dIf (dTest (dOp gGt (dVar 3) (dVar 4))) (dSet 2 (dUn gNeg (dVar 2))) dSkip)) (b.map D.int) [some (.par (tI a)), some (.par (tI b)), some (.val (.int c)), some (.val (.int p)), z] = .ret (.val (.int 0))) ∨
    (p ∉ b ∧ ∃ y, forGo (tgName 4) (dSeq (dIf (dTest (dOp gEq (dVar 3) (dVar 4))) (dRet (dC (.int 0))) dSkip) (dIf (dTest (dOp gGt (dVar 3) (dVar 4))) (dSet 2 (dUn gNeg (dVar 2))) dSkip)) (b.map D.int) [some (.par (tI a)), some (.par (tI b)), some (.val (.int c)), some (.val (.int p)), z] = .nx [some (.par (tI a)), some (.par (tI b)), some (.val (.int (c * sgP (lowC p b)))), some (.val (.int p)), y]) := by
  refine forGo_rule (P := fun rs => (p ∈ b ∧ rs = .ret (.val (.int 0))) ∨ (p ∉ b ∧ ∃ y, rs = .nx [some (.par (tI a)), some (.par (tI b)), some (.val (.int (c * sgP (lowC p b)))), some (.val (.int p)), y]))
    (fun i ρ => ∃ y, ρ = [some (.par (tI a)), some (.par (tI b)), some (.val (.int (c * sgP (lowC p (b.take i))))), some (.val (.int p)), y] ∧ p ∉ b.take i) ?_ ?_ ?_
  · exact ⟨z, by simp [lowC, sgP], by simp⟩
  · rintro i x ρ hx ⟨y, rfl, hp⟩
    have e : b.take (i + 1) = b.take i ++ [x] := by rw [List.take_succ, hx]; rfl
    refine ⟨_, rfl, ?_⟩
    simp only [List.set_cons_succ, List.set_cons_zero]
    by_cases k : p = x
    · exact .inr (.inl ⟨.val (.int 0), by simp [k], .inl ⟨by rw [k]; exact List.mem_of_getElem? hx, rfl⟩⟩)
    · have hp2 : p ∉ b.take (i + 1) := by rw [e]; simp only [List.mem_append, List.mem_singleton]; rintro (h | h); exact hp h; exact k h
      by_cases k2 : x < p
      · refine .inl ⟨[some (.par (tI a)), some (.par (tI b)), some (.val (.int (-(c * sgP (lowC p (b.take i)))))), some (.val (.int p)), some (.val (.int x))], .inl ?_, some (.val (.int x)), ?_, hp2⟩
        · simp [k, k2]
        · rw [e, lowC_append, lowC_cons, if_pos k2, show lowC p [] = 0 from rfl, show lowC p (b.take i) + (1 + 0) = lowC p (b.take i) + 1 from rfl, sgP_succ, Int.mul_neg]
      · refine .inl ⟨[some (.par (tI a)), some (.par (tI b)), some (.val (.int (c * sgP (lowC p (b.take i))))), some (.val (.int p)), some (.val (.int x))], .inl ?_, some (.val (.int x)), ?_, hp2⟩
        · simp [k, k2]
        · rw [e, lowC_append, lowC_cons, if_neg k2, show lowC p [] = 0 from rfl]
          rfl
  · rintro ρ ⟨y, rfl, hp⟩
    rw [List.take_length] at hp ⊢
    exact .inr ⟨hp, y, rfl⟩
theorem shuffle_walk (a b : List Int) : m_shuffle_sign [tI a, tI b] = .ok (.val (.int (if (∃ p ∈ a, p ∈ b) then 0 else sgP (crossN a b)))) := by
  simp [m_shuffle_sign, t_shuffle_sign, startE_2, -dIf_eq]
  refine forGo_rule (P := fun rs => (rs.then (dRetA 2)).end = .ok (.val (.int (if (∃ p ∈ a, p ∈ b) then 0 else sgP (crossN a b)))))
    (fun i ρ => ∃ x y, ρ = [some (.par (tI a)), some (.par (tI b)), some (.val (.int (sgP (crossN (a.take i) b)))), x, y] ∧ ∀ p ∈ a.take i, p ∉ b) ?_ ?_ ?_
  · exact ⟨none, none, rfl, by simp⟩
  · rintro i x ρ hx ⟨y, z, rfl, hp⟩
    have e : a.take (i + 1) = a.take i ++ [x] := by rw [List.take_succ, hx]; rfl
    refine ⟨_, rfl, ?_⟩
    simp only [List.set_cons_succ, List.set_cons_zero]
    rcases shuffle_in a b x (sgP (crossN (a.take i) b)) z with ⟨k1, k2⟩ | ⟨k1, y2, k2⟩
    · refine .inr (.inl ⟨.val (.int 0), ?_, ?_⟩)
      · rw [dFor_eq, ← k2]
        simp [-dIf_eq, -dSeq_eq]
      · rw [if_pos ⟨x, List.mem_of_getElem? hx, k1⟩]
        rfl
    · refine .inl ⟨_, .inl ?_, some (.val (.int x)), y2, rfl, ?_⟩
      · rw [dFor_eq, e, crossN_append_l, sgP_add]
        have : crossN [x] b = lowC x b := by simp [crossN]
        rw [this, ← k2]
        simp [-dIf_eq, -dSeq_eq]
      · rw [e]
        intro p hp2
        rcases List.mem_append.mp hp2 with h | h
        · exact hp p h
        · simp at h; subst h; exact k1
  · rintro ρ ⟨y, z, rfl, hp⟩
    rw [List.take_length] at hp ⊢
    rw [if_neg (fun ⟨p, h1, h2⟩ => hp p h1 h2)]
    simp
theorem merged_walk (a b : List Int) (h : a.length + b.length ≤ 1000) : m_merged [tI a, tI b] = .ok (.val (tI (srt (a ++ b)))) := by
  have hz : a.length + b.length ≤ sizeLine := size_of (by omega)
  have hs := sorted_ints (a ++ b)
  rw [List.map_append] at hs
  simp [m_merged, t_merged, startE_2, hz, hs]
theorem without_walk (a : List Int) (p : Int) (h : a.length ≤ 1000) : m_without [tI a, .int p] = .ok (.val (tI (a.filter fun x => !decide (x = p)))) := by
  have hz : a.length ≤ sizeLine := size_of (by omega)
  have e := compGo_rule (tg := tgName 2) (c := dTest (dOp gNe (dVar 2) (dVar 1))) (el := dVar 2) (g := D.int) (xs := a) (ρ := [some (.par (tI a)), some (.par (.int p)), none]) (fun x => !decide (x = p)) D.int (fun x hx => ⟨_, rfl, by simp, fun _ => ⟨.val (.int x), by simp, rfl⟩⟩)
  simp [m_without, t_without, startE_2, hz, e]
theorem exchanged_walk (a : List Int) (p q : Int) (h : a.length ≤ 1000) : m_exchanged [tI a, .int p, .int q] = .ok (.val (tI (srt ((a.filter fun x => !decide (x = p)) ++ [q])))) := by
  have hz : a.length ≤ sizeLine := size_of (by omega)
  have e := compGo_rule (tg := tgName 3) (c := dTest (dOp gNe (dVar 3) (dVar 1))) (el := dVar 3) (g := D.int) (xs := a) (ρ := [some (.par (tI a)), some (.par (.int p)), some (.par (.int q)), none]) (fun x => !decide (x = p)) D.int (fun x hx => ⟨_, rfl, by simp, fun _ => ⟨.val (.int x), by simp, rfl⟩⟩)
  have hz1 : 1 ≤ sizeLine := size_of (by omega)
  have hz2 : (a.filter fun x => !decide (x = p)).length + 1 ≤ sizeLine := size_of (by have := List.length_filter_le (fun x => !decide (x = p)) a; omega)
  have hs := sorted_ints ((a.filter fun x => !decide (x = p)) ++ [q])
  rw [List.map_append] at hs
  simp [m_exchanged, t_exchanged, startE_3, hz, e, hz1, hz2, hs]
  simp at hs hz2
  simp [hz2, hs]
theorem complement_walk (n : Nat) (a : List Int) (h : n ≤ 1000) : m_complement [.int n, tI a] = .ok (.val (tI (((List.range n).map fun k : Nat => (k : Int)).filter fun x => !decide (x ∈ a)))) := by
  have h2 : small (n : Int) := small_of (by omega) (by omega)
  have hz : n ≤ sizeLine := size_of (by omega)
  have e := compGo_range (tg := tgName 2) (c := dTest (dOp (gIn true) (dVar 2) (dVar 1))) (el := dVar 2) (lo := 0) (n := n) (ρ := [some (.par (.int n)), some (.par (tI a)), none]) (fun x => !decide ((x : Int) ∈ a)) (fun k => D.int (k : Nat)) (fun x hx => ⟨_, rfl, by simp [gIn_tup], fun _ => ⟨.val (.int (x : Nat)), by simp, rfl⟩⟩)
  have hz3 : (rangeD 0 n).length ≤ sizeLine := by simp [rangeD, hz]
  simp [m_complement, t_complement, startE_2, h2, hz, e, hz3, List.filter_map, Function.comp_def]
end K00
set_option maxHeartbeats 4000000
namespace K00
open PySem L2 DL
theorem mod_ix (c : Int) {n : Nat} (h : 0 < n) : ∃ j : Nat, c % (n : Int) = j ∧ j < n := by
  have h1 := Int.emod_nonneg c (show (n : Int) ≠ 0 by omega)
  have h2 := Int.emod_lt_of_pos c (show (0 : Int) < n by omega)
  exact ⟨(c % (n : Int)).toNat, by omega, by omega⟩
theorem cut2 (row : List Int) (i : Nat) : List.take i (row.map D.int) ++ List.drop (i + 1) (row.map D.int) = (row.eraseIdx i).map D.int := by
  rw [List.eraseIdx_eq_take_drop_succ, List.map_append, List.map_take, List.map_drop]
theorem faces_walk (a : List Int) (h : a.length ≤ 1000) : m_faces [tI a] = .ok (.own (.lst (((List.range a.length).map fun k => a.eraseIdx k).map tI))) := by
  have h2 : small (a.length : Int) := small_of (by omega) (by omega)
  have hz : (rangeD 0 a.length).length ≤ sizeLine := by simp [rangeD, size_of (show a.length ≤ 100000 by omega)]
  have e := compGo_range (tg := tgName 1) (c := dYes) (el := dOp gAdd (dSl (dVar 0) dNoP (dPart (dVar 1))) (dSl (dVar 0) (dPart (dOp gAdd (dVar 1) (dC (.int 1)))) dNoP)) (lo := 0) (n := a.length) (ρ := [some (.par (tI a)), none]) (fun _ => true) (fun k => tI (a.eraseIdx k)) (fun i hi => ⟨_, rfl, rfl, fun _ => ⟨.val (tI (a.eraseIdx i)), by
      have c1 := cut_from D.int a (i + 1)
      have c2 := cut_to D.int a i
      have e1 : ((i + 1 : Nat) : Int) = (i : Int) + 1 := by omega
      rw [e1] at c1
      have hz2 : min i a.length + (a.length - (i + 1)) ≤ sizeLine := size_of (by omega)
      simp [c1, c2, hz2, cut2], rfl⟩⟩)
  rw [filt_true] at e
  simp [m_faces, t_faces, startE_1, h2, hz, e]
theorem exch_walk (room : List Int) (n : Nat) (cell : Int) (h : room.length ≤ 100) (hn : n ≤ 12) : m_law_exchanges [lI room, .int n, .int cell] = .ok (.val (.bl true)) := by
  have h2 : small (n : Int) := small_of (by omega) (by omega)
  have h12 : small 12 := small_of (by omega) (by omega)
  have hz : room.length ≤ sizeLine := size_of (by omega)
  have hz1 : (rangeD 0 n).length ≤ sizeLine := by simp [rangeD, size_of (show n ≤ 100000 by omega)]
  have hz2 : (rangeD 0 12).length ≤ sizeLine := by simp [rangeD, size_of (show 12 ≤ 100000 by omega)]
  have e1 : ∀ (A B C E F G : Option Slot) (m : Nat), compGo (tgName 8) (dTest (dOp (gIn true) (dVar 8) (dVar 0))) (dVar 8) [some (.par (lI room)), A, B, C, E, F, G, none, none] (rangeD 0 m) = .ok ((((List.range m).map fun k : Nat => (k : Int)).filter fun x => !decide (x ∈ room)).map D.int) := fun A B C E F G m => by
    have := compGo_range (tg := tgName 8) (c := dTest (dOp (gIn true) (dVar 8) (dVar 0))) (el := dVar 8) (lo := 0) (n := m) (ρ := [some (.par (lI room)), A, B, C, E, F, G, none, none]) (fun x => !decide ((x : Int) ∈ room)) (fun k => D.int (k : Nat)) (fun x hx => ⟨_, rfl, by simp [gIn_ints], fun _ => ⟨.val (.int (x : Nat)), by simp, rfl⟩⟩)
    rw [this, List.filter_map, List.map_map]
    rfl
  have e2 : ∀ (A B C E G : Option Slot) (p : Int), compGo (tgName 8) (dTest (dOp gNe (dVar 8) (dVar 5))) (dVar 8) [A, B, C, E, G, some (.val (.int p)), none, none, none] (room.map D.int) = .ok ((room.filter fun x => !decide (x = p)).map D.int) := fun A B C E G p =>
    compGo_rule (tg := tgName 8) (c := dTest (dOp gNe (dVar 8) (dVar 5))) (el := dVar 8) (g := D.int) (xs := room) (ρ := [A, B, C, E, G, some (.val (.int p)), none, none, none]) (fun x => !decide (x = p)) D.int (fun x hx => ⟨_, rfl, by simp, fun _ => ⟨.val (.int x), by simp, rfl⟩⟩)
  generalize hO : (((List.range n).map fun k : Nat => (k : Int)).filter fun x => !decide (x ∈ room)) = out at *
  have e1n := fun A B C E F G => e1 A B C E F G n
  have e112 := fun A B C E F G => e1 A B C E F G 12
  rw [hO] at e1n
  generalize hS : (((List.range 12).map fun k : Nat => (k : Int)).filter fun x => !decide (x ∈ room)) = str at *
  have w1 := room_walk room (by omega)
  have hmem : ∀ x ∈ str, x ∉ room := fun x hx => by
    rw [← hS] at hx
    simpa using (List.mem_filter.mp hx).2
  by_cases hs : 0 < str.length
  · obtain ⟨j, hj, hj2⟩ := mod_ix (cell / 7) hs
    have x1 := atI_get (List.getElem?_eq_getElem hj2)
    have w2 := without_walk room str[j] (by omega)
    have hq : (room.filter fun x => !decide (x = str[j])) = room := List.filter_eq_self.mpr fun x hx => by
      simp only [Bool.not_eq_true', decide_eq_false_iff_not]
      intro e
      exact hmem _ (List.getElem_mem hj2) (e ▸ hx)
    rw [hq] at w2
    by_cases hr : room = []
    · simp [m_law_exchanges, t_law_exchanges, startE_3, hz, hz1, hz2, h2, h12, e1n, e112, hs, hj, atI_map, x1, w2, w1, (eq_true hr : (room = []) = True)]
    · have hr0 : 0 < room.length := List.length_pos_iff.mpr hr
      obtain ⟨j2, hj3, hj4⟩ := mod_ix cell hr0
      have x2 := atI_get (List.getElem?_eq_getElem hj4)
      have w3 := without_walk room room[j2] (by omega)
      have w4 := room_walk (room.filter fun x => !decide (x = room[j2])) (Nat.le_trans (List.length_filter_le ..) (by omega))
      by_cases ho : out = []
      · simp [m_law_exchanges, t_law_exchanges, startE_3, hz, hz1, hz2, h2, h12, e1n, e112, hs, hj, atI_map, x1, w2, w1, hr, hj3, x2, e2, w3, w4, ho, hr0]
      · have ho0 : 0 < out.length := List.length_pos_iff.mpr ho
        obtain ⟨j5, hj5, hj6⟩ := mod_ix (cell / 13) ho0
        have x3 := atI_get (List.getElem?_eq_getElem hj6)
        have w5 := exchanged_walk room room[j2] out[j5] (by omega)
        have hs5 := sorted_ints ((room.filter fun x => !decide (x = room[j2])) ++ [out[j5]])
        have hlen5 : (room.filter fun x => !decide (x = room[j2])).length + 1 ≤ 101 := by have := List.length_filter_le (fun x => !decide (x = room[j2])) room; omega
        have w6 := room_walk (srt ((room.filter fun x => !decide (x = room[j2])) ++ [out[j5]])) (by rw [(srt_perm _).length_eq, List.length_append]; simp only [List.length_singleton]; omega)
        have hz7 : (room.filter fun x => !decide (x = room[j2])).length + 1 ≤ sizeLine := size_of (by omega)
        have hz8 : 1 ≤ sizeLine := size_of (by omega)
        rw [List.map_append] at hs5
        generalize hF : (room.filter fun x => !decide (x = room[j2])) = ff at *
        have e2' : ∀ (A B C E G : Option Slot), compGo (tgName 8) (dTest (dOp gNe (dVar 8) (dVar 5))) (dVar 8) [A, B, C, E, G, some (.val (.int room[j2])), none, none, none] (room.map D.int) = .ok (ff.map D.int) := fun A B C E G => by rw [e2, hF]
        simp only [List.map_cons, List.map_nil] at hs5
        simp [m_law_exchanges, t_law_exchanges, startE_3, hz, hz1, hz2, h2, h12, e1n, e112, hs, hj, atI_map, x1, w2, w1, hr, hj3, x2, e2', w3, w4, ho, hr0, hj5, x3, w5, ho0, hz7, hz8, hs5, w6]
  · by_cases hr : room = []
    · simp [m_law_exchanges, t_law_exchanges, startE_3, hz, hz1, hz2, h2, h12, e1n, e112, hs, atI_map, (eq_true hr : (room = []) = True)]
    · have hr0 : 0 < room.length := List.length_pos_iff.mpr hr
      obtain ⟨j2, hj3, hj4⟩ := mod_ix cell hr0
      have x2 := atI_get (List.getElem?_eq_getElem hj4)
      have w3 := without_walk room room[j2] (by omega)
      have w4 := room_walk (room.filter fun x => !decide (x = room[j2])) (Nat.le_trans (List.length_filter_le ..) (by omega))
      by_cases ho : out = []
      · simp [m_law_exchanges, t_law_exchanges, startE_3, hz, hz1, hz2, h2, h12, e1n, e112, hs, atI_map, hr, hj3, x2, e2, w3, w4, ho, hr0]
      · have ho0 : 0 < out.length := List.length_pos_iff.mpr ho
        obtain ⟨j5, hj5, hj6⟩ := mod_ix (cell / 13) ho0
        have x3 := atI_get (List.getElem?_eq_getElem hj6)
        have w5 := exchanged_walk room room[j2] out[j5] (by omega)
        have hs5 := sorted_ints ((room.filter fun x => !decide (x = room[j2])) ++ [out[j5]])
        have hlen5 : (room.filter fun x => !decide (x = room[j2])).length + 1 ≤ 101 := by have := List.length_filter_le (fun x => !decide (x = room[j2])) room; omega
        have w6 := room_walk (srt ((room.filter fun x => !decide (x = room[j2])) ++ [out[j5]])) (by rw [(srt_perm _).length_eq, List.length_append]; simp only [List.length_singleton]; omega)
        have hz7 : (room.filter fun x => !decide (x = room[j2])).length + 1 ≤ sizeLine := size_of (by omega)
        have hz8 : 1 ≤ sizeLine := size_of (by omega)
        rw [List.map_append] at hs5
        generalize hF : (room.filter fun x => !decide (x = room[j2])) = ff at *
        have e2' : ∀ (A B C E G : Option Slot), compGo (tgName 8) (dTest (dOp gNe (dVar 8) (dVar 5))) (dVar 8) [A, B, C, E, G, some (.val (.int room[j2])), none, none, none] (room.map D.int) = .ok (ff.map D.int) := fun A B C E G => by rw [e2, hF]
        simp only [List.map_cons, List.map_nil] at hs5
        simp [m_law_exchanges, t_law_exchanges, startE_3, hz, hz1, hz2, h2, h12, e1n, e112, hs, atI_map, hr, hj3, x2, e2', w3, w4, ho, hr0, hj5, x3, w5, ho0, hz7, hz8, hs5, w6]
theorem order_walk (c : Int) (n : Nat) (h0 : 0 ≤ c) (hn : n ≤ 1000) : ∃ l : List Int, m_law_order [.int c, .int n] = .ok (.own (lI l)) ∧ l.length = n ∧ l.Perm ((List.range n).map fun k : Nat => (k : Int)) := DL.order_ex c n h0 hn
theorem nodup_aff {l : List Int} (h : l.Nodup) (s t : Int) (hs : 0 < s) : (l.map fun x => s * x + t).Nodup := by
  refine List.Pairwise.map _ (fun a b (hab : a ≠ b) => ?_) h
  intro e
  have : s * a = s * b := by omega
  exact hab (Int.eq_of_mul_eq_mul_left (by omega) this)
theorem long_walk (c o : Int) (h0 : 0 ≤ c) : ∃ row : List Int, m_law_long [.int c, .int o] = .ok (.own (lI row)) ∧ row.Nodup ∧ row.length ≤ 30 := by
  obtain ⟨l, ho, hl, hp⟩ := order_walk c 30 h0 (by omega)
  obtain ⟨hn, hv⟩ := perm_range_facts hp
  obtain ⟨k, hk, hk2⟩ : ∃ k : Nat, o % 31 = k ∧ k ≤ 30 := ⟨(o % 31).toNat, by omega, by omega⟩
  have hz : min k 30 ≤ sizeLine := size_of (by omega)
  have ct := cut_to D.int l k
  have e := compGo_rule (tg := tgName 5) (c := dYes) (el := dOp gAdd (dOp gMul (dVar 3) (dVar 5)) (dVar 4)) (g := D.int) (xs := l.take k) (ρ := [some (.par (.int c)), some (.par (.int o)), some (.val (.int (k : Nat))), some (.val (.int (1 + o / 31 % 1000))), some (.val (.int (o / 31000 % 40000 - 20000))), none]) (fun _ => true) (fun x => D.int ((1 + o / 31 % 1000) * x + (o / 31000 % 40000 - 20000))) (fun x hx => ⟨_, rfl, rfl, fun _ => ⟨.val (.int ((1 + o / 31 % 1000) * x + (o / 31000 % 40000 - 20000))), by
      have hm : mulOk (1 + o / 31 % 1000) x := mulOk_l (by omega) (by omega)
      simp [hm], rfl⟩⟩)
  rw [filt_true] at e
  refine ⟨(l.take k).map fun x => (1 + o / 31 % 1000) * x + (o / 31000 % 40000 - 20000), ?_, nodup_aff (hn.sublist (List.take_sublist ..)) _ _ (by omega), by simp; omega⟩
  simp at ho e ct
  simp [m_law_long, t_law_long, startE_2, ho, hk, ct, hl, hz, e]
  rfl
theorem long_right (row : List Int) (hn : row.Nodup) (h : row.length ≤ 1000) : m_law_long_right [lI row] = .ok (.val (.bl true)) := by
  have w1 := law_sign_walk row h hn
  have w2 := order_sign_walk (lI row) row h (.inl rfl)
  have w3 := order_sign_walk (tI row) row h (.inr rfl)
  simp [m_law_long_right, t_law_long_right, startE_1, w1, w2, w3, whole_walk, gEq_ints]
end K00
set_option maxHeartbeats 4000000
namespace K00
open PySem L2 DL
/-! ### faults -/
def faultF (places : Int) (size : Nat) (room : List Int) : Str :=
  if room.length ≠ size then "count" else if ∃ p ∈ room, ¬ (0 ≤ p ∧ p < places) then "place" else if room.Nodup then "" else "twice"
section
variable {places : Int} {size : Nat} {room : List Int}
theorem ff_count (h : ¬ room.length = size) : faultF places size room = "count" := by unfold faultF; rw [if_pos h]
theorem ff_place (h : room.length = size) (h2 : ∃ p ∈ room, ¬ (0 ≤ p ∧ p < places)) : faultF places size room = "place" := by unfold faultF; rw [if_neg (by simp [h]), if_pos h2]
theorem ff_ok (h : room.length = size) (h2 : ¬ ∃ p ∈ room, ¬ (0 ≤ p ∧ p < places)) (h3 : room.Nodup) : faultF places size room = "" := by unfold faultF; rw [if_neg (by simp [h]), if_neg h2, if_pos h3]
theorem ff_twice (h : room.length = size) (h2 : ¬ ∃ p ∈ room, ¬ (0 ≤ p ∧ p < places)) (h3 : ¬ room.Nodup) : faultF places size room = "twice" := by unfold faultF; rw [if_neg (by simp [h]), if_neg h2, if_neg h3]
end
theorem nub_full : ∀ l : List Int, (nubI l).length ≤ l.length ∧ ((nubI l).length = l.length ↔ l.Nodup)
  | [] => by simp [nubI]
  | x :: l => by
    obtain ⟨h1, h2⟩ := nub_full l
    unfold nubI
    by_cases h : x ∈ l
    · rw [if_pos h]
      refine ⟨by simp; omega, ⟨fun e => ?_, fun e => absurd h (List.nodup_cons.mp e).1⟩⟩
      simp at e; omega
    · rw [if_neg h]
      simp only [List.length_cons, List.nodup_cons, Nat.add_right_cancel_iff, h2]
      exact ⟨by omega, by simp [h]⟩
theorem fault_walk (d : D) (places : Int) (size : Nat) (room : List Int) (h : room.length ≤ 1000) (hd : d = lI room ∨ d = tI room) : m_room_fault [.int places, .int size, d] = .ok (.val (.str (faultF places size room))) := by
  have e1 : (dCB gLen (aB (dVar 2) aNil)) = (dCB gLen (aB (dVar 2) aNil)) := rfl
  by_cases hl : room.length = size
  · have hg : (gLen [d]) = some (.val (.int (room.length : Nat))) := by rcases hd with rfl | rfl <;> simp
    have hset : (gLenSet d) = some (.val (.int ((nubI room).length : Nat))) := by
      rcases hd with rfl | rfl
      · exact gLenSet_lst h
      · exact gLenSet_tup h
    have hrd : ∃ v, (Slot.par d).rd = v ∧ v.d = d ∧ v.items = some (room.map D.int) := by rcases hd with rfl | rfl <;> exact ⟨_, rfl, rfl, rfl⟩
    obtain ⟨v, hv1, hv2, hv3⟩ := hrd
    have hl2 : ((room.length : Nat) : Int) = (size : Int) := by omega
    simp [m_room_fault, t_room_fault, startE_3, hv1, hv2, hg, hl2, hv3]
    refine forGo_rule (P := fun rs => (rs.then (dSeq (dIf (dTest (dOp gNe (dUn gLenSet (dVar 2)) (dVar 1))) (dRet (dC (.str "twice"))) dSkip) (dRet (dC (.str ""))))).end = .ok (.val (.str (faultF places size room))))
      (fun i ρ => ∃ x, ρ = [some (.par (.int places)), some (.par (.int size)), some (.par d), x] ∧ ∀ p ∈ room.take i, 0 ≤ p ∧ p < places) ?_ ?_ ?_
    · exact ⟨none, rfl, by simp⟩
    · rintro i p ρ hp ⟨x, rfl, hI⟩
      refine ⟨_, rfl, ?_⟩
      simp only [List.set_cons_succ, List.set_cons_zero]
      by_cases k : 0 ≤ p ∧ p < places
      · refine .inl ⟨_, .inl ?_, some (.val (.int p)), rfl, ?_⟩
        · simp [k.1, k.2]
        · have e : room.take (i + 1) = room.take i ++ [p] := by rw [List.take_succ, hp]; rfl
          rw [e]
          intro q hq
          rcases List.mem_append.mp hq with h | h
          · exact hI q h
          · simp at h; subst h; exact k
      · refine .inr (.inl ⟨.val (.str "place"), ?_, ?_⟩)
        · by_cases k1 : 0 ≤ p
          · have k2 : ¬ p < places := fun h => k ⟨k1, h⟩
            simp [k1, k2]
          · simp [k1]
        · rw [ff_place hl ⟨p, List.mem_of_getElem? hp, k⟩]
          rfl
    · rintro ρ ⟨x, rfl, hI⟩
      rw [List.take_length] at hI
      have hno : ¬ ∃ p ∈ room, ¬ (0 ≤ p ∧ p < places) := fun ⟨p, h1, h2⟩ => h2 (hI p h1)
      obtain ⟨n1, n2⟩ := nub_full room
      by_cases hnd : room.Nodup
      · have n3 : (((nubI room).length : Nat) : Int) = (size : Int) := by rw [n2.mpr hnd, hl]
        rw [ff_ok hl hno hnd]
        simp [hv1, hv2, hset, n3]
      · have n3 : ¬ (((nubI room).length : Nat) : Int) = (size : Int) := fun e => hnd (n2.mp (by omega))
        rw [ff_twice hl hno hnd]
        simp [hv1, hv2, hset, n3]
  · have hl2 : ¬ ((room.length : Nat) : Int) = (size : Int) := by omega
    rw [ff_count hl]
    rcases hd with rfl | rfl <;> simp [m_room_fault, t_room_fault, startE_3, hl2]
theorem law_fault_walk (places : Int) (size : Nat) (room : List Int) (h : room.length ≤ 1000) : m_law_fault [.int places, .int size, lI room] = .ok (.val (.str (faultF places size room))) := by
  have hz : room.length ≤ sizeLine := size_of (by omega)
  by_cases hl : room.length = size
  · subst hl
    have h2 : small (room.length : Int) := small_of (by omega) (by omega)
    have hz3 : (rangeD 0 room.length).length ≤ sizeLine := by simp [rangeD, hz]
    have c1 := compGo_rule (tg := tgName 3) (c := dOr (dTest (dOp gLt (dVar 3) (dC (.int 0)))) (dTest (dOp gGe (dVar 3) (dVar 0)))) (el := dVar 3) (g := D.int) (xs := room) (ρ := [some (.par (.int places)), some (.par (.int (room.length : Nat))), some (.par (lI room)), none, none]) (fun p => decide (p < 0) || decide (places ≤ p)) D.int (fun x hx => ⟨_, rfl, by by_cases k : x < 0 <;> simp [k], fun _ => ⟨.val (.int x), by simp, rfl⟩⟩)
    have c2 := compGo_range (tg := tgName 4) (c := dTest (dOp (gIn false) (dOp gIx (dVar 2) (dVar 4)) (dSl (dVar 2) dNoP (dPart (dVar 4))))) (el := dVar 4) (lo := 0) (n := room.length) (ρ := [some (.par (.int places)), some (.par (.int (room.length : Nat))), some (.par (lI room)), none, none]) (fun i => decide (room.getD i 0 ∈ room.take i)) (fun i => D.int (i : Nat)) (fun i hi => ⟨_, rfl, by
      have x1 := atI_get (List.getElem?_eq_getElem hi)
      have ct := cut_to D.int room i
      have hg := gIn_ints false room[i] (room.take i)
      simp at ct hg
      simp [atI_map, x1, ct, hg, hi], fun _ => ⟨.val (.int (i : Nat)), by simp, rfl⟩⟩)
    have e1 : 0 < (room.filter fun p => decide (p < 0) || decide (places ≤ p)).length ↔ ∃ p ∈ room, ¬ (0 ≤ p ∧ p < places) := by
      rw [List.length_pos_iff_exists_mem]
      simp only [List.mem_filter, Bool.or_eq_true, decide_eq_true_eq]
      exact ⟨fun ⟨p, h1, h2⟩ => ⟨p, h1, by omega⟩, fun ⟨p, h1, h2⟩ => ⟨p, h1, by omega⟩⟩
    have e2 : 0 < ((List.range room.length).filter fun i => decide (room.getD i 0 ∈ room.take i)).length ↔ ¬ room.Nodup := by
      rw [List.length_pos_iff_exists_mem]
      simp only [List.mem_filter, decide_eq_true_eq, List.mem_range]
      constructor
      · rintro ⟨i, hi, hm⟩ hnd
        obtain ⟨j, hj, e⟩ := List.getElem_of_mem hm
        rw [List.length_take] at hj
        rw [List.getElem_take, List.getD_eq_getElem?_getD, List.getElem?_eq_getElem hi] at e
        exact nd_ne hnd (by omega) hi (by omega) e
      · intro hnd
        refine Classical.byContradiction fun hno => hnd (List.pairwise_iff_getElem.mpr fun a b ha hb hab e => hno ⟨b, hb, ?_⟩)
        rw [List.getD_eq_getElem?_getD, List.getElem?_eq_getElem hb, Option.getD_some, ← e]
        exact List.mem_iff_getElem.mpr ⟨a, by rw [List.length_take]; omega, by rw [List.getElem_take]⟩
    generalize hF1 : (room.filter fun p => decide (p < 0) || decide (places ≤ p)) = f1 at *
    generalize hF2 : ((List.range room.length).filter fun i => decide (room.getD i 0 ∈ room.take i)) = f2 at *
    by_cases k1 : 0 < f1.length
    · rw [ff_place rfl (e1.mp k1)]
      simp [m_law_fault, t_law_fault, startE_3, hz, c1, k1]
    · have q1 : ¬ ∃ p ∈ room, ¬ (0 ≤ p ∧ p < places) := fun q => k1 (e1.mpr q)
      by_cases k2 : 0 < f2.length
      · rw [ff_twice rfl q1 (e2.mp k2)]
        simp [m_law_fault, t_law_fault, startE_3, hz, hz3, h2, c1, c2, k1, k2]
      · have q2 : room.Nodup := Classical.byContradiction fun q => k2 (e2.mpr q)
        rw [ff_ok rfl q1 q2]
        simp [m_law_fault, t_law_fault, startE_3, hz, hz3, h2, c1, c2, k1, k2]
  · have hl2 : ¬ ((room.length : Nat) : Int) = (size : Int) := by omega
    rw [ff_count hl]
    simp [m_law_fault, t_law_fault, startE_3, hl2]
end K00
set_option maxHeartbeats 4000000
namespace K00
open PySem L2 DL
theorem cell_eq (ns : List Int) {k : Int} (h0 : 0 ≤ k) (h1 : k ≤ 1000000) : m_law_cell [.scr ns, .int k] = .ok (.val (.int (cellF ns k))) := DL.cell_eq ns h0 h1
theorem gNe_str_self (x : Str) (h : PyData.strOk x = true) : gNe (.str x) (.str x) = some (.val (.bl false)) := by
  simp [gNe, cmpOk, okD, pyD, SeqAt.shaped, PyData.canLay0, PyData.depth, eqD, PyData.eqv, h]
theorem ff_str (p : Int) (n : Nat) (r : List Int) : PyData.strOk (faultF p n r) = true := by
  unfold faultF
  split
  · decide +kernel
  · split
    · decide +kernel
    · split <;> decide +kernel
noncomputable abbrev st3 : DS := (dSeq (dSetV 10 (dCall m_law_fault (aB (dVar 1) (aB (dVar 5) (aB (dVar 9) aNil)))))
    (dSeq (dSetV 11 (dCB gList (aB (dVar 9) aNil)))
    (dSeq (dSetV 12 (dCall m_room_fault (aB (dVar 1) (aB (dVar 5) (aB (dVar 11) aNil)))))
    (dIf (dOr (dNot (dTest (dUn (gIsi .str) (dVar 12)))) (dOr (dTest (dOp gNe (dVar 12) (dVar 10))) (dOr (dTest (dOp gNe (dVar 11) (dVar 9))) (dTest (dOp gNe (dCall m_room_fault (aB (dVar 1) (aB (dVar 5) (aB (dCB gTuple (aB (dVar 9) aNil)) aNil)))) (dVar 10)))))) (dRet (dC (.bl false))) dSkip))))
noncomputable abbrev st2 : DS := (dSeq (dIf (dAnd (dTest (dOp gGt (dVar 5) (dC (.int 1)))) (dOr (dTest (dOp gEq (dVar 6) (dC (.int 5)))) (dTest (dOp gEq (dVar 6) (dC (.int 6)))))) (dPut 9 (dOp DL.gSub (dVar 7) (dC (.int 1))) (dOp gIx (dVar 9) (dVar 7))) dSkip)
    (dSeq (dSetV 10 (dCall m_law_fault (aB (dVar 1) (aB (dVar 5) (aB (dVar 9) aNil)))))
    (dSeq (dSetV 11 (dCB gList (aB (dVar 9) aNil)))
    (dSeq (dSetV 12 (dCall m_room_fault (aB (dVar 1) (aB (dVar 5) (aB (dVar 11) aNil)))))
    (dIf (dOr (dNot (dTest (dUn (gIsi .str) (dVar 12)))) (dOr (dTest (dOp gNe (dVar 12) (dVar 10))) (dOr (dTest (dOp gNe (dVar 11) (dVar 9))) (dTest (dOp gNe (dCall m_room_fault (aB (dVar 1) (aB (dVar 5) (aB (dCB gTuple (aB (dVar 9) aNil)) aNil)))) (dVar 10)))))) (dRet (dC (.bl false))) dSkip)))))
theorem st3_walk (ns row room : List Int) (n : Nat) (size : Nat) (h : room.length ≤ 13) (A B C E F X Y Z : Option Slot) : ∃ u v w, st3 [some (.par (.scr ns)), some (.par (.int n)), some (.par (lI row)), A, B, some (.val (.int size)), C, E, F, some (.acc (lI room)), X, Y, Z] = .nx [some (.par (.scr ns)), some (.par (.int n)), some (.par (lI row)), A, B, some (.val (.int size)), C, E, F, some (.acc (lI room)), u, v, w] := by
  have w1 := law_fault_walk n size room (by omega)
  have w2 := fault_walk (lI room) n size room (by omega) (.inl rfl)
  have w3 := fault_walk (tI room) n size room (by omega) (.inr rfl)
  refine ⟨some (.val (.str (faultF n size room))), some (.val (lI room)), some (.val (.str (faultF n size room))), ?_⟩
  simp [w1, w2, w3, tyD, isB, gNe_str_self _ (ff_str n size room), gNe_ints]
theorem ixN_low {n j : Nat} (h : j < n) : ∃ i, ixN n ((j : Int) - 1) = some i := by
  unfold ixN
  by_cases k : 0 ≤ (j : Int) - 1
  · rw [if_pos k, if_pos (by omega)]; exact ⟨_, rfl⟩
  · rw [if_neg k, if_pos (by omega)]; exact ⟨_, rfl⟩
theorem st2_walk (ns row room : List Int) (n : Nat) (size : Nat) (h : room.length ≤ 13) (A B F X Y Z : Option Slot) (kind : Int) (t : Nat) (ht : t < size) (hk : kind = 5 ∨ kind = 6 → room.length = size) : ∃ r2 u v w, st2 [some (.par (.scr ns)), some (.par (.int n)), some (.par (lI row)), A, B, some (.val (.int size)), some (.val (.int kind)), some (.val (.int t)), F, some (.acc (lI room)), X, Y, Z] = .nx [some (.par (.scr ns)), some (.par (.int n)), some (.par (lI row)), A, B, some (.val (.int size)), some (.val (.int kind)), some (.val (.int t)), F, some (.acc (lI r2)), u, v, w] := by
  have base := st3_walk ns row room n size h A B (some (.val (.int kind))) (some (.val (.int t))) F X Y Z
  by_cases hs : (1 : Int) < (size : Nat)
  · by_cases h5 : kind = 5 ∨ kind = 6
    · have hl := hk h5
      have x1 := atI_get (List.getElem?_eq_getElem (show t < room.length by omega))
      obtain ⟨i, hi⟩ := ixN_low (show t < room.length by omega)
      obtain ⟨u, v, w, e⟩ := st3_walk ns row (room.set i room[t]) n size (by simp; omega) A B (some (.val (.int kind))) (some (.val (.int t))) F X Y Z
      refine ⟨room.set i room[t], u, v, w, ?_⟩
      rw [← e]
      unfold st2
      rw [dSeq_eq]
      rcases h5 with rfl | rfl
      · simp [hs, atI_map, x1, setTo, hi, -dSeq_eq]
        simp only [lI, List.map_set]
      · simp [hs, atI_map, x1, setTo, hi, -dSeq_eq]
        simp only [lI, List.map_set]
    · obtain ⟨u, v, w, e⟩ := base
      refine ⟨room, u, v, w, ?_⟩
      rw [← e]
      unfold st2
      rw [dSeq_eq]
      have h51 : ¬ kind = 5 := fun e => h5 (.inl e)
      have h61 : ¬ kind = 6 := fun e => h5 (.inr e)
      simp [hs, h51, h61, -dSeq_eq]
  · obtain ⟨u, v, w, e⟩ := base
    refine ⟨room, u, v, w, ?_⟩
    rw [← e]
    unfold st2
    rw [dSeq_eq]
    simp [hs, -dSeq_eq]
theorem seq_step {s r : DS} {ρ ρ1 : DL.Env} {Q : DL.Env → Prop} (h : s ρ = .nx ρ1) (k : ∃ ρ2, (r ρ1 = .nx ρ2 ∨ r ρ1 = .cnt ρ2) ∧ Q ρ2) : ∃ ρ2, (dSeq s r ρ = .nx ρ2 ∨ dSeq s r ρ = .cnt ρ2) ∧ Q ρ2 := by
  rw [dSeq_eq, h, RS.then_nx]
  exact k
theorem faults_right_walk (ns row : List Int) (n : Nat) (hn : 0 < n) (hn2 : n ≤ 12) (hl : row.length = n) : m_law_faults_right [.scr ns, .int n, lI row] = .ok (.val (.bl true)) := by
  have h5 : small 5 := small_of (by omega) (by omega)
  simp [m_law_faults_right, t_law_faults_right, startE_3, h5]
  refine forGo_range (P := fun rs => (rs.then (dRet (dC (.bl true)))).end = .ok (.val (.bl true))) (fun i ρ => ∃ x3 x4 x5 x6 x7 x8 x9 x10 x11 x12, ρ = [some (.par (.scr ns)), some (.par (.int n)), some (.par (lI row)), x3, x4, x5, x6, x7, x8, x9, x10, x11, x12]) ?_ ?_ ?_
  · exact ⟨_, _, _, _, _, _, _, _, _, _, rfl⟩
  · rintro i ρ hi ⟨x3, x4, x5, x6, x7, x8, x9, x10, x11, x12, rfl⟩
    refine ⟨_, rfl, .inl ?_⟩
    have e0 : (0 : Int) + (i : Nat) = (i : Nat) := by omega
    rw [e0]
    simp only [List.set_cons_succ, List.set_cons_zero]
    have ce := cell_eq ns (k := 12 + (i : Nat)) (by omega) (by omega)
    generalize cellF ns (12 + (i : Nat)) = c at *
    have hnp : (0 : Int) < n := by omega
    obtain ⟨s0, hs0, hs1⟩ := mod_ix c hn
    obtain ⟨size, hsz⟩ : ∃ size, size = 1 + s0 := ⟨_, rfl⟩
    have hsz2 : 0 < size := by omega
    obtain ⟨t, ht, ht2⟩ := mod_ix (c / 96) hsz2
    have es : (1 : Int) + (s0 : Nat) = (size : Nat) := by omega
    have ct := cut_to D.int row size
    have htl : t < (row.take size).length := by rw [List.length_take]; omega
    have ixt := ixN_nat htl
    rw [List.length_take] at ixt
    have hlen : (row.take size).length = size := by rw [List.length_take]; omega
    have fin : ∀ (room : List Int), room.length ≤ 13 → (c / 12 % 8 = 5 ∨ c / 12 % 8 = 6 → room.length = size) → ∃ ρ2, st2 [some (.par (.scr ns)), some (.par (.int n)), some (.par (lI row)), some (.val (.int (i : Nat))), some (.val (.int c)), some (.val (.int size)), some (.val (.int (c / 12 % 8))), some (.val (.int t)), some (.val (.int (c / 1152 % 1000 * (c / 1152000 % 2)))), some (.acc (lI room)), x10, x11, x12] = .nx ρ2 ∧ ∃ x3 x4 x5 x6 x7 x8 x9 x10 x11 x12, ρ2 = [some (.par (.scr ns)), some (.par (.int n)), some (.par (lI row)), x3, x4, x5, x6, x7, x8, x9, x10, x11, x12] := fun room k1 k2 => by
      obtain ⟨r2, u, v, w, e⟩ := st2_walk ns row room n size k1 (some (.val (.int (i : Nat)))) (some (.val (.int c))) (some (.val (.int (c / 1152 % 1000 * (c / 1152000 % 2))))) x10 x11 x12 (c / 12 % 8) t ht2 k2
      exact ⟨_, e, _, _, _, _, _, _, _, _, _, _, rfl⟩
    simp at ct
    have lem : ∀ (s : DS) (ρ : DL.Env) (room : List Int), s ρ = .nx [some (.par (.scr ns)), some (.par (.int n)), some (.par (lI row)), some (.val (.int (i : Nat))), some (.val (.int c)), some (.val (.int size)), some (.val (.int (c / 12 % 8))), some (.val (.int t)), some (.val (.int (c / 1152 % 1000 * (c / 1152000 % 2)))), some (.acc (lI room)), x10, x11, x12] → room.length ≤ 13 → (c / 12 % 8 = 5 ∨ c / 12 % 8 = 6 → room.length = size) → ∃ ρ2, (dSeq s st2 ρ = .nx ρ2 ∨ dSeq s st2 ρ = .cnt ρ2) ∧ ∃ x3 x4 x5 x6 x7 x8 x9 x10 x11 x12, ρ2 = [some (.par (.scr ns)), some (.par (.int n)), some (.par (lI row)), x3, x4, x5, x6, x7, x8, x9, x10, x11, x12] := fun s ρ room e1 k1 k2 => by
      obtain ⟨ρ2, e2, e3⟩ := fin room k1 k2
      refine ⟨ρ2, .inl ?_, e3⟩
      rw [dSeq_eq, e1, RS.then_nx, e2]
    have hmin : min size n = size := by omega
    refine seq_step (ρ1 := [some (.par (.scr ns)), some (.par (.int n)), some (.par (lI row)), some (.val (.int (i : Nat))), some (.val (.int c)), x5, x6, x7, x8, x9, x10, x11, x12]) (by simp [ce, hs0, es, ht, ct, hn, hsz2]) ?_
    refine seq_step (ρ1 := [some (.par (.scr ns)), some (.par (.int n)), some (.par (lI row)), some (.val (.int (i : Nat))), some (.val (.int c)), some (.val (.int size)), x6, x7, x8, x9, x10, x11, x12]) (by simp [ce, hs0, es, ht, ct, hn, hsz2]) ?_
    refine seq_step (ρ1 := [some (.par (.scr ns)), some (.par (.int n)), some (.par (lI row)), some (.val (.int (i : Nat))), some (.val (.int c)), some (.val (.int size)), some (.val (.int (c / 12 % 8))), x7, x8, x9, x10, x11, x12]) (by simp [ce, hs0, es, ht, ct, hn, hsz2]) ?_
    refine seq_step (ρ1 := [some (.par (.scr ns)), some (.par (.int n)), some (.par (lI row)), some (.val (.int (i : Nat))), some (.val (.int c)), some (.val (.int size)), some (.val (.int (c / 12 % 8))), some (.val (.int t)), x8, x9, x10, x11, x12]) (by simp [ce, hs0, es, ht, ct, hn, hsz2]) ?_
    refine seq_step (ρ1 := [some (.par (.scr ns)), some (.par (.int n)), some (.par (lI row)), some (.val (.int (i : Nat))), some (.val (.int c)), some (.val (.int size)), some (.val (.int (c / 12 % 8))), some (.val (.int t)), some (.val (.int (c / 1152 % 1000 * (c / 1152000 % 2)))), x9, x10, x11, x12]) (by simp [ce, hs0, es, ht, ct, hn, hsz2]) ?_
    refine seq_step (ρ1 := [some (.par (.scr ns)), some (.par (.int n)), some (.par (lI row)), some (.val (.int (i : Nat))), some (.val (.int c)), some (.val (.int size)), some (.val (.int (c / 12 % 8))), some (.val (.int t)), some (.val (.int (c / 1152 % 1000 * (c / 1152000 % 2)))), some (.acc (lI (row.take size))), x10, x11, x12]) (by simp [ce, hs0, es, ht, ct, hn, hsz2]) ?_
    have c1 := cut_from D.int (row.take size) 1
    simp at c1
    have x0 : atI row 0 = some row[0] := atI_get (i := 0) (List.getElem?_eq_getElem (by omega))
    have z1 : 1 ≤ sizeLine := size_of (by omega)
    have z2 : size + 1 ≤ sizeLine := size_of (by omega)
    by_cases k1 : c / 12 % 8 = 1
    · exact lem _ _ ((row.take size).drop 1) (by simp [k1, c1]) (by simp; omega) (by omega)
    · by_cases k2 : c / 12 % 8 = 2
      · exact lem _ _ (row.take size ++ [row[0]]) (by simp [k2, atI_map, x0, z1, z2, hl, hmin]) (by simp; omega) (by omega)
      · by_cases k3 : c / 12 % 8 = 3 ∨ c / 12 % 8 = 5
        · refine lem _ _ ((row.take size).set t (n + c / 1152 % 1000 * (c / 1152000 % 2))) ?_ (by simp; omega) (fun _ => by simp; omega)
          rcases k3 with k3 | k3
          · simp [k3, setTo, ixt]
          · simp [k3, setTo, ixt]
        · have k31 : ¬ c / 12 % 8 = 3 := fun e => k3 (.inl e)
          have k35 : ¬ c / 12 % 8 = 5 := fun e => k3 (.inr e)
          by_cases k4 : c / 12 % 8 = 4
          · refine lem _ _ ((row.take size).set t (-1 - c / 1152 % 1000 * (c / 1152000 % 2))) ?_ (by simp; omega) (fun _ => by simp; omega)
            simp [k4, setTo, ixt]
          · exact lem _ _ (row.take size) (by simp [k1, k2, k31, k35, k4]) (by simp; omega) (fun _ => by simp; omega)
  · rintro ρ ⟨x3, x4, x5, x6, x7, x8, x9, x10, x11, x12, rfl⟩
    simp
end K00
set_option maxHeartbeats 4000000
namespace K00
open PySem L2 DL
/-! ### how many -/
def ch : Nat → Nat → Nat
  | _, 0 => 1
  | 0, _ + 1 => 0
  | n + 1, k + 1 => ch n k + ch n (k + 1)
theorem ch_mul : ∀ (n j : Nat), (ch n (j + 1) : Int) * (j + 1) = ch n j * ((n : Int) - j)
  | 0, 0 => by simp [ch]
  | 0, j + 1 => by simp [ch]
  | n + 1, 0 => by
    have h := ch_mul n 0
    simp only [ch] at h ⊢
    simp at h ⊢
    omega
  | n + 1, i + 1 => by
    have h1 := ch_mul n i
    have h2 := ch_mul n (i + 1)
    simp only [ch]
    push_cast at h1 h2 ⊢
    grind
theorem many_walk (n k : Nat) (hn : n ≤ 100) (hk : k ≤ 100) : m_law_many [.int n, .int k] = .ok (.val (.int (ch n k))) := by
  have h2 : small (k : Int) := small_of (by omega) (by omega)
  simp [m_law_many, t_law_many, startE_2, h2]
  refine forGo_range (P := fun rs => (rs.then (dRetA 2)).end = .ok (.val (.int (ch n k)))) (fun i ρ => ∃ x, ρ = [some (.par (.int n)), some (.par (.int k)), some (.val (.int (ch n i))), x]) ?_ ?_ ?_
  · exact ⟨none, by cases n <;> rfl⟩
  · rintro i ρ hi ⟨x, rfl⟩
    have hm : mulOk (ch n i : Int) ((n : Int) - i) := mulOk_r (by omega) (by omega)
    have hd : divOk ((ch n i : Int) * ((n : Int) - i)) ((i : Int) + 1) := divOk_of (by omega) (by omega)
    have he : (ch n i : Int) * ((n : Int) - i) / ((i : Int) + 1) = ch n (i + 1) := by
      rw [← ch_mul n i]
      exact Int.mul_ediv_cancel _ (by omega)
    refine ⟨_, rfl, .inl ⟨[some (.par (.int n)), some (.par (.int k)), some (.val (.int (ch n (i + 1)))), some (.val (.int (0 + (i : Nat))))], .inl ?_, _, rfl⟩⟩
    simp [hm, hd, he]
  · rintro ρ ⟨x, rfl⟩
    simp
theorem items_walk (c : Int) (n : Nat) (hn : n ≤ 100) : ∃ l : List Int, m_law_items [.int c, .int n] = .ok (.val (tI l)) ∧ l.length = n ∧ l.Pairwise (· < ·) := by
  have h2 : small (n : Int) := small_of (by omega) (by omega)
  simp [m_law_items, t_law_items, startE_2, h2]
  refine forGo_range (P := fun rs => ∃ l : List Int, (rs.then (dRet (dCB gTuple (aB (dVar 2) aNil)))).end = .ok (.val (tI l)) ∧ l.length = n ∧ l.Pairwise (· < ·))
    (fun i ρ => ∃ l x c v, ρ = [some (.val (.int c)), some (.par (.int n)), some (.acc (lI l)), some (.val (.int v)), x] ∧ l.length = i ∧ l.Pairwise (· < ·) ∧ ∀ y ∈ l, y < v) ?_ ?_ ?_
  · exact ⟨[], none, _, _, rfl, rfl, .nil, by simp⟩
  · rintro i ρ hi ⟨l, x, c, v, rfl, hl, hp, hv⟩
    have hz : i < sizeLine := size_lt (by omega)
    refine ⟨_, rfl, .inl ⟨[some (.val (.int (c / 3))), some (.par (.int n)), some (.acc (lI (l ++ [v]))), some (.val (.int (v + 1 + c % 3))), some (.val (.int (0 + (i : Nat))))], .inl ?_, _, _, _, _, rfl, by simp [hl], ?_, ?_⟩⟩
    · simp [appTo, hl, hz]
    · refine List.pairwise_append.mpr ⟨hp, by simp, fun a ha b hb => ?_⟩
      simp at hb; subst hb
      exact hv a ha
    · intro y hy
      rcases List.mem_append.mp hy with h | h
      · have := hv y h; omega
      · simp at h; omega
  · rintro ρ ⟨l, x, c, v, rfl, hl, hp, hv⟩
    exact ⟨l, by simp, hl, hp⟩
/-! ### subsets -/
def combos : List Int → Nat → List (List Int)
  | _, 0 => [[]]
  | [], _ + 1 => []
  | x :: t, s + 1 => (combos t s).map (x :: ·) ++ combos t (s + 1)
theorem combos_zero (l : List Int) : combos l 0 = [[]] := by cases l <;> rfl
theorem combos_len : ∀ (l : List Int) (s : Nat), (combos l s).length = ch l.length s
  | [], 0 => rfl
  | x :: t, 0 => rfl
  | [], s + 1 => rfl
  | x :: t, s + 1 => by simp only [combos, List.length_append, List.length_map, combos_len t s, combos_len t (s + 1), List.length_cons, ch]
theorem combos_short : ∀ {l : List Int} {s : Nat}, l.length < s → combos l s = []
  | [], s + 1, _ => rfl
  | x :: t, s + 1, h => by
    simp only [combos]
    rw [combos_short (l := t) (s := s) (by simpa using h), combos_short (l := t) (s := s + 1) (by simp at h; omega)]
    rfl
theorem ch_le : ∀ n k, ch n k ≤ 2 ^ n
  | 0, 0 => by decide
  | 0, k + 1 => by simp [ch]
  | n + 1, 0 => by simp [ch]; exact Nat.one_le_two_pow
  | n + 1, k + 1 => by
    have h1 := ch_le n k
    have h2 := ch_le n (k + 1)
    simp only [ch, Nat.pow_succ]
    omega
def pre (l : List Int) (s k : Nat) : List (List Int) := ((List.range k).map fun i => (combos (l.drop (i + 1)) s).map (l.getD i 0 :: ·)).flatten
theorem pre_succ (l : List Int) (s k : Nat) : pre l s (k + 1) = pre l s k ++ (combos (l.drop (k + 1)) s).map (l.getD k 0 :: ·) := by
  unfold pre
  rw [List.range_succ, List.map_append, List.flatten_append]
  simp
theorem pre_all : ∀ (l : List Int) (s : Nat), combos l (s + 1) = pre l s (l.length - s)
  | [], s => by simp [combos, pre]
  | x :: t, s => by
    simp only [combos]
    by_cases h : s ≤ t.length
    · rw [show (x :: t).length - s = (t.length - s) + 1 by simp; omega]
      unfold pre
      rw [List.range_succ_eq_map, List.map_cons, List.flatten_cons, List.map_map, pre_all t s]
      unfold pre
      congr 1
    · rw [show (x :: t).length - s = 0 by simp; omega, combos_short (l := t) (s := s) (by omega), combos_short (l := t) (s := s + 1) (by omega)]
      rfl
theorem pre_mono (l : List Int) (s : Nat) {j k : Nat} (h : j ≤ k) : (pre l s j).length ≤ (pre l s k).length := by
  induction h with
  | refl => exact Nat.le_refl _
  | step _ ih => rw [pre_succ, List.length_append]; omega
theorem combos_mem : ∀ {l : List Int} {s : Nat} {c : List Int}, c ∈ combos l s → c.length = s ∧ c.Sublist l
  | [], 0, c, h => by simp [combos] at h; subst h; simp
  | x :: t, 0, c, h => by simp [combos] at h; subst h; simp
  | [], s + 1, c, h => by simp [combos] at h
  | x :: t, s + 1, c, h => by
    simp only [combos, List.mem_append, List.mem_map] at h
    rcases h with ⟨d, hd, rfl⟩ | h
    · obtain ⟨h1, h2⟩ := combos_mem hd
      exact ⟨by simp [h1], h2.cons_cons x⟩
    · obtain ⟨h1, h2⟩ := combos_mem h
      exact ⟨h1, h2.cons x⟩
def lexL : List Int → List Int → Bool
  | x :: a, y :: b => decide (x < y) || (decide (x = y) && lexL a b)
  | _, _ => false
theorem combos_lex : ∀ {l : List Int} {s : Nat}, l.Pairwise (· < ·) → (combos l s).Pairwise fun a b => lexL a b = true
  | l, 0, _ => by rw [combos_zero]; simp
  | [], s + 1, _ => by simp [combos]
  | x :: t, s + 1, h => by
    have h2 := List.pairwise_cons.mp h
    simp only [combos]
    refine List.pairwise_append.mpr ⟨List.Pairwise.map _ (fun a b hab => by simp [lexL, hab]) (combos_lex h2.2), combos_lex h2.2, fun a ha b hb => ?_⟩
    obtain ⟨d, hd, rfl⟩ := List.mem_map.mp ha
    obtain ⟨h3, h4⟩ := combos_mem hb
    cases b with
    | nil => simp at h3
    | cons y b =>
      have := h2.1 y (h4.subset (by simp))
      simp [lexL, this]
theorem lexAt_of : ∀ (a b : List Int) (A B : List Int) (i : Nat) (z : Bool), A.drop i = a → B.drop i = b → a.length = b.length → lexL a b = true → Ob.lexAt (fun j => decide (A.getD j 0 = B.getD j 0)) (fun j => decide (B.getD j 0 ≤ A.getD j 0)) z i a.length = false
  | [], _, A, B, i, z, _, _, _, h => by simp [lexL] at h
  | x :: a, [], A, B, i, z, _, _, hl, h => by simp at hl
  | x :: a, y :: b, A, B, i, z, ha, hb, hl, h => by
    have ex : A.getD i 0 = x := by
      have := congrArg (fun l => l[0]?) ha
      simp at this
      rw [List.getD_eq_getElem?_getD, this]; rfl
    have ey : B.getD i 0 = y := by
      have := congrArg (fun l => l[0]?) hb
      simp at this
      rw [List.getD_eq_getElem?_getD, this]; rfl
    have ha2 : A.drop (i + 1) = a := by rw [← List.drop_drop, ha]; rfl
    have hb2 : B.drop (i + 1) = b := by rw [← List.drop_drop, hb]; rfl
    simp only [lexL, Bool.or_eq_true, Bool.and_eq_true, decide_eq_true_eq] at h
    rw [List.length_cons, Ob.lexAt_succ, ex, ey]
    rcases h with h | ⟨h, h3⟩
    · rw [if_neg (by simp; omega)]
      simp; omega
    · rw [if_pos (by simpa using h)]
      exact lexAt_of a b A B (i + 1) z ha2 hb2 (by simpa using hl) h3
theorem lexGe_of {a b : List Int} (hl : a.length = b.length) (h : lexL a b = true) : lexGe a b = false := by
  unfold lexGe
  have := lexAt_of a b a b 0 (decide (a.length ≥ b.length)) rfl rfl hl h
  rw [show min a.length b.length = a.length by omega]
  exact this
end K00
set_option maxHeartbeats 4000000
namespace K00
open PySem L2 DL
theorem sub_in (l : List Int) (s : Int) (k : Nat) (hk : k < l.length) (F : List (List Int)) (cs : List (List Int)) (hF : F.length + cs.length ≤ 5000) (hcs : ∀ c ∈ cs, c.length ≤ 100) (z : Option Slot) :
    ∃ y, forGo (tgName 4) (dApp 2 (xOf (dOp gAdd (dTup (aV (dOp gIx (dVar 0) (dVar 3)) aNil)) (dVar 4)))) (cs.map tI) [some (.par (tI l)), some (.par (.int s)), some (.acc (.lst (F.map tI))), some (.val (.int (k : Nat))), z] = .nx [some (.par (tI l)), some (.par (.int s)), some (.acc (.lst ((F ++ cs.map (l.getD k 0 :: ·)).map tI))), some (.val (.int (k : Nat))), y] := by
  have e0 : l.getD k 0 = l[k] := by rw [List.getD_eq_getElem?_getD, List.getElem?_eq_getElem hk]; rfl
  have x1 := atI_get (List.getElem?_eq_getElem hk)
  rw [e0]
  refine forGo_rule (P := fun rs => ∃ y, rs = .nx [some (.par (tI l)), some (.par (.int s)), some (.acc (.lst ((F ++ cs.map (l[k] :: ·)).map tI))), some (.val (.int (k : Nat))), y])
    (fun i ρ => ∃ y, ρ = [some (.par (tI l)), some (.par (.int s)), some (.acc (.lst ((F ++ (cs.take i).map (l[k] :: ·)).map tI))), some (.val (.int (k : Nat))), y]) ?_ ?_ ?_
  · exact ⟨z, by simp⟩
  · rintro i c ρ hc ⟨y, rfl⟩
    have hi := (List.getElem?_eq_some_iff.mp hc).1
    have hz1 : 1 ≤ sizeLine := size_of (by omega)
    have hz2 : 1 + c.length ≤ sizeLine := size_of (by have := hcs c (List.mem_of_getElem? hc); omega)
    have hz3 : F.length + min i cs.length < sizeLine := size_lt (by omega)
    have et : cs.take (i + 1) = cs.take i ++ [c] := by rw [List.take_succ, hc]; rfl
    refine ⟨_, rfl, .inl ⟨[some (.par (tI l)), some (.par (.int s)), some (.acc (.lst ((F ++ (cs.take (i + 1)).map (l[k] :: ·)).map tI))), some (.val (.int (k : Nat))), some (.val (tI c))], .inl ?_, _, rfl⟩⟩
    rw [et]
    simp [atI_map, x1, appTo, hz1, hz2, hz3]
  · rintro ρ ⟨y, rfl⟩
    rw [List.take_length]
    exact ⟨y, rfl⟩
theorem subsets_walk : ∀ (s fuel : Nat) (l : List Int), s < fuel → s ≤ 100 → l.length ≤ 12 → m_subsets_n fuel [tI l, .int s] = .ok (.own (.lst ((combos l s).map tI)))
  | 0, 0, l, h, _, _ => by omega
  | 0, fuel + 1, l, h, _, _ => by
    have hz1 : 1 ≤ sizeLine := size_of (by omega)
    simp [m_subsets_n, t_subsets, startE_2, combos_zero, hz1]
  | s + 1, 0, l, h, _, _ => by omega
  | s + 1, fuel + 1, l, h, hs, hl => by
    have ih := fun l' (h' : l'.length ≤ 12) => subsets_walk s fuel l' (by omega) (by omega) h'
    have h2 : small ((l.length : Int) - (s + 1) + 1) := small_of (by omega) (by omega)
    have hne : ¬ ((s : Int) + 1) = 0 := by omega
    have en : ((l.length : Int) - (s + 1) + 1).toNat = l.length - s := by omega
    simp [m_subsets_n, t_subsets, startE_2, hne, h2, en]
    refine forGo_range (P := fun rs => (rs.then (dRetA 2)).end = .ok (.own (.lst ((combos l (s + 1)).map tI))))
      (fun i ρ => ∃ x y, ρ = [some (.par (tI l)), some (.par (.int ((s : Int) + 1))), some (.acc (.lst ((pre l s i).map tI))), x, y]) ?_ ?_ ?_
    · exact ⟨none, none, rfl⟩
    · rintro i ρ hi ⟨x, y, rfl⟩
      have hk : i < l.length := by omega
      have cf := cut_from D.int l (i + 1)
      have e1 : ((i + 1 : Nat) : Int) = (i : Int) + 1 := by omega
      rw [e1] at cf
      have hd := ih (l.drop (i + 1)) (by rw [List.length_drop]; omega)
      have htot : (pre l s (i + 1)).length ≤ 4096 := by
        have a1 := pre_mono l s (show i + 1 ≤ l.length - s by omega)
        rw [← pre_all, combos_len] at a1
        have a2 := ch_le l.length (s + 1)
        have a3 : 2 ^ l.length ≤ 2 ^ 12 := Nat.pow_le_pow_right (by omega) hl
        omega
      rw [pre_succ, List.length_append, List.length_map] at htot
      obtain ⟨y2, e2⟩ := sub_in l ((s : Int) + 1) i hk (pre l s i) (combos (l.drop (i + 1)) s) (by omega) (fun c hc => by rw [(combos_mem hc).1]; omega) y
      refine ⟨_, rfl, .inl ⟨_, .inl ?_, some (.val (.int (i : Nat))), y2, rfl⟩⟩
      have e0 : (0 : Int) + (i : Nat) = (i : Nat) := by omega
      have es : (s : Int) + 1 - 1 = (s : Nat) := by omega
      rw [e0]
      simp only [List.set_cons_succ, List.set_cons_zero]
      rw [dFor_eq, pre_succ, ← e2]
      have hd2 : m_subsets_n fuel [D.tup (List.drop (i + 1) (l.map D.int)), .int s] = .ok (.own (.lst ((combos (l.drop (i + 1)) s).map tI))) := by rw [← List.map_drop]; exact hd
      simp at cf
      simp [cf, es, hd2, -dApp_eq]
    · rintro ρ ⟨x, y, rfl⟩
      simp [pre_all]
theorem subsets_right (l : List Int) (k : Nat) (hl : l.length ≤ 12) (hk : k ≤ 13) (hp : l.Pairwise (· < ·)) : m_law_subsets_right [tI l, .int k] = .ok (.val (.bl true)) := by
  have w1 : m_subsets [tI l, .int k] = .ok (.own (.lst ((combos l k).map tI))) := subsets_walk k 14 l (by omega) (by omega) hl
  have w2 := many_walk l.length k (by omega) (by omega)
  have hcl := combos_len l k
  have hc4 : (combos l k).length ≤ 4096 := by
    rw [hcl]
    have a2 := ch_le l.length k
    have a3 : 2 ^ l.length ≤ 2 ^ 12 := Nat.pow_le_pow_right (by omega) hl
    omega
  have h2 : small ((combos l k).length : Int) := small_of (by omega) (by omega)
  have h3 : small (k : Int) := small_of (by omega) (by omega)
  have hlex := List.pairwise_iff_getElem.mp (combos_lex (s := k) hp)
  rw [← hcl] at w2
  simp [m_law_subsets_right, t_law_subsets_right, startE_2, w1, w2, tyD, isB, h2]
  refine forGo_range (P := fun rs => (rs.then (dRet (dC (.bl true)))).end = .ok (.val (.bl true))) (fun i ρ => ∃ x y z, ρ = [some (.par (tI l)), some (.par (.int k)), some (.val (.lst ((combos l k).map tI))), x, y, z]) ?_ ?_ ?_
  · exact ⟨none, none, none, rfl⟩
  · rintro i ρ hi ⟨x, y, z, rfl⟩
    have x1 := atI_get (List.getElem?_eq_getElem hi)
    obtain ⟨c1, c2⟩ := combos_mem (List.getElem_mem hi)
    have cp := List.pairwise_iff_getElem.mp (hp.sublist c2)
    refine ⟨_, rfl, .inl ?_⟩
    have e0 : (0 : Int) + (i : Nat) = (i : Nat) := by omega
    rw [e0]
    simp only [List.set_cons_succ, List.set_cons_zero]
    generalize hc : (combos l k)[i] = c at *
    refine seq_step (ρ1 := [some (.par (tI l)), some (.par (.int k)), some (.val (.lst ((combos l k).map tI))), some (.val (.int (i : Nat))), some (.val (tI c)), z]) (by simp [atI_map, x1]) ?_
    refine seq_step (ρ1 := [some (.par (tI l)), some (.par (.int k)), some (.val (.lst ((combos l k).map tI))), some (.val (.int (i : Nat))), some (.val (tI c)), z]) (by simp [tyD, isB, c1]) ?_
    have lp : ∃ y2, forGo (tgName 5) (dIf (dOr (dTest (dOp (gIn true) (dOp gIx (dVar 4) (dVar 5)) (dVar 0))) (dAnd (dTest (dOp gGt (dVar 5) (dC (.int 0)))) (dTest (dOp gGe (dOp gIx (dVar 4) (dOp DL.gSub (dVar 5) (dC (.int 1)))) (dOp gIx (dVar 4) (dVar 5)))))) (dRet (dC (.bl false))) dSkip) (rangeD 0 k) [some (.par (tI l)), some (.par (.int k)), some (.val (.lst ((combos l k).map tI))), some (.val (.int (i : Nat))), some (.val (tI c)), z] = .nx [some (.par (tI l)), some (.par (.int k)), some (.val (.lst ((combos l k).map tI))), some (.val (.int (i : Nat))), some (.val (tI c)), y2] := by
      refine forGo_range (P := fun rs => ∃ y2, rs = .nx [some (.par (tI l)), some (.par (.int k)), some (.val (.lst ((combos l k).map tI))), some (.val (.int (i : Nat))), some (.val (tI c)), y2]) (fun j ρ => ∃ y2, ρ = [some (.par (tI l)), some (.par (.int k)), some (.val (.lst ((combos l k).map tI))), some (.val (.int (i : Nat))), some (.val (tI c)), y2]) ⟨z, rfl⟩ ?_ ?_
      · rintro j ρ hj ⟨y2, rfl⟩
        have hjc : j < c.length := by omega
        have x2 := atI_get (List.getElem?_eq_getElem hjc)
        have hin : c[j] ∈ l := c2.subset (List.getElem_mem hjc)
        refine ⟨_, rfl, .inl ⟨[some (.par (tI l)), some (.par (.int k)), some (.val (.lst ((combos l k).map tI))), some (.val (.int (i : Nat))), some (.val (tI c)), some (.val (.int (0 + (j : Nat))))], .inl ?_, _, rfl⟩⟩
        cases j with
        | zero =>
          simp at x2
          simp [atI_map, x2, gIn_tup, hin]
        | succ m =>
          have x3 := atI_get (List.getElem?_eq_getElem (show m < c.length by omega))
          have hlt := cp m (m + 1) (by omega) hjc (by omega)
          have hge : ¬ c[m + 1] ≤ c[m] := by omega
          have em : (m : Int) + 1 - 1 = m := by omega
          have hpos : (0 : Int) < (m : Int) + 1 := by omega
          simp only [Int.natCast_add] at x2
          simp at x2
          simp [atI_map, x2, x3, gIn_tup, hin, em, hpos, hge]
      · rintro ρ ⟨y2, rfl⟩
        exact ⟨y2, rfl⟩
    obtain ⟨y2, e2⟩ := lp
    refine seq_step (ρ1 := [some (.par (tI l)), some (.par (.int k)), some (.val (.lst ((combos l k).map tI))), some (.val (.int (i : Nat))), some (.val (tI c)), y2]) (by rw [dFor_eq, ← e2]; simp [h3, -dIf_eq]) ?_
    refine ⟨[some (.par (tI l)), some (.par (.int k)), some (.val (.lst ((combos l k).map tI))), some (.val (.int (i : Nat))), some (.val (tI c)), y2], .inl ?_, _, _, _, rfl⟩
    cases i with
    | zero => simp
    | succ m =>
      have hm : m < (combos l k).length := by omega
      have x3 := atI_get (List.getElem?_eq_getElem hm)
      have hlt := hlex m (m + 1) hm hi (by omega)
      rw [hc] at hlt
      have hge := lexGe_of (by rw [(combos_mem (List.getElem_mem hm)).1, c1]) hlt
      have hgt := gTup_ints lexGe (combos l k)[m] c
      rw [hge] at hgt
      have em : (m : Int) + 1 - 1 = m := by omega
      have hpos : (0 : Int) < (m : Int) + 1 := by omega
      simp [em, hpos, atI_map, x3, hgt]
  · rintro ρ ⟨x, y, z, rfl⟩
    simp
end K00
set_option maxHeartbeats 4000000
namespace K00
open PySem L2 DL
theorem end_step {s r : DS} {ρ ρ1 : DL.Env} {X : R Rv} (h : s ρ = .nx ρ1) (k : (r ρ1).end = X) : (dSeq s r ρ).end = X := by
  rw [dSeq_eq, h, RS.then_nx]
  exact k
theorem cut_any (l : List Int) (lo hi : Option Int) : ∃ s : List Int, cutD (l.map D.int) lo hi = s.map D.int ∧ s.Sublist l :=
  ⟨_, cutD_map D.int l lo hi, (List.take_sublist ..).trans (List.drop_sublist ..)⟩
theorem sgP_sorted {a b : List Int} (ha : a.Pairwise (· < ·)) (hb : b.Pairwise (· < ·)) : sgP (invN (a ++ b)) = sgP (crossN a b) := by
  rw [invN_append, inv_sorted ha, inv_sorted hb]
  simp
theorem nd_app {a b : List Int} (ha : a.Nodup) (hb : b.Nodup) (h : ¬ ∃ p ∈ a, p ∈ b) : (a ++ b).Nodup :=
  List.nodup_append.mpr ⟨ha, hb, fun x hx y hy e => h ⟨x, hx, e ▸ hy⟩⟩
theorem main (ns : List Int) (hns : ns.length ≤ 63) : m_law [.scr ns] = .ok (.val (.bl true)) := by
  have C : ∀ k : Int, 0 ≤ k → k ≤ 1000 → m_law_cell [.scr ns, .int k] = .ok (.val (.int (cellF ns k))) := fun k h0 h1 => cell_eq ns h0 (by omega)
  have N : ∀ k : Int, 0 ≤ k → k ≤ 1000 → 0 ≤ cellF ns k := fun k h0 h1 => cell_nn ns h0 (by omega)
  have C0 := C 0 (by omega) (by omega)
  have C1 := C 1 (by omega) (by omega)
  have C2 := C 2 (by omega) (by omega)
  have C3 := C 3 (by omega) (by omega)
  have C4 := C 4 (by omega) (by omega)
  have C5 := C 5 (by omega) (by omega)
  have C6 := C 6 (by omega) (by omega)
  have C7 := C 7 (by omega) (by omega)
  have C8 := C 8 (by omega) (by omega)
  have C9 := C 9 (by omega) (by omega)
  have C10 := C 10 (by omega) (by omega)
  have C11 := C 11 (by omega) (by omega)
  obtain ⟨n, hn, hn2⟩ : ∃ n : Nat, 1 + cellF ns 0 % 12 = n ∧ 0 < n ∧ n ≤ 12 := ⟨(1 + cellF ns 0 % 12).toNat, by omega, by omega, by omega⟩
  obtain ⟨hn1, hn2⟩ := hn2
  obtain ⟨row, ho, hrl, hrp⟩ := order_walk (cellF ns 1) n (N 1 (by omega) (by omega)) (by omega)
  obtain ⟨hnd, hv⟩ := perm_range_facts hrp
  have hf := faults_right_walk ns row n hn1 hn2 hrl
  obtain ⟨m, hm, hm2⟩ := mod_ix (cellF ns 2) (show 0 < n + 1 by omega)
  have ct := cut_to D.int row m
  have htn : (row.take m).Nodup := hnd.sublist (List.take_sublist ..)
  have htl : (row.take m).length ≤ 12 := by rw [List.length_take]; omega
  have htm : (row.take m).length = m := by rw [List.length_take]; omega
  have lr1 := long_right (row.take m) htn (by omega)
  obtain ⟨lg, hlg, hlgn, hlgl⟩ := long_walk (cellF ns 8) (cellF ns 9) (N 8 (by omega) (by omega))
  have lr2 := long_right lg hlgn (by omega)
  have hpn : (0 : Int) < (n : Int) + 1 := by omega
  have em : cellF ns 2 % ((n : Int) + 1) = m := by have := hm; rw [show ((n + 1 : Nat) : Int) = (n : Int) + 1 by omega] at this; exact this
  have so1 := sorted_ints (row.take m)
  generalize hT : row.take m = T at *
  obtain ⟨fst, hfst⟩ : ∃ fst, fst = srt T := ⟨_, rfl⟩
  have fl : fst.length = m := by rw [hfst, (srt_perm T).length_eq, htm]
  have fn : fst.Nodup := by rw [hfst]; exact (srt_perm T).nodup_iff.mpr htn
  have fs : fst.Pairwise (· < ·) := by rw [hfst]; exact srt_sorted htn
  rw [← hfst] at so1
  obtain ⟨st, hst⟩ : ∃ st : Int, (if cellF ns 3 % 2 = 1 then cellF ns 3 / 2 % ((n : Int) + 1) else m) = st := ⟨_, rfl⟩
  obtain ⟨sc, hsc, hss⟩ := cut_any row (some st) (some (st + cellF ns 4 % ((n : Int) + 1)))
  have scn : sc.Nodup := hnd.sublist hss
  have scl : sc.length ≤ 12 := by have := hss.length_le; omega
  have so2 := sorted_ints sc
  obtain ⟨snd, hsnd⟩ : ∃ snd, snd = srt sc := ⟨_, rfl⟩
  have sl : snd.length ≤ 12 := by rw [hsnd, (srt_perm sc).length_eq]; exact scl
  have sn : snd.Nodup := by rw [hsnd]; exact (srt_perm sc).nodup_iff.mpr scn
  have ss : snd.Pairwise (· < ·) := by rw [hsnd]; exact srt_sorted scn
  rw [← hsnd] at so2
  obtain ⟨com, hcom⟩ : ∃ com, com = fst.filter fun p => decide (p ∈ snd) := ⟨_, rfl⟩
  have comE : com.length = 0 ↔ ¬ ∃ p ∈ fst, p ∈ snd := by
    rw [hcom, List.length_eq_zero_iff, List.filter_eq_nil_iff]
    simp
  obtain ⟨due, hdue⟩ : ∃ due : Int, due = if (∃ p ∈ fst, p ∈ snd) then 0 else sgP (crossN fst snd) := ⟨_, rfl⟩
  obtain ⟨it0, hi0, hi1, hi2⟩ := items_walk (cellF ns 10) (cellF ns 6 % 13).toNat (by omega)
  have ei6 : (((cellF ns 6 % 13).toNat : Nat) : Int) = cellF ns 6 % 13 := by omega
  rw [ei6] at hi0
  have hil : it0.length ≤ 12 := by omega
  obtain ⟨its, hits⟩ : ∃ its : List Int, its = if cellF ns 11 % 2 = 1 then (List.range it0.length).map fun k : Nat => (k : Int) else it0 := ⟨_, rfl⟩
  have itl : its.length ≤ 12 := by
    rw [hits]
    split
    · simpa using hil
    · exact hil
  have itp : its.Pairwise (· < ·) := by
    rw [hits]
    split
    · exact List.Pairwise.map _ (fun a b hab => by omega) (List.pairwise_lt_range)
    · exact hi2
  have hsr := subsets_right its (cellF ns 7 % 14).toNat itl (by omega) itp
  have e14 : (((cellF ns 7 % 14).toNat : Nat) : Int) = cellF ns 7 % 14 := by omega
  rw [e14] at hsr
  have zz : ∀ k : Nat, k ≤ 100 → k ≤ sizeLine := fun k hk => size_of (by omega)
  have zf := zz fst.length (by omega)
  have h2n : small (n : Int) := small_of (by omega) (by omega)
  have h2m : small (m : Int) := small_of (by omega) (by omega)
  have hrg : rgOk 0 (it0.length : Int) := rgOk_of (by omega) (by omega) (by omega) (by omega)
  have mg := merged_walk fst snd (by omega)
  have sh := shuffle_walk fst snd
  have cp := complement_walk n fst (by omega)
  have fc := faces_walk fst (by omega)
  have ex := exch_walk fst n (cellF ns 5) (by omega) hn2
  rw [← hdue] at sh
  unfold m_law t_law
  rw [runD_eq, startE_1]
  refine end_step (ρ1 := [some (.par (.scr ns)), some (.val (.int n)), none, none, none, none, none, none, none, none, none, none]) (by simp [C0, hn, List.replicate]) ?_
  refine end_step (ρ1 := [some (.par (.scr ns)), some (.val (.int n)), some (.val (lI row)), none, none, none, none, none, none, none, none, none]) (by simp [C1, ho]) ?_
  refine end_step (ρ1 := [some (.par (.scr ns)), some (.val (.int n)), some (.val (lI row)), none, none, none, none, none, none, none, none, none]) (by simp [hf]) ?_
  refine end_step (ρ1 := [some (.par (.scr ns)), some (.val (.int n)), some (.val (lI row)), some (.val (.int m)), none, none, none, none, none, none, none, none]) (by simp [C2, hpn, em]) ?_
  refine end_step (ρ1 := [some (.par (.scr ns)), some (.val (.int n)), some (.val (lI row)), some (.val (.int m)), none, none, none, none, none, none, none, none]) (by simp [ct, lr1, C8, C9, hlg, lr2]) ?_
  refine end_step (ρ1 := [some (.par (.scr ns)), some (.val (.int n)), some (.val (lI row)), some (.val (.int m)), some (.val (lI fst)), none, none, none, none, none, none, none]) (by simp [ct, so1]) ?_
  refine end_step (ρ1 := [some (.par (.scr ns)), some (.val (.int n)), some (.val (lI row)), some (.val (.int m)), some (.val (lI fst)), some (.val (.int m)), none, none, none, none, none, none]) (by simp) ?_
  refine end_step (ρ1 := [some (.par (.scr ns)), some (.val (.int n)), some (.val (lI row)), some (.val (.int m)), some (.val (lI fst)), some (.val (.int st)), none, none, none, none, none, none]) (by
    by_cases k : cellF ns 3 % 2 = 1
    · rw [if_pos k] at hst
      simp [C3, hpn, k, hst]
    · rw [if_neg k] at hst
      simp [C3, k, hst]) ?_
  refine end_step (ρ1 := [some (.par (.scr ns)), some (.val (.int n)), some (.val (lI row)), some (.val (.int m)), some (.val (lI fst)), some (.val (.int st)), some (.val (lI snd)), none, none, none, none, none]) (by simp [C4, hpn, hsc, so2]) ?_
  refine end_step (ρ1 := [some (.par (.scr ns)), some (.val (.int n)), some (.val (lI row)), some (.val (.int m)), some (.val (lI fst)), some (.val (.int st)), some (.val (lI snd)), some (.val (lI com)), none, none, none, none]) ?_ ?_
  · have e := compGo_rule (tg := tgName 10) (c := dTest (dOp (gIn false) (dVar 10) (dVar 6))) (el := dVar 10) (g := D.int) (xs := fst) (ρ := [some (.par (.scr ns)), some (.val (.int n)), some (.val (lI row)), some (.val (.int m)), some (.val (lI fst)), some (.val (.int st)), some (.val (lI snd)), none, none, none, none, none]) (fun p => decide (p ∈ snd)) D.int (fun x hx => ⟨_, rfl, by simp [gIn_ints], fun _ => ⟨.val (.int x), by simp, rfl⟩⟩)
    rw [← hcom] at e
    simp [e, zf]
  refine end_step (ρ1 := [some (.par (.scr ns)), some (.val (.int n)), some (.val (lI row)), some (.val (.int m)), some (.val (lI fst)), some (.val (.int st)), some (.val (lI snd)), some (.val (lI com)), some (.val (.int 0)), none, none, none]) (by simp) ?_
  refine end_step (ρ1 := [some (.par (.scr ns)), some (.val (.int n)), some (.val (lI row)), some (.val (.int m)), some (.val (lI fst)), some (.val (.int st)), some (.val (lI snd)), some (.val (lI com)), some (.val (.int due)), none, none, none]) ?_ ?_
  · by_cases hc : ∃ p ∈ fst, p ∈ snd
    · have hcl : ¬ com.length = 0 := fun k => comE.mp k hc
      rw [if_pos hc] at hdue
      simp [hcl, hdue]
    · have hcl : com.length = 0 := comE.mpr hc
      rw [if_neg hc] at hdue
      have w := law_sign_walk (fst ++ snd) (by simp; omega) (nd_app fn sn hc)
      rw [sgP_sorted fs ss, ← hdue] at w
      have w2 := sorted_ints (fst ++ snd)
      have w3 := room_walk (srt (fst ++ snd)) (by rw [(srt_perm _).length_eq, List.length_append]; omega)
      have z3 := zz (fst.length + snd.length) (by omega)
      rw [List.map_append] at w2
      have w' : m_law_sign [.lst (fst.map D.int ++ snd.map D.int)] = .ok (.val (.int due)) := by rw [← List.map_append]; exact w
      simp [hcl, w', z3, mg, w2, w3]
  refine end_step (ρ1 := [some (.par (.scr ns)), some (.val (.int n)), some (.val (lI row)), some (.val (.int m)), some (.val (lI fst)), some (.val (.int st)), some (.val (lI snd)), some (.val (lI com)), some (.val (.int due)), none, none, none]) (by simp [sh, whole_walk]) ?_
  refine end_step (ρ1 := [some (.par (.scr ns)), some (.val (.int n)), some (.val (lI row)), some (.val (.int m)), some (.val (lI fst)), some (.val (.int st)), some (.val (lI snd)), some (.val (lI com)), some (.val (.int due)), none, none, none]) ?_ ?_
  · have e := compGo_range (tg := tgName 10) (c := dTest (dOp (gIn true) (dVar 10) (dVar 4))) (el := dVar 10) (lo := 0) (n := n) (ρ := [some (.par (.scr ns)), some (.val (.int n)), some (.val (lI row)), some (.val (.int m)), some (.val (lI fst)), some (.val (.int st)), some (.val (lI snd)), some (.val (lI com)), some (.val (.int due)), none, none, none]) (fun x => !decide ((x : Int) ∈ fst)) (fun k => D.int (k : Nat)) (fun x hx => ⟨_, rfl, by simp [gIn_ints], fun _ => ⟨.val (.int (x : Nat)), by simp, rfl⟩⟩)
    have hz3 : (rangeD 0 n).length ≤ sizeLine := by simp [rangeD, zz n (by omega)]
    have e2 : ((List.range n).filter fun x => !decide (((x : Nat) : Int) ∈ fst)).map (fun k => D.int (k : Nat)) = (((List.range n).map fun k : Nat => (k : Int)).filter fun x => !decide (x ∈ fst)).map D.int := by
      rw [List.filter_map, List.map_map]
      rfl
    rw [e2] at e
    have w3 := room_walk (((List.range n).map fun k : Nat => (k : Int)).filter fun x => !decide (x ∈ fst)) (Nat.le_trans (List.length_filter_le ..) (by simp; omega))
    generalize (((List.range n).map fun k : Nat => (k : Int)).filter fun x => !decide (x ∈ fst)) = Z at *
    simp [cp, h2n, hz3, e, w3]
  refine end_step (ρ1 := [some (.par (.scr ns)), some (.val (.int n)), some (.val (lI row)), some (.val (.int m)), some (.val (lI fst)), some (.val (.int st)), some (.val (lI snd)), some (.val (lI com)), some (.val (.int due)), none, none, none]) ?_ ?_
  · have e := compGo_range (tg := tgName 11) (c := dYes) (el := dOp gAdd (dSl (dVar 4) dNoP (dPart (dVar 11))) (dSl (dVar 4) (dPart (dOp gAdd (dVar 11) (dC (.int 1)))) dNoP)) (lo := 0) (n := m) (ρ := [some (.par (.scr ns)), some (.val (.int n)), some (.val (lI row)), some (.val (.int m)), some (.val (lI fst)), some (.val (.int st)), some (.val (lI snd)), some (.val (lI com)), some (.val (.int due)), none, none, none]) (fun _ => true) (fun k => lI (fst.eraseIdx k)) (fun i hi => ⟨_, rfl, rfl, fun _ => ⟨.own (lI (fst.eraseIdx i)), by
      have c1 := cut_from D.int fst (i + 1)
      have c2 := cut_to D.int fst i
      have e1 : ((i + 1 : Nat) : Int) = (i : Int) + 1 := by omega
      rw [e1] at c1
      have hz2 : min i fst.length + (fst.length - (i + 1)) ≤ sizeLine := size_of (by omega)
      simp [c1, c2, hz2, cut2], rfl⟩⟩)
    rw [filt_true] at e
    have hz3 : (rangeD 0 m).length ≤ sizeLine := by simp [rangeD, zz m (by omega)]
    have w3 := rooms_walk ((List.range fst.length).map fun k => fst.eraseIdx k) (by simp; omega) (fun r hr => by
      obtain ⟨k, _, rfl⟩ := List.mem_map.mp hr
      have := List.length_eraseIdx_le fst k
      omega)
    rw [fl] at w3 fc
    have e2 : (List.range m).map (fun k => lI (fst.eraseIdx k)) = ((List.range m).map fun k => fst.eraseIdx k).map lI := by rw [List.map_map]; rfl
    rw [e2] at e
    generalize ((List.range m).map fun k => fst.eraseIdx k) = Z at *
    simp [fc, h2m, hz3, e, w3]
  refine end_step (ρ1 := [some (.par (.scr ns)), some (.val (.int n)), some (.val (lI row)), some (.val (.int m)), some (.val (lI fst)), some (.val (.int st)), some (.val (lI snd)), some (.val (lI com)), some (.val (.int due)), none, none, none]) (by simp [C5, ex]) ?_
  refine end_step (ρ1 := [some (.par (.scr ns)), some (.val (.int n)), some (.val (lI row)), some (.val (.int m)), some (.val (lI fst)), some (.val (.int st)), some (.val (lI snd)), some (.val (lI com)), some (.val (.int due)), some (.val (tI it0)), none, none]) (by simp [C6, C10, hi0]) ?_
  refine end_step (ρ1 := [some (.par (.scr ns)), some (.val (.int n)), some (.val (lI row)), some (.val (.int m)), some (.val (lI fst)), some (.val (.int st)), some (.val (lI snd)), some (.val (lI com)), some (.val (.int due)), some (.val (tI its)), none, none]) ?_ ?_
  · by_cases k : cellF ns 11 % 2 = 1
    · rw [if_pos k] at hits
      simp [C11, k, hrg, hits, rangeD]
    · rw [if_neg k] at hits
      simp [C11, k, hits]
  simp [C7, hsr]
end K00
set_option maxHeartbeats 4000000
namespace K00
open PySem L2 DL PyProof.Rows

def topS (i : Nat) : Stmt := PySem.Challenge.pw_oppositesmeet_k00_rooms_and_their_signs.main.body.getD i (.Pass ⟨0, 0, 0, 0⟩)
abbrev s_faces : Stmt := topS 1
abbrev s_without : Stmt := topS 2
abbrev s_exchanged : Stmt := topS 3
abbrev s_merged : Stmt := topS 4
abbrev s_complement : Stmt := topS 5
abbrev s_subsets : Stmt := topS 6
abbrev s_order_sign : Stmt := topS 7
abbrev s_shuffle_sign : Stmt := topS 8
abbrev s_room_fault : Stmt := topS 9
abbrev s_law_cell : Stmt := topS 11
abbrev s_law_order : Stmt := topS 12
abbrev s_law_sign : Stmt := topS 13
abbrev s_law_whole : Stmt := topS 14
abbrev s_law_room : Stmt := topS 15
abbrev s_law_rooms : Stmt := topS 16
abbrev s_law_many : Stmt := topS 17
abbrev s_law_items : Stmt := topS 18
abbrev s_law_subsets_right : Stmt := topS 19
abbrev s_law_exchanges : Stmt := topS 20
abbrev s_law_long : Stmt := topS 21
abbrev s_law_long_right : Stmt := topS 22
abbrev s_law_fault : Stmt := topS 23
abbrev s_law_faults_right : Stmt := topS 24
abbrev s_law : Stmt := topS 25
/-- what the top leaves of the built-in names -/
structure Tx (mg : Str → Option Value) : Prop where
  b_abs : mg "abs" = none
  b_bool : mg "bool" = none
  b_int : mg "int" = none
  b_isinstance : mg "isinstance" = none
  b_len : mg "len" = none
  b_list : mg "list" = none
  b_range : mg "range" = none
  b_set : mg "set" = none
  b_sorted : mg "sorted" = none
  b_str : mg "str" = none
  b_tuple : mg "tuple" = none
section
variable {P : Program} {w : World} {K : PySem.W.Frag} {mg : Str → Option Value} {base : Heap}
theorem sc_faces : FnScope ["room", "k"] ["room"] (defScope s_faces) := ⟨rfl, rfl, rfl, by decide +kernel, rfl, by decide +kernel, by decide +kernel⟩
theorem ok_faces {f : Addr} {fd : FuncData} (F : Fun K "faces" "faces" s_faces f fd) (hf : mg "faces" = some (.ref f)) (b : Binds K fd ["room"] []) (T : Tx mg)  : CalD P w K mg base 1 "faces" [false] m_faces := by
  refine ⟨f, fd, ["room"], fn_d F sc_faces rfl (fun ds _ _ => rfl) (t := t_faces) ?_, hf, F.kp, b⟩
  intro cdv A outer s H E hr
  have nd := sc_faces.nd
  have hu := hr.units
  have hu5 := hu5_of hr
  have tk := takes_of (X := cxD P w K mg base ["room", "k"] "faces" s_faces f cdv A outer s H E) rfl rfl rfl rfl
  have hp := passes_of (X := cxD P w K mg base ["room", "k"] "faces" s_faces f cdv A outer s H E) rfl
  exact (ss_one (s_ret (pd_comp rfl nd (i_range1 (by rfl) T.b_range (pa_b (pd_callB callS_len call_len_seq (by rfl) T.b_len PySem.boot_len (pa_b (pd_var 0) DL.pa_nil)) DL.pa_nil)) (blkOk_by (own := [("k", 1)]) (by kernel_rfl)) (tg_name 1) (by decide) (fun _ => (pg_nameD nd 1)) (fun _ => ts_nil) (fun _ => (pd_op op_addA opS_add (pd_slice (pd_var 0) o_none (o_some (pd_var 1))) (pd_slice (pd_var 0) (o_some (pd_op op_addA opS_add (pd_var 1) pd_int)) o_none))))))
theorem sc_without : FnScope ["room", "place", "p"] ["room", "place"] (defScope s_without) := ⟨rfl, rfl, rfl, by decide +kernel, rfl, by decide +kernel, by decide +kernel⟩
theorem ok_without {f : Addr} {fd : FuncData} (F : Fun K "without" "without" s_without f fd) (hf : mg "without" = some (.ref f)) (b : Binds K fd ["room", "place"] []) (T : Tx mg)  : CalD P w K mg base 1 "without" [false, false] m_without := by
  refine ⟨f, fd, ["room", "place"], fn_d F sc_without rfl (fun ds _ _ => rfl) (t := t_without) ?_, hf, F.kp, b⟩
  intro cdv A outer s H E hr
  have nd := sc_without.nd
  have hu := hr.units
  have hu5 := hu5_of hr
  have tk := takes_of (X := cxD P w K mg base ["room", "place", "p"] "without" s_without f cdv A outer s H E) rfl rfl rfl rfl
  have hp := passes_of (X := cxD P w K mg base ["room", "place", "p"] "without" s_without f cdv A outer s H E) rfl
  exact (ss_one (s_ret (pd_callTy callS_tuple call_tuple_of (by rfl) T.b_tuple PyProof.Rows.boot_tuple (pa_b (pd_comp rfl nd (i_seq (pd_var 0)) (blkOk_by (own := [("p", 2)]) (by kernel_rfl)) (tg_name 2) (by decide) (fun _ => (pg_nameD nd 2)) (fun _ => (ts_one (DL.pt_cmp (op_neD hu) opS_ne (pd_var 2) (pd_var 1) (by rfl)))) (fun _ => (pd_var 2))) DL.pa_nil))))
theorem sc_exchanged : FnScope ["room", "leaving", "entering", "p"] ["room", "leaving", "entering"] (defScope s_exchanged) := ⟨rfl, rfl, rfl, by decide +kernel, rfl, by decide +kernel, by decide +kernel⟩
theorem ok_exchanged {f : Addr} {fd : FuncData} (F : Fun K "exchanged" "exchanged" s_exchanged f fd) (hf : mg "exchanged" = some (.ref f)) (b : Binds K fd ["room", "leaving", "entering"] []) (T : Tx mg)  : CalD P w K mg base 1 "exchanged" [false, false, false] m_exchanged := by
  refine ⟨f, fd, ["room", "leaving", "entering"], fn_d F sc_exchanged rfl (fun ds _ _ => rfl) (t := t_exchanged) ?_, hf, F.kp, b⟩
  intro cdv A outer s H E hr
  have nd := sc_exchanged.nd
  have hu := hr.units
  have hu5 := hu5_of hr
  have tk := takes_of (X := cxD P w K mg base ["room", "leaving", "entering", "p"] "exchanged" s_exchanged f cdv A outer s H E) rfl rfl rfl rfl
  have hp := passes_of (X := cxD P w K mg base ["room", "leaving", "entering", "p"] "exchanged" s_exchanged f cdv A outer s H E) rfl
  exact (ss_one (s_ret (pd_callTy callS_tuple call_tuple_of (by rfl) T.b_tuple PyProof.Rows.boot_tuple (pa_b (pd_callB callS_sorted (cr_sortedA hu5) (by rfl) T.b_sorted PyProof.Rows.boot_sorted (pa_b (pd_op op_addA opS_add (pd_comp rfl nd (i_seq (pd_var 0)) (blkOk_by (own := [("p", 3)]) (by kernel_rfl)) (tg_name 3) (by decide) (fun _ => (pg_nameD nd 3)) (fun _ => (ts_one (DL.pt_cmp (op_neD hu) opS_ne (pd_var 3) (pd_var 1) (by rfl)))) (fun _ => (pd_var 3))) (pd_lst (pa_v (pd_var 2) DL.pa_nil))) DL.pa_nil)) DL.pa_nil))))
theorem sc_merged : FnScope ["first", "second"] ["first", "second"] (defScope s_merged) := ⟨rfl, rfl, rfl, by decide +kernel, rfl, by decide +kernel, by decide +kernel⟩
theorem ok_merged {f : Addr} {fd : FuncData} (F : Fun K "merged" "merged" s_merged f fd) (hf : mg "merged" = some (.ref f)) (b : Binds K fd ["first", "second"] []) (T : Tx mg)  : CalD P w K mg base 1 "merged" [false, false] m_merged := by
  refine ⟨f, fd, ["first", "second"], fn_d F sc_merged rfl (fun ds _ _ => rfl) (t := t_merged) ?_, hf, F.kp, b⟩
  intro cdv A outer s H E hr
  have nd := sc_merged.nd
  have hu := hr.units
  have hu5 := hu5_of hr
  have tk := takes_of (X := cxD P w K mg base ["first", "second"] "merged" s_merged f cdv A outer s H E) rfl rfl rfl rfl
  have hp := passes_of (X := cxD P w K mg base ["first", "second"] "merged" s_merged f cdv A outer s H E) rfl
  exact (ss_one (s_ret (pd_callTy callS_tuple call_tuple_of (by rfl) T.b_tuple PyProof.Rows.boot_tuple (pa_b (pd_callB callS_sorted (cr_sortedA hu5) (by rfl) T.b_sorted PyProof.Rows.boot_sorted (pa_b (pd_op op_addA opS_add (pd_callTy callS_list call_list_of (by rfl) T.b_list PyProof.Rows.boot_list (pa_b (pd_var 0) DL.pa_nil)) (pd_callTy callS_list call_list_of (by rfl) T.b_list PyProof.Rows.boot_list (pa_b (pd_var 1) DL.pa_nil))) DL.pa_nil)) DL.pa_nil))))
theorem sc_complement : FnScope ["places", "room", "p"] ["places", "room"] (defScope s_complement) := ⟨rfl, rfl, rfl, by decide +kernel, rfl, by decide +kernel, by decide +kernel⟩
theorem ok_complement {f : Addr} {fd : FuncData} (F : Fun K "complement" "complement" s_complement f fd) (hf : mg "complement" = some (.ref f)) (b : Binds K fd ["places", "room"] []) (T : Tx mg)  : CalD P w K mg base 1 "complement" [false, false] m_complement := by
  refine ⟨f, fd, ["places", "room"], fn_d F sc_complement rfl (fun ds _ _ => rfl) (t := t_complement) ?_, hf, F.kp, b⟩
  intro cdv A outer s H E hr
  have nd := sc_complement.nd
  have hu := hr.units
  have hu5 := hu5_of hr
  have tk := takes_of (X := cxD P w K mg base ["places", "room", "p"] "complement" s_complement f cdv A outer s H E) rfl rfl rfl rfl
  have hp := passes_of (X := cxD P w K mg base ["places", "room", "p"] "complement" s_complement f cdv A outer s H E) rfl
  exact (ss_one (s_ret (pd_callTy callS_tuple call_tuple_of (by rfl) T.b_tuple PyProof.Rows.boot_tuple (pa_b (pd_comp rfl nd (i_range1 (by rfl) T.b_range (pa_b (pd_var 0) DL.pa_nil)) (blkOk_by (own := [("p", 2)]) (by kernel_rfl)) (tg_name 2) (by decide) (fun _ => (pg_nameD nd 2)) (fun _ => (ts_one (DL.pt_cmp (op_notInA hu5) (opS_in (neg := true)) (pd_var 2) (pd_var 1) (by rfl)))) (fun _ => (pd_var 2))) DL.pa_nil))))
theorem sc_subsets : FnScope ["items", "size", "found", "k", "rest"] ["items", "size"] (defScope s_subsets) := ⟨rfl, rfl, rfl, by decide +kernel, rfl, by decide +kernel, by decide +kernel⟩
theorem ok_subsets {f : Addr} {fd : FuncData} (F : Fun K "subsets" "subsets" s_subsets f fd) (hf : mg "subsets" = some (.ref f)) (b : Binds K fd ["items", "size"] []) (T : Tx mg)  : ∀ n, CalD P w K mg base (1 + n) "subsets" [false, false] (m_subsets_n n)
  | 0 => ⟨f, fd, ["items", "size"], fn_0 rfl, hf, F.kp, b⟩
  | n + 1 => by
    have R0 := ok_subsets F hf b T  n
    refine ⟨f, fd, ["items", "size"], fn_d F sc_subsets rfl (fun ds _ _ => rfl) (t := t_subsets (m_subsets_n n)) ?_, hf, F.kp, b⟩
    intro cdv A outer s H E hr
    have nd := sc_subsets.nd
    have hu := hr.units
    have hu5 := hu5_of hr
    have tk := takes_of (X := cxD P w K mg base ["items", "size", "found", "k", "rest"] "subsets" s_subsets f cdv A outer s H E) rfl rfl rfl rfl
    have hp := passes_of (X := cxD P w K mg base ["items", "size", "found", "k", "rest"] "subsets" s_subsets f cdv A outer s H E) rfl
    have R := R0.mono hr (Nat.le_refl _)
    exact (ss_cons (s_if (DL.pt_cmp (op_eqD hu) opS_eq (pd_var 1) pd_int (by rfl))
    (ss_one (s_ret (pd_lst (pa_v (pd_tup DL.pa_nil) DL.pa_nil)))) ss_nil)
    (ss_cons (s_set (i := 2) nd rfl (Or.inl rfl) (pd_lst DL.pa_nil))
    (ss_cons (s_for hp rfl (i_range1 (by rfl) T.b_range (pa_b (pd_op op_addA opS_add (pd_op op_sub opS_sub (pd_callB callS_len call_len_seq (by rfl) T.b_len PySem.boot_len (pa_b (pd_var 0) DL.pa_nil)) (pd_var 1)) pd_int) DL.pa_nil)) (pg_nameD nd 3) (tg_name 3)
    (ss_one (s_for hp rfl (i_seq (pd_callD R tk (by rfl) (pa_b (pd_slice (pd_var 0) (o_some (pd_op op_addA opS_add (pd_var 3) pd_int)) o_none) (pa_b (pd_op op_sub opS_sub (pd_var 1) pd_int) DL.pa_nil)))) (pg_nameD nd 4) (tg_name 4)
    (ss_one (s_app 2 (x_of (pd_op op_addA opS_add (pd_tup (pa_v (pd_ix (pd_var 0) (pd_var 3)) DL.pa_nil)) (pd_var 4))))))))
    (ss_one (s_retA 2)))))
theorem sc_order_sign : FnScope ["row", "sign", "k", "j"] ["row"] (defScope s_order_sign) := ⟨rfl, rfl, rfl, by decide +kernel, rfl, by decide +kernel, by decide +kernel⟩
theorem ok_order_sign {f : Addr} {fd : FuncData} (F : Fun K "order_sign" "order_sign" s_order_sign f fd) (hf : mg "order_sign" = some (.ref f)) (b : Binds K fd ["row"] []) (T : Tx mg)  : CalD P w K mg base 1 "order_sign" [false] m_order_sign := by
  refine ⟨f, fd, ["row"], fn_d F sc_order_sign rfl (fun ds _ _ => rfl) (t := t_order_sign) ?_, hf, F.kp, b⟩
  intro cdv A outer s H E hr
  have nd := sc_order_sign.nd
  have hu := hr.units
  have hu5 := hu5_of hr
  have tk := takes_of (X := cxD P w K mg base ["row", "sign", "k", "j"] "order_sign" s_order_sign f cdv A outer s H E) rfl rfl rfl rfl
  have hp := passes_of (X := cxD P w K mg base ["row", "sign", "k", "j"] "order_sign" s_order_sign f cdv A outer s H E) rfl
  exact (ss_cons (s_set (i := 1) nd rfl (Or.inl rfl) pd_int)
    (ss_cons (s_for hp rfl (i_range1 (by rfl) T.b_range (pa_b (pd_callB callS_len call_len_seq (by rfl) T.b_len PySem.boot_len (pa_b (pd_var 0) DL.pa_nil)) DL.pa_nil)) (pg_nameD nd 2) (tg_name 2)
    (ss_one (s_for hp rfl (i_range1 (by rfl) T.b_range (pa_b (pd_var 2) DL.pa_nil)) (pg_nameD nd 3) (tg_name 3)
    (ss_one (s_if (DL.pt_cmp op_gt opS_cmpI (pd_ix (pd_var 0) (pd_var 3)) (pd_ix (pd_var 0) (pd_var 2)) (by rfl))
    (ss_one (s_set (i := 1) nd rfl (Or.inl rfl) (pd_un un_neg unS_neg (pd_var 1)))) ss_nil)))))
    (ss_one (s_retA 1))))
theorem sc_shuffle_sign : FnScope ["first", "second", "sign", "p", "q"] ["first", "second"] (defScope s_shuffle_sign) := ⟨rfl, rfl, rfl, by decide +kernel, rfl, by decide +kernel, by decide +kernel⟩
theorem ok_shuffle_sign {f : Addr} {fd : FuncData} (F : Fun K "shuffle_sign" "shuffle_sign" s_shuffle_sign f fd) (hf : mg "shuffle_sign" = some (.ref f)) (b : Binds K fd ["first", "second"] []) (T : Tx mg)  : CalD P w K mg base 1 "shuffle_sign" [false, false] m_shuffle_sign := by
  refine ⟨f, fd, ["first", "second"], fn_d F sc_shuffle_sign rfl (fun ds _ _ => rfl) (t := t_shuffle_sign) ?_, hf, F.kp, b⟩
  intro cdv A outer s H E hr
  have nd := sc_shuffle_sign.nd
  have hu := hr.units
  have hu5 := hu5_of hr
  have tk := takes_of (X := cxD P w K mg base ["first", "second", "sign", "p", "q"] "shuffle_sign" s_shuffle_sign f cdv A outer s H E) rfl rfl rfl rfl
  have hp := passes_of (X := cxD P w K mg base ["first", "second", "sign", "p", "q"] "shuffle_sign" s_shuffle_sign f cdv A outer s H E) rfl
  exact (ss_cons (s_set (i := 2) nd rfl (Or.inl rfl) pd_int)
    (ss_cons (s_for hp rfl (i_seq (pd_var 0)) (pg_nameD nd 3) (tg_name 3)
    (ss_one (s_for hp rfl (i_seq (pd_var 1)) (pg_nameD nd 4) (tg_name 4)
    (ss_cons (s_if (DL.pt_cmp (op_eqD hu) opS_eq (pd_var 3) (pd_var 4) (by rfl))
    (ss_one (s_ret pd_int)) ss_nil)
    (ss_one (s_if (DL.pt_cmp op_gt opS_cmpI (pd_var 3) (pd_var 4) (by rfl))
    (ss_one (s_set (i := 2) nd rfl (Or.inl rfl) (pd_un un_neg unS_neg (pd_var 2)))) ss_nil))))))
    (ss_one (s_retA 2))))
theorem sc_room_fault : FnScope ["places", "size", "room", "p"] ["places", "size", "room"] (defScope s_room_fault) := ⟨rfl, rfl, rfl, by decide +kernel, rfl, by decide +kernel, by decide +kernel⟩
theorem ok_room_fault {f : Addr} {fd : FuncData} (F : Fun K "room_fault" "room_fault" s_room_fault f fd) (hf : mg "room_fault" = some (.ref f)) (b : Binds K fd ["places", "size", "room"] []) (T : Tx mg)  : CalD P w K mg base 1 "room_fault" [false, false, false] m_room_fault := by
  refine ⟨f, fd, ["places", "size", "room"], fn_d F sc_room_fault rfl (fun ds _ _ => rfl) (t := t_room_fault) ?_, hf, F.kp, b⟩
  intro cdv A outer s H E hr
  have nd := sc_room_fault.nd
  have hu := hr.units
  have hu5 := hu5_of hr
  have tk := takes_of (X := cxD P w K mg base ["places", "size", "room", "p"] "room_fault" s_room_fault f cdv A outer s H E) rfl rfl rfl rfl
  have hp := passes_of (X := cxD P w K mg base ["places", "size", "room", "p"] "room_fault" s_room_fault f cdv A outer s H E) rfl
  exact (ss_cons (s_if (DL.pt_cmp (op_neD hu) opS_ne (pd_callB callS_len call_len_seq (by rfl) T.b_len PySem.boot_len (pa_b (pd_var 2) DL.pa_nil)) (pd_var 1) (by rfl))
    (ss_one (s_ret pd_str)) ss_nil)
    (ss_cons (s_for hp rfl (i_seq (pd_var 2)) (pg_nameD nd 3) (tg_name 3)
    (ss_one (s_if (DL.pt_not (DL.pt_chain op_le opS_cmpI op_lt opS_cmpI pd_int (pd_var 3) (pd_var 0)))
    (ss_one (s_ret pd_str)) ss_nil)))
    (ss_cons (s_if (DL.pt_cmp (op_neD hu) opS_ne (pd_lenSet T.b_len T.b_set (pd_var 2)) (pd_var 1) (by rfl))
    (ss_one (s_ret pd_str)) ss_nil)
    (ss_one (s_ret pd_str)))))
theorem sc_law_cell : FnScope ["script", "k", "cell"] ["script", "k"] (defScope s_law_cell) := ⟨rfl, rfl, rfl, by decide +kernel, rfl, by decide +kernel, by decide +kernel⟩
theorem ok_law_cell {f : Addr} {fd : FuncData} (F : Fun K "_law_cell" "_law_cell" s_law_cell f fd) (hf : mg "_law_cell" = some (.ref f)) (b : Binds K fd ["script", "k"] []) (T : Tx mg)  : CalD P w K mg base 1 "_law_cell" [false, false] m_law_cell := by
  refine ⟨f, fd, ["script", "k"], fn_d F sc_law_cell rfl (fun ds _ _ => rfl) (t := t_law_cell) ?_, hf, F.kp, b⟩
  intro cdv A outer s H E hr
  have nd := sc_law_cell.nd
  have hu := hr.units
  have hu5 := hu5_of hr
  have tk := takes_of (X := cxD P w K mg base ["script", "k", "cell"] "_law_cell" s_law_cell f cdv A outer s H E) rfl rfl rfl rfl
  have hp := passes_of (X := cxD P w K mg base ["script", "k", "cell"] "_law_cell" s_law_cell f cdv A outer s H E) rfl
  exact (ss_cons (s_setV (i := 2) nd rfl (Or.inl rfl) (pd_op op_addA opS_add (pd_op op_mulA opS_mul pd_int (pd_var 1)) pd_int))
    (ss_cons (s_if (DL.pt_cmp op_lt opS_cmpI (pd_var 1) (pd_callB callS_len call_len_seq (by rfl) T.b_len PySem.boot_len (pa_b (pd_var 0) DL.pa_nil)) (by rfl))
    (ss_cons (s_setV (i := 2) nd rfl (Or.inl rfl) (pd_callB callS_abs call_abs (by rfl) T.b_abs PyProof.Rows.boot_abs (pa_b (pd_ix (pd_var 0) (pd_var 1)) DL.pa_nil)))
    (ss_one (s_if (DL.pt_cmp op_ge opS_cmpI (pd_var 2) (pd_op op_pow opS_pow pd_int pd_int) (by rfl))
    (ss_one (s_ret (pd_op op_sub opS_sub (pd_var 2) (pd_op op_pow opS_pow pd_int pd_int)))) ss_nil))) (ss_one (s_if (DL.pt_cmp op_gt opS_cmpI (pd_callB callS_len call_len_seq (by rfl) T.b_len PySem.boot_len (pa_b (pd_var 0) DL.pa_nil)) pd_int (by rfl))
    (ss_one (s_setV (i := 2) nd rfl (Or.inl rfl) (pd_op op_addA opS_add (pd_callB callS_abs call_abs (by rfl) T.b_abs PyProof.Rows.boot_abs (pa_b (pd_ix (pd_var 0) (pd_op op_mod opS_mod (pd_callTy callS_int call_int1 (by rfl) T.b_int PyProof.Rows.boot_int (pa_b (pd_var 1) DL.pa_nil)) (pd_callB callS_len call_len_seq (by rfl) T.b_len PySem.boot_len (pa_b (pd_var 0) DL.pa_nil)))) DL.pa_nil)) (pd_op op_mulA opS_mul pd_int (pd_var 1))))) ss_nil)))
    (ss_cons (s_setV (i := 2) nd rfl (Or.inl rfl) (pd_op op_mod opS_mod (pd_callTy callS_int call_int1 (by rfl) T.b_int PyProof.Rows.boot_int (pa_b (pd_op op_addA opS_add (pd_op op_addA opS_add (pd_op op_mulA opS_mul (pd_var 2) pd_int) (pd_op op_mulA opS_mul pd_int (pd_var 1))) pd_int) DL.pa_nil)) pd_int))
    (ss_one (s_ret (pd_op op_divA opS_div (pd_op op_mod opS_mod (pd_callTy callS_int call_int1 (by rfl) T.b_int PyProof.Rows.boot_int (pa_b (pd_op op_mulA opS_mul (pd_op op_addA opS_add (pd_op op_addA opS_add (pd_op op_mulA opS_mul (pd_var 2) (pd_var 2)) (pd_op op_mulA opS_mul pd_int (pd_var 2))) (pd_var 1)) pd_int) DL.pa_nil)) pd_int) pd_int))))))
theorem sc_law_order : FnScope ["cell", "n", "left", "row", "k", "size"] ["cell", "n"] (defScope s_law_order) := ⟨rfl, rfl, rfl, by decide +kernel, rfl, by decide +kernel, by decide +kernel⟩
theorem ok_law_order {f : Addr} {fd : FuncData} (F : Fun K "_law_order" "_law_order" s_law_order f fd) (hf : mg "_law_order" = some (.ref f)) (b : Binds K fd ["cell", "n"] []) (T : Tx mg)  : CalD P w K mg base 1 "_law_order" [false, false] m_law_order := by
  refine ⟨f, fd, ["cell", "n"], fn_d F sc_law_order rfl (fun ds _ _ => rfl) (t := t_law_order) ?_, hf, F.kp, b⟩
  intro cdv A outer s H E hr
  have nd := sc_law_order.nd
  have hu := hr.units
  have hu5 := hu5_of hr
  have tk := takes_of (X := cxD P w K mg base ["cell", "n", "left", "row", "k", "size"] "_law_order" s_law_order f cdv A outer s H E) rfl rfl rfl rfl
  have hp := passes_of (X := cxD P w K mg base ["cell", "n", "left", "row", "k", "size"] "_law_order" s_law_order f cdv A outer s H E) rfl
  exact (ss_cons (s_set (i := 2) nd rfl (Or.inl rfl) (pd_listRg1 T.b_list T.b_range (pd_var 1)))
    (ss_cons (s_set (i := 3) nd rfl (Or.inl rfl) (pd_lst DL.pa_nil))
    (ss_cons (s_for hp rfl (i_range1 (by rfl) T.b_range (pa_b (pd_var 1) DL.pa_nil)) (pg_nameD nd 4) (tg_name 4)
    (ss_cons (s_setV (i := 5) nd rfl (Or.inl rfl) (pd_op op_sub opS_sub (pd_var 1) (pd_var 4)))
    (ss_cons (s_app 3 (x_popAt 2 (pd_op op_mod opS_mod (pd_callTy callS_int call_int1 (by rfl) T.b_int PyProof.Rows.boot_int (pa_b (pd_var 0) DL.pa_nil)) (pd_var 5))))
    (ss_one (s_setV (i := 0) nd rfl (Or.inl rfl) (pd_op op_divA opS_div (pd_var 0) (pd_var 5)))))))
    (ss_one (s_retA 3)))))
theorem sc_law_sign : FnScope ["row", "left", "sign", "k", "at", "j", "kept"] ["row"] (defScope s_law_sign) := ⟨rfl, rfl, rfl, by decide +kernel, rfl, by decide +kernel, by decide +kernel⟩
theorem ok_law_sign {f : Addr} {fd : FuncData} (F : Fun K "_law_sign" "_law_sign" s_law_sign f fd) (hf : mg "_law_sign" = some (.ref f)) (b : Binds K fd ["row"] []) (T : Tx mg)  : CalD P w K mg base 1 "_law_sign" [false] m_law_sign := by
  refine ⟨f, fd, ["row"], fn_d F sc_law_sign rfl (fun ds _ _ => rfl) (t := t_law_sign) ?_, hf, F.kp, b⟩
  intro cdv A outer s H E hr
  have nd := sc_law_sign.nd
  have hu := hr.units
  have hu5 := hu5_of hr
  have tk := takes_of (X := cxD P w K mg base ["row", "left", "sign", "k", "at", "j", "kept"] "_law_sign" s_law_sign f cdv A outer s H E) rfl rfl rfl rfl
  have hp := passes_of (X := cxD P w K mg base ["row", "left", "sign", "k", "at", "j", "kept"] "_law_sign" s_law_sign f cdv A outer s H E) rfl
  exact (ss_cons (s_set (i := 1) nd rfl (Or.inl rfl) (pd_callTy callS_list call_list_of (by rfl) T.b_list PyProof.Rows.boot_list (pa_b (pd_var 0) DL.pa_nil)))
    (ss_cons (s_set (i := 2) nd rfl (Or.inl rfl) pd_int)
    (ss_cons (s_for hp rfl (i_range1 (by rfl) T.b_range (pa_b (pd_callB callS_len call_len_seq (by rfl) T.b_len PySem.boot_len (pa_b (pd_var 1) DL.pa_nil)) DL.pa_nil)) (pg_nameD nd 3) (tg_name 3)
    (ss_cons (s_set (i := 4) nd rfl (Or.inl rfl) (pd_var 3))
    (ss_cons (s_for hp rfl (i_range2 (by rfl) T.b_range (pa_b (pd_var 3) (pa_b (pd_callB callS_len call_len_seq (by rfl) T.b_len PySem.boot_len (pa_b (pd_var 1) DL.pa_nil)) DL.pa_nil))) (pg_nameD nd 5) (tg_name 5)
    (ss_one (s_if (DL.pt_cmp op_lt opS_cmpI (pd_ix (pd_var 1) (pd_var 5)) (pd_ix (pd_var 1) (pd_var 4)) (by rfl))
    (ss_one (s_set (i := 4) nd rfl (Or.inl rfl) (pd_var 5))) ss_nil)))
    (ss_one (s_if (DL.pt_cmp (op_neD hu) opS_ne (pd_var 4) (pd_var 3) (by rfl))
    (ss_cons (s_setV (i := 6) nd rfl (Or.inl rfl) (pd_ix (pd_var 1) (pd_var 3)))
    (ss_cons (s_put 1 (pd_ix (pd_var 1) (pd_var 4)) (pd_var 3))
    (ss_cons (s_put 1 (pd_var 6) (pd_var 4))
    (ss_one (s_set (i := 2) nd rfl (Or.inl rfl) (pd_un un_neg unS_neg (pd_var 2))))))) ss_nil)))))
    (ss_one (s_retA 2)))))
theorem sc_law_whole : FnScope ["actual", "due"] ["actual", "due"] (defScope s_law_whole) := ⟨rfl, rfl, rfl, by decide +kernel, rfl, by decide +kernel, by decide +kernel⟩
theorem ok_law_whole {f : Addr} {fd : FuncData} (F : Fun K "_law_whole" "_law_whole" s_law_whole f fd) (hf : mg "_law_whole" = some (.ref f)) (b : Binds K fd ["actual", "due"] []) (T : Tx mg)  : CalD P w K mg base 1 "_law_whole" [false, false] m_law_whole := by
  refine ⟨f, fd, ["actual", "due"], fn_d F sc_law_whole rfl (fun ds _ _ => rfl) (t := t_law_whole) ?_, hf, F.kp, b⟩
  intro cdv A outer s H E hr
  have nd := sc_law_whole.nd
  have hu := hr.units
  have hu5 := hu5_of hr
  have tk := takes_of (X := cxD P w K mg base ["actual", "due"] "_law_whole" s_law_whole f cdv A outer s H E) rfl rfl rfl rfl
  have hp := passes_of (X := cxD P w K mg base ["actual", "due"] "_law_whole" s_law_whole f cdv A outer s H E) rfl
  exact (ss_one (s_ret (pd_and (pd_isi .int (by decide) (pd_var 0) (by rfl) T.b_isinstance (by rfl) T.b_int PyProof.Rows.boot_int) (pd_and (pd_not (pd_isi .bl (by decide) (pd_var 0) (by rfl) T.b_isinstance (by rfl) T.b_bool PyProof.Rows.boot_bool)) (pd_one (pd_cmp (op_eqD hu) opS_eq (pd_var 0) (pd_var 1) (by rfl)))))))
theorem sc_law_room : FnScope ["actual", "due", "k"] ["actual", "due"] (defScope s_law_room) := ⟨rfl, rfl, rfl, by decide +kernel, rfl, by decide +kernel, by decide +kernel⟩
theorem ok_law_room {f : Addr} {fd : FuncData} (F : Fun K "_law_room" "_law_room" s_law_room f fd) (hf : mg "_law_room" = some (.ref f)) (b : Binds K fd ["actual", "due"] []) (T : Tx mg) (C_law_whole : CalD P w K mg base 1 "_law_whole" [false, false] m_law_whole) : CalD P w K mg base 2 "_law_room" [false, false] m_law_room := by
  refine ⟨f, fd, ["actual", "due"], fn_d F sc_law_room rfl (fun ds _ _ => rfl) (t := t_law_room) ?_, hf, F.kp, b⟩
  intro cdv A outer s H E hr
  have nd := sc_law_room.nd
  have hu := hr.units
  have hu5 := hu5_of hr
  have tk := takes_of (X := cxD P w K mg base ["actual", "due", "k"] "_law_room" s_law_room f cdv A outer s H E) rfl rfl rfl rfl
  have hp := passes_of (X := cxD P w K mg base ["actual", "due", "k"] "_law_room" s_law_room f cdv A outer s H E) rfl
  have C_law_whole := C_law_whole.mono hr (by decide)
  exact (ss_cons (s_if (DL.pw_or (DL.pt_not (DL.pt_val (pd_isi .tup (by decide) (pd_var 0) (by rfl) T.b_isinstance (by rfl) T.b_tuple PyProof.Rows.boot_tuple))) (DL.pw_or1 (DL.pt_cmp (op_neD hu) opS_ne (pd_callB callS_len call_len_seq (by rfl) T.b_len PySem.boot_len (pa_b (pd_var 0) DL.pa_nil)) (pd_callB callS_len call_len_seq (by rfl) T.b_len PySem.boot_len (pa_b (pd_var 1) DL.pa_nil)) (by rfl)))).pt
    (ss_one (s_ret pd_bl)) ss_nil)
    (ss_cons (s_for hp rfl (i_range1 (by rfl) T.b_range (pa_b (pd_callB callS_len call_len_seq (by rfl) T.b_len PySem.boot_len (pa_b (pd_var 1) DL.pa_nil)) DL.pa_nil)) (pg_nameD nd 2) (tg_name 2)
    (ss_one (s_if (DL.pt_not (DL.pt_val (pd_callD C_law_whole tk (by rfl) (pa_b (pd_ix (pd_var 0) (pd_var 2)) (pa_b (pd_ix (pd_var 1) (pd_var 2)) DL.pa_nil)))))
    (ss_one (s_ret pd_bl)) ss_nil)))
    (ss_one (s_ret pd_bl))))
theorem sc_law_rooms : FnScope ["actual", "due", "k"] ["actual", "due"] (defScope s_law_rooms) := ⟨rfl, rfl, rfl, by decide +kernel, rfl, by decide +kernel, by decide +kernel⟩
theorem ok_law_rooms {f : Addr} {fd : FuncData} (F : Fun K "_law_rooms" "_law_rooms" s_law_rooms f fd) (hf : mg "_law_rooms" = some (.ref f)) (b : Binds K fd ["actual", "due"] []) (T : Tx mg) (C_law_room : CalD P w K mg base 2 "_law_room" [false, false] m_law_room) : CalD P w K mg base 3 "_law_rooms" [false, false] m_law_rooms := by
  refine ⟨f, fd, ["actual", "due"], fn_d F sc_law_rooms rfl (fun ds _ _ => rfl) (t := t_law_rooms) ?_, hf, F.kp, b⟩
  intro cdv A outer s H E hr
  have nd := sc_law_rooms.nd
  have hu := hr.units
  have hu5 := hu5_of hr
  have tk := takes_of (X := cxD P w K mg base ["actual", "due", "k"] "_law_rooms" s_law_rooms f cdv A outer s H E) rfl rfl rfl rfl
  have hp := passes_of (X := cxD P w K mg base ["actual", "due", "k"] "_law_rooms" s_law_rooms f cdv A outer s H E) rfl
  have C_law_room := C_law_room.mono hr (by decide)
  exact (ss_cons (s_if (DL.pw_or (DL.pt_not (DL.pt_val (pd_isi .lst (by decide) (pd_var 0) (by rfl) T.b_isinstance (by rfl) T.b_list PyProof.Rows.boot_list))) (DL.pw_or1 (DL.pt_cmp (op_neD hu) opS_ne (pd_callB callS_len call_len_seq (by rfl) T.b_len PySem.boot_len (pa_b (pd_var 0) DL.pa_nil)) (pd_callB callS_len call_len_seq (by rfl) T.b_len PySem.boot_len (pa_b (pd_var 1) DL.pa_nil)) (by rfl)))).pt
    (ss_one (s_ret pd_bl)) ss_nil)
    (ss_cons (s_for hp rfl (i_range1 (by rfl) T.b_range (pa_b (pd_callB callS_len call_len_seq (by rfl) T.b_len PySem.boot_len (pa_b (pd_var 1) DL.pa_nil)) DL.pa_nil)) (pg_nameD nd 2) (tg_name 2)
    (ss_one (s_if (DL.pt_not (DL.pt_val (pd_callD C_law_room tk (by rfl) (pa_b (pd_ix (pd_var 0) (pd_var 2)) (pa_b (pd_ix (pd_var 1) (pd_var 2)) DL.pa_nil)))))
    (ss_one (s_ret pd_bl)) ss_nil)))
    (ss_one (s_ret pd_bl))))
theorem sc_law_many : FnScope ["n", "k", "many", "j"] ["n", "k"] (defScope s_law_many) := ⟨rfl, rfl, rfl, by decide +kernel, rfl, by decide +kernel, by decide +kernel⟩
theorem ok_law_many {f : Addr} {fd : FuncData} (F : Fun K "_law_many" "_law_many" s_law_many f fd) (hf : mg "_law_many" = some (.ref f)) (b : Binds K fd ["n", "k"] []) (T : Tx mg)  : CalD P w K mg base 1 "_law_many" [false, false] m_law_many := by
  refine ⟨f, fd, ["n", "k"], fn_d F sc_law_many rfl (fun ds _ _ => rfl) (t := t_law_many) ?_, hf, F.kp, b⟩
  intro cdv A outer s H E hr
  have nd := sc_law_many.nd
  have hu := hr.units
  have hu5 := hu5_of hr
  have tk := takes_of (X := cxD P w K mg base ["n", "k", "many", "j"] "_law_many" s_law_many f cdv A outer s H E) rfl rfl rfl rfl
  have hp := passes_of (X := cxD P w K mg base ["n", "k", "many", "j"] "_law_many" s_law_many f cdv A outer s H E) rfl
  exact (ss_cons (s_set (i := 2) nd rfl (Or.inl rfl) pd_int)
    (ss_cons (s_for hp rfl (i_range1 (by rfl) T.b_range (pa_b (pd_var 1) DL.pa_nil)) (pg_nameD nd 3) (tg_name 3)
    (ss_one (s_set (i := 2) nd rfl (Or.inl rfl) (pd_op op_divA opS_div (pd_op op_mulA opS_mul (pd_var 2) (pd_op op_sub opS_sub (pd_var 0) (pd_var 3))) (pd_op op_addA opS_add (pd_var 3) pd_int)))))
    (ss_one (s_retA 2))))
theorem sc_law_items : FnScope ["cell", "many", "items", "item", "k"] ["cell", "many"] (defScope s_law_items) := ⟨rfl, rfl, rfl, by decide +kernel, rfl, by decide +kernel, by decide +kernel⟩
theorem ok_law_items {f : Addr} {fd : FuncData} (F : Fun K "_law_items" "_law_items" s_law_items f fd) (hf : mg "_law_items" = some (.ref f)) (b : Binds K fd ["cell", "many"] []) (T : Tx mg)  : CalD P w K mg base 1 "_law_items" [false, false] m_law_items := by
  refine ⟨f, fd, ["cell", "many"], fn_d F sc_law_items rfl (fun ds _ _ => rfl) (t := t_law_items) ?_, hf, F.kp, b⟩
  intro cdv A outer s H E hr
  have nd := sc_law_items.nd
  have hu := hr.units
  have hu5 := hu5_of hr
  have tk := takes_of (X := cxD P w K mg base ["cell", "many", "items", "item", "k"] "_law_items" s_law_items f cdv A outer s H E) rfl rfl rfl rfl
  have hp := passes_of (X := cxD P w K mg base ["cell", "many", "items", "item", "k"] "_law_items" s_law_items f cdv A outer s H E) rfl
  exact (ss_cons (s_set (i := 2) nd rfl (Or.inl rfl) (pd_lst DL.pa_nil))
    (ss_cons (s_setV (i := 3) nd rfl (Or.inl rfl) (pd_op op_sub opS_sub (pd_op op_mod opS_mod (pd_callTy callS_int call_int1 (by rfl) T.b_int PyProof.Rows.boot_int (pa_b (pd_var 0) DL.pa_nil)) pd_int) pd_int))
    (ss_cons (s_setV (i := 0) nd rfl (Or.inl rfl) (pd_op op_divA opS_div (pd_var 0) pd_int))
    (ss_cons (s_for hp rfl (i_range1 (by rfl) T.b_range (pa_b (pd_var 1) DL.pa_nil)) (pg_nameD nd 4) (tg_name 4)
    (ss_cons (s_app 2 (x_of (pd_var 3)))
    (ss_cons (s_setV (i := 3) nd rfl (Or.inl rfl) (pd_op op_addA opS_add (pd_op op_addA opS_add (pd_var 3) pd_int) (pd_op op_mod opS_mod (pd_callTy callS_int call_int1 (by rfl) T.b_int PyProof.Rows.boot_int (pa_b (pd_var 0) DL.pa_nil)) pd_int)))
    (ss_one (s_setV (i := 0) nd rfl (Or.inl rfl) (pd_op op_divA opS_div (pd_var 0) pd_int))))))
    (ss_one (s_ret (pd_callTy callS_tuple call_tuple_of (by rfl) T.b_tuple PyProof.Rows.boot_tuple (pa_b (pd_var 2) DL.pa_nil))))))))
theorem sc_law_subsets_right : FnScope ["items", "k", "found", "at", "room", "j"] ["items", "k"] (defScope s_law_subsets_right) := ⟨rfl, rfl, rfl, by decide +kernel, rfl, by decide +kernel, by decide +kernel⟩
theorem ok_law_subsets_right {f : Addr} {fd : FuncData} (F : Fun K "_law_subsets_right" "_law_subsets_right" s_law_subsets_right f fd) (hf : mg "_law_subsets_right" = some (.ref f)) (b : Binds K fd ["items", "k"] []) (T : Tx mg) (C_law_many : CalD P w K mg base 1 "_law_many" [false, false] m_law_many) (C_subsets : CalD P w K mg base 15 "subsets" [false, false] m_subsets) : CalD P w K mg base 16 "_law_subsets_right" [false, false] m_law_subsets_right := by
  refine ⟨f, fd, ["items", "k"], fn_d F sc_law_subsets_right rfl (fun ds _ _ => rfl) (t := t_law_subsets_right) ?_, hf, F.kp, b⟩
  intro cdv A outer s H E hr
  have nd := sc_law_subsets_right.nd
  have hu := hr.units
  have hu5 := hu5_of hr
  have tk := takes_of (X := cxD P w K mg base ["items", "k", "found", "at", "room", "j"] "_law_subsets_right" s_law_subsets_right f cdv A outer s H E) rfl rfl rfl rfl
  have hp := passes_of (X := cxD P w K mg base ["items", "k", "found", "at", "room", "j"] "_law_subsets_right" s_law_subsets_right f cdv A outer s H E) rfl
  have C_law_many := C_law_many.mono hr (by decide)
  have C_subsets := C_subsets.mono hr (by decide)
  exact (ss_cons (s_setV (i := 2) nd rfl (Or.inl rfl) (pd_callD C_subsets tk (by rfl) (pa_b (pd_var 0) (pa_b (pd_var 1) DL.pa_nil))))
    (ss_cons (s_if (DL.pw_or (DL.pt_not (DL.pt_val (pd_isi .lst (by decide) (pd_var 2) (by rfl) T.b_isinstance (by rfl) T.b_list PyProof.Rows.boot_list))) (DL.pw_or1 (DL.pt_cmp (op_neD hu) opS_ne (pd_callB callS_len call_len_seq (by rfl) T.b_len PySem.boot_len (pa_b (pd_var 2) DL.pa_nil)) (pd_callD C_law_many tk (by rfl) (pa_b (pd_callB callS_len call_len_seq (by rfl) T.b_len PySem.boot_len (pa_b (pd_var 0) DL.pa_nil)) (pa_b (pd_var 1) DL.pa_nil))) (by rfl)))).pt
    (ss_one (s_ret pd_bl)) ss_nil)
    (ss_cons (s_for hp rfl (i_range1 (by rfl) T.b_range (pa_b (pd_callB callS_len call_len_seq (by rfl) T.b_len PySem.boot_len (pa_b (pd_var 2) DL.pa_nil)) DL.pa_nil)) (pg_nameD nd 3) (tg_name 3)
    (ss_cons (s_setV (i := 4) nd rfl (Or.inl rfl) (pd_ix (pd_var 2) (pd_var 3)))
    (ss_cons (s_if (DL.pw_or (DL.pt_not (DL.pt_val (pd_isi .tup (by decide) (pd_var 4) (by rfl) T.b_isinstance (by rfl) T.b_tuple PyProof.Rows.boot_tuple))) (DL.pw_or1 (DL.pt_cmp (op_neD hu) opS_ne (pd_callB callS_len call_len_seq (by rfl) T.b_len PySem.boot_len (pa_b (pd_var 4) DL.pa_nil)) (pd_var 1) (by rfl)))).pt
    (ss_one (s_ret pd_bl)) ss_nil)
    (ss_cons (s_for hp rfl (i_range1 (by rfl) T.b_range (pa_b (pd_var 1) DL.pa_nil)) (pg_nameD nd 5) (tg_name 5)
    (ss_one (s_if (DL.pw_or (DL.pt_cmp (op_notInA hu5) (opS_in (neg := true)) (pd_ix (pd_var 4) (pd_var 5)) (pd_var 0) (by rfl)) (DL.pw_or1 (DL.pw_and (DL.pt_cmp op_gt opS_cmpI (pd_var 5) pd_int (by rfl)) (DL.pw_and1 (DL.pt_cmp op_ge opS_cmpI (pd_ix (pd_var 4) (pd_op op_sub opS_sub (pd_var 5) pd_int)) (pd_ix (pd_var 4) (pd_var 5)) (by rfl)))).pt)).pt
    (ss_one (s_ret pd_bl)) ss_nil)))
    (ss_one (s_if (DL.pw_and (DL.pt_cmp op_gt opS_cmpI (pd_var 3) pd_int (by rfl)) (DL.pw_and1 (DL.pt_cmp (op_geT hu) opS_tup (pd_ix (pd_var 2) (pd_op op_sub opS_sub (pd_var 3) pd_int)) (pd_var 4) (by rfl)))).pt
    (ss_one (s_ret pd_bl)) ss_nil))))))
    (ss_one (s_ret pd_bl)))))
theorem sc_law_exchanges : FnScope ["room", "n", "cell", "outside", "strange", "leaving", "kept", "entering", "p"] ["room", "n", "cell"] (defScope s_law_exchanges) := ⟨rfl, rfl, rfl, by decide +kernel, rfl, by decide +kernel, by decide +kernel⟩
theorem ok_law_exchanges {f : Addr} {fd : FuncData} (F : Fun K "_law_exchanges" "_law_exchanges" s_law_exchanges f fd) (hf : mg "_law_exchanges" = some (.ref f)) (b : Binds K fd ["room", "n", "cell"] []) (T : Tx mg) (C_law_room : CalD P w K mg base 2 "_law_room" [false, false] m_law_room) (C_exchanged : CalD P w K mg base 1 "exchanged" [false, false, false] m_exchanged) (C_without : CalD P w K mg base 1 "without" [false, false] m_without) : CalD P w K mg base 3 "_law_exchanges" [false, false, false] m_law_exchanges := by
  refine ⟨f, fd, ["room", "n", "cell"], fn_d F sc_law_exchanges rfl (fun ds _ _ => rfl) (t := t_law_exchanges) ?_, hf, F.kp, b⟩
  intro cdv A outer s H E hr
  have nd := sc_law_exchanges.nd
  have hu := hr.units
  have hu5 := hu5_of hr
  have tk := takes_of (X := cxD P w K mg base ["room", "n", "cell", "outside", "strange", "leaving", "kept", "entering", "p"] "_law_exchanges" s_law_exchanges f cdv A outer s H E) rfl rfl rfl rfl
  have hp := passes_of (X := cxD P w K mg base ["room", "n", "cell", "outside", "strange", "leaving", "kept", "entering", "p"] "_law_exchanges" s_law_exchanges f cdv A outer s H E) rfl
  have C_law_room := C_law_room.mono hr (by decide)
  have C_exchanged := C_exchanged.mono hr (by decide)
  have C_without := C_without.mono hr (by decide)
  exact (ss_cons (s_setLcV (i := 3) rfl nd rfl rfl (sw_true rfl rfl rfl (by decide +kernel)) (i_range1 (by rfl) T.b_range (pa_b (pd_var 1) DL.pa_nil)) (blkOk_by (own := [("p", 8)]) (by kernel_rfl)) (tg_name 8) (by decide) (fun _ => (pg_nameD nd 8)) (fun _ => (ts_one (DL.pt_cmp (op_notInA hu5) (opS_in (neg := true)) (pd_var 8) (pd_var 0) (by rfl)))) (fun _ => (pd_var 8)))
    (ss_cons (s_setLcV (i := 4) rfl nd rfl rfl (sw_true rfl rfl rfl (by decide +kernel)) (i_range1 (by rfl) T.b_range (pa_b pd_int DL.pa_nil)) (blkOk_by (own := [("p", 8)]) (by kernel_rfl)) (tg_name 8) (by decide) (fun _ => (pg_nameD nd 8)) (fun _ => (ts_one (DL.pt_cmp (op_notInA hu5) (opS_in (neg := true)) (pd_var 8) (pd_var 0) (by rfl)))) (fun _ => (pd_var 8)))
    (ss_cons (s_if (DL.pw_and (DL.pt_cmp op_gt opS_cmpI (pd_callB callS_len call_len_seq (by rfl) T.b_len PySem.boot_len (pa_b (pd_var 4) DL.pa_nil)) pd_int (by rfl)) (DL.pw_and1 (DL.pt_not (DL.pt_val (pd_callD C_law_room tk (by rfl) (pa_b (pd_callD C_without tk (by rfl) (pa_b (pd_callTy callS_tuple call_tuple_of (by rfl) T.b_tuple PyProof.Rows.boot_tuple (pa_b (pd_var 0) DL.pa_nil)) (pa_b (pd_ix (pd_var 4) (pd_op op_mod opS_mod (pd_callTy callS_int call_int1 (by rfl) T.b_int PyProof.Rows.boot_int (pa_b (pd_op op_divA opS_div (pd_var 2) pd_int) DL.pa_nil)) (pd_callB callS_len call_len_seq (by rfl) T.b_len PySem.boot_len (pa_b (pd_var 4) DL.pa_nil)))) DL.pa_nil))) (pa_b (pd_var 0) DL.pa_nil))))))).pt
    (ss_one (s_ret pd_bl)) ss_nil)
    (ss_cons (s_if (DL.pt_cmp (op_eqD hu) opS_eq (pd_callB callS_len call_len_seq (by rfl) T.b_len PySem.boot_len (pa_b (pd_var 0) DL.pa_nil)) pd_int (by rfl))
    (ss_one (s_ret pd_bl)) ss_nil)
    (ss_cons (s_setV (i := 5) nd rfl (Or.inr rfl) (pd_ix (pd_var 0) (pd_op op_mod opS_mod (pd_callTy callS_int call_int1 (by rfl) T.b_int PyProof.Rows.boot_int (pa_b (pd_var 2) DL.pa_nil)) (pd_callB callS_len call_len_seq (by rfl) T.b_len PySem.boot_len (pa_b (pd_var 0) DL.pa_nil)))))
    (ss_cons (s_setLcV (i := 6) rfl nd rfl rfl (sw_true rfl rfl rfl (by decide +kernel)) (i_seq (pd_var 0)) (blkOk_by (own := [("p", 8)]) (by kernel_rfl)) (tg_name 8) (by decide) (fun _ => (pg_nameD nd 8)) (fun _ => (ts_one (DL.pt_cmp (op_neD hu) opS_ne (pd_var 8) (pd_var 5) (by rfl)))) (fun _ => (pd_var 8)))
    (ss_cons (s_if (DL.pt_not (DL.pt_val (pd_callD C_law_room tk (by rfl) (pa_b (pd_callD C_without tk (by rfl) (pa_b (pd_callTy callS_tuple call_tuple_of (by rfl) T.b_tuple PyProof.Rows.boot_tuple (pa_b (pd_var 0) DL.pa_nil)) (pa_b (pd_var 5) DL.pa_nil))) (pa_b (pd_var 6) DL.pa_nil)))))
    (ss_one (s_ret pd_bl)) ss_nil)
    (ss_cons (s_if (DL.pt_cmp (op_eqD hu) opS_eq (pd_callB callS_len call_len_seq (by rfl) T.b_len PySem.boot_len (pa_b (pd_var 3) DL.pa_nil)) pd_int (by rfl))
    (ss_one (s_ret pd_bl)) ss_nil)
    (ss_cons (s_setV (i := 7) nd rfl (Or.inl rfl) (pd_ix (pd_var 3) (pd_op op_mod opS_mod (pd_callTy callS_int call_int1 (by rfl) T.b_int PyProof.Rows.boot_int (pa_b (pd_op op_divA opS_div (pd_var 2) pd_int) DL.pa_nil)) (pd_callB callS_len call_len_seq (by rfl) T.b_len PySem.boot_len (pa_b (pd_var 3) DL.pa_nil)))))
    (ss_one (s_ret (pd_callD C_law_room tk (by rfl) (pa_b (pd_callD C_exchanged tk (by rfl) (pa_b (pd_callTy callS_tuple call_tuple_of (by rfl) T.b_tuple PyProof.Rows.boot_tuple (pa_b (pd_var 0) DL.pa_nil)) (pa_b (pd_var 5) (pa_b (pd_var 7) DL.pa_nil)))) (pa_b (pd_callB callS_sorted (cr_sortedA hu5) (by rfl) T.b_sorted PyProof.Rows.boot_sorted (pa_b (pd_op op_addA opS_add (pd_var 6) (pd_lst (pa_v (pd_var 7) DL.pa_nil))) DL.pa_nil)) DL.pa_nil))))))))))))))
theorem sc_law_long : FnScope ["cell", "other", "many", "step", "start", "p"] ["cell", "other"] (defScope s_law_long) := ⟨rfl, rfl, rfl, by decide +kernel, rfl, by decide +kernel, by decide +kernel⟩
theorem ok_law_long {f : Addr} {fd : FuncData} (F : Fun K "_law_long" "_law_long" s_law_long f fd) (hf : mg "_law_long" = some (.ref f)) (b : Binds K fd ["cell", "other"] []) (T : Tx mg) (C_law_order : CalD P w K mg base 1 "_law_order" [false, false] m_law_order) : CalD P w K mg base 2 "_law_long" [false, false] m_law_long := by
  refine ⟨f, fd, ["cell", "other"], fn_d F sc_law_long rfl (fun ds _ _ => rfl) (t := t_law_long) ?_, hf, F.kp, b⟩
  intro cdv A outer s H E hr
  have nd := sc_law_long.nd
  have hu := hr.units
  have hu5 := hu5_of hr
  have tk := takes_of (X := cxD P w K mg base ["cell", "other", "many", "step", "start", "p"] "_law_long" s_law_long f cdv A outer s H E) rfl rfl rfl rfl
  have hp := passes_of (X := cxD P w K mg base ["cell", "other", "many", "step", "start", "p"] "_law_long" s_law_long f cdv A outer s H E) rfl
  have C_law_order := C_law_order.mono hr (by decide)
  exact (ss_cons (s_setV (i := 2) nd rfl (Or.inl rfl) (pd_op op_mod opS_mod (pd_callTy callS_int call_int1 (by rfl) T.b_int PyProof.Rows.boot_int (pa_b (pd_var 1) DL.pa_nil)) pd_int))
    (ss_cons (s_setV (i := 3) nd rfl (Or.inr rfl) (pd_op op_addA opS_add pd_int (pd_op op_mod opS_mod (pd_callTy callS_int call_int1 (by rfl) T.b_int PyProof.Rows.boot_int (pa_b (pd_op op_divA opS_div (pd_var 1) pd_int) DL.pa_nil)) pd_int)))
    (ss_cons (s_setV (i := 4) nd rfl (Or.inr rfl) (pd_op op_sub opS_sub (pd_op op_mod opS_mod (pd_callTy callS_int call_int1 (by rfl) T.b_int PyProof.Rows.boot_int (pa_b (pd_op op_divA opS_div (pd_var 1) pd_int) DL.pa_nil)) pd_int) pd_int))
    (ss_one (s_ret (pd_comp rfl nd (i_seq (pd_slice (pd_callD C_law_order tk (by rfl) (pa_b (pd_var 0) (pa_b pd_int DL.pa_nil))) o_none (o_some (pd_var 2)))) (blkOk_by (own := [("p", 5)]) (by kernel_rfl)) (tg_name 5) (by decide) (fun _ => (pg_nameD nd 5)) (fun _ => ts_nil) (fun _ => (pd_op op_addA opS_add (pd_op op_mulA opS_mul (pd_var 3) (pd_var 5)) (pd_var 4)))))))))
theorem sc_law_long_right : FnScope ["row", "due", "kept"] ["row"] (defScope s_law_long_right) := ⟨rfl, rfl, rfl, by decide +kernel, rfl, by decide +kernel, by decide +kernel⟩
theorem ok_law_long_right {f : Addr} {fd : FuncData} (F : Fun K "_law_long_right" "_law_long_right" s_law_long_right f fd) (hf : mg "_law_long_right" = some (.ref f)) (b : Binds K fd ["row"] []) (T : Tx mg) (C_law_sign : CalD P w K mg base 1 "_law_sign" [false] m_law_sign) (C_law_whole : CalD P w K mg base 1 "_law_whole" [false, false] m_law_whole) (C_order_sign : CalD P w K mg base 1 "order_sign" [false] m_order_sign) : CalD P w K mg base 2 "_law_long_right" [false] m_law_long_right := by
  refine ⟨f, fd, ["row"], fn_d F sc_law_long_right rfl (fun ds _ _ => rfl) (t := t_law_long_right) ?_, hf, F.kp, b⟩
  intro cdv A outer s H E hr
  have nd := sc_law_long_right.nd
  have hu := hr.units
  have hu5 := hu5_of hr
  have tk := takes_of (X := cxD P w K mg base ["row", "due", "kept"] "_law_long_right" s_law_long_right f cdv A outer s H E) rfl rfl rfl rfl
  have hp := passes_of (X := cxD P w K mg base ["row", "due", "kept"] "_law_long_right" s_law_long_right f cdv A outer s H E) rfl
  have C_law_sign := C_law_sign.mono hr (by decide)
  have C_law_whole := C_law_whole.mono hr (by decide)
  have C_order_sign := C_order_sign.mono hr (by decide)
  exact (ss_cons (s_setV (i := 1) nd rfl (Or.inl rfl) (pd_callD C_law_sign tk (by rfl) (pa_b (pd_var 0) DL.pa_nil)))
    (ss_cons (s_setV (i := 2) nd rfl (Or.inl rfl) (pd_callTy callS_list call_list_of (by rfl) T.b_list PyProof.Rows.boot_list (pa_b (pd_var 0) DL.pa_nil)))
    (ss_one (s_ret (pd_and (pd_callD C_law_whole tk (by rfl) (pa_b (pd_callD C_order_sign tk (by rfl) (pa_b (pd_var 0) DL.pa_nil)) (pa_b (pd_var 1) DL.pa_nil))) (pd_and (pd_cmp (op_eqD hu) opS_eq (pd_var 0) (pd_var 2) (by rfl)) (pd_one (pd_callD C_law_whole tk (by rfl) (pa_b (pd_callD C_order_sign tk (by rfl) (pa_b (pd_callTy callS_tuple call_tuple_of (by rfl) T.b_tuple PyProof.Rows.boot_tuple (pa_b (pd_var 0) DL.pa_nil)) DL.pa_nil)) (pa_b (pd_var 1) DL.pa_nil))))))))))
theorem sc_law_fault : FnScope ["places", "size", "room", "p", "k"] ["places", "size", "room"] (defScope s_law_fault) := ⟨rfl, rfl, rfl, by decide +kernel, rfl, by decide +kernel, by decide +kernel⟩
theorem ok_law_fault {f : Addr} {fd : FuncData} (F : Fun K "_law_fault" "_law_fault" s_law_fault f fd) (hf : mg "_law_fault" = some (.ref f)) (b : Binds K fd ["places", "size", "room"] []) (T : Tx mg)  : CalD P w K mg base 1 "_law_fault" [false, false, false] m_law_fault := by
  refine ⟨f, fd, ["places", "size", "room"], fn_d F sc_law_fault rfl (fun ds _ _ => rfl) (t := t_law_fault) ?_, hf, F.kp, b⟩
  intro cdv A outer s H E hr
  have nd := sc_law_fault.nd
  have hu := hr.units
  have hu5 := hu5_of hr
  have tk := takes_of (X := cxD P w K mg base ["places", "size", "room", "p", "k"] "_law_fault" s_law_fault f cdv A outer s H E) rfl rfl rfl rfl
  have hp := passes_of (X := cxD P w K mg base ["places", "size", "room", "p", "k"] "_law_fault" s_law_fault f cdv A outer s H E) rfl
  exact (ss_cons (s_if (DL.pt_cmp (op_neD hu) opS_ne (pd_callB callS_len call_len_seq (by rfl) T.b_len PySem.boot_len (pa_b (pd_var 2) DL.pa_nil)) (pd_var 1) (by rfl))
    (ss_one (s_ret pd_str)) ss_nil)
    (ss_cons (s_if (DL.pt_cmp op_gt opS_cmpI (pd_callB callS_len call_len_seq (by rfl) T.b_len PySem.boot_len (pa_b (pd_comp rfl nd (i_seq (pd_var 2)) (blkOk_by (own := [("p", 3)]) (by kernel_rfl)) (tg_name 3) (by decide) (fun _ => (pg_nameD nd 3)) (fun _ => (ts_one (DL.pw_or (DL.pt_cmp op_lt opS_cmpI (pd_var 3) pd_int (by rfl)) (DL.pw_or1 (DL.pt_cmp op_ge opS_cmpI (pd_var 3) (pd_var 0) (by rfl)))).pt)) (fun _ => (pd_var 3))) DL.pa_nil)) pd_int (by rfl))
    (ss_one (s_ret pd_str)) ss_nil)
    (ss_cons (s_if (DL.pt_cmp op_gt opS_cmpI (pd_callB callS_len call_len_seq (by rfl) T.b_len PySem.boot_len (pa_b (pd_comp rfl nd (i_range1 (by rfl) T.b_range (pa_b (pd_var 1) DL.pa_nil)) (blkOk_by (own := [("k", 4)]) (by kernel_rfl)) (tg_name 4) (by decide) (fun _ => (pg_nameD nd 4)) (fun _ => (ts_one (DL.pt_cmp (op_inA hu5) (opS_in (neg := false)) (pd_ix (pd_var 2) (pd_var 4)) (pd_slice (pd_var 2) o_none (o_some (pd_var 4))) (by rfl)))) (fun _ => (pd_var 4))) DL.pa_nil)) pd_int (by rfl))
    (ss_one (s_ret pd_str)) ss_nil)
    (ss_one (s_ret pd_str)))))
theorem sc_law_faults_right : FnScope ["script", "n", "row", "k", "cell", "size", "kind", "at", "far", "room", "due", "handed", "told"] ["script", "n", "row"] (defScope s_law_faults_right) := ⟨rfl, rfl, rfl, by decide +kernel, rfl, by decide +kernel, by decide +kernel⟩
theorem ok_law_faults_right {f : Addr} {fd : FuncData} (F : Fun K "_law_faults_right" "_law_faults_right" s_law_faults_right f fd) (hf : mg "_law_faults_right" = some (.ref f)) (b : Binds K fd ["script", "n", "row"] []) (T : Tx mg) (C_law_cell : CalD P w K mg base 1 "_law_cell" [false, false] m_law_cell) (C_law_fault : CalD P w K mg base 1 "_law_fault" [false, false, false] m_law_fault) (C_room_fault : CalD P w K mg base 1 "room_fault" [false, false, false] m_room_fault) : CalD P w K mg base 2 "_law_faults_right" [false, false, false] m_law_faults_right := by
  refine ⟨f, fd, ["script", "n", "row"], fn_d F sc_law_faults_right rfl (fun ds _ _ => rfl) (t := t_law_faults_right) ?_, hf, F.kp, b⟩
  intro cdv A outer s H E hr
  have nd := sc_law_faults_right.nd
  have hu := hr.units
  have hu5 := hu5_of hr
  have tk := takes_of (X := cxD P w K mg base ["script", "n", "row", "k", "cell", "size", "kind", "at", "far", "room", "due", "handed", "told"] "_law_faults_right" s_law_faults_right f cdv A outer s H E) rfl rfl rfl rfl
  have hp := passes_of (X := cxD P w K mg base ["script", "n", "row", "k", "cell", "size", "kind", "at", "far", "room", "due", "handed", "told"] "_law_faults_right" s_law_faults_right f cdv A outer s H E) rfl
  have C_law_cell := C_law_cell.mono hr (by decide)
  have C_law_fault := C_law_fault.mono hr (by decide)
  have C_room_fault := C_room_fault.mono hr (by decide)
  exact (ss_cons (s_for hp rfl (i_range1 (by rfl) T.b_range (pa_b pd_int DL.pa_nil)) (pg_nameD nd 3) (tg_name 3)
    (ss_cons (s_setV (i := 4) nd rfl (Or.inl rfl) (pd_callD C_law_cell tk (by rfl) (pa_b (pd_var 0) (pa_b (pd_op op_addA opS_add pd_int (pd_var 3)) DL.pa_nil))))
    (ss_cons (s_setV (i := 5) nd rfl (Or.inl rfl) (pd_op op_addA opS_add pd_int (pd_op op_mod opS_mod (pd_callTy callS_int call_int1 (by rfl) T.b_int PyProof.Rows.boot_int (pa_b (pd_var 4) DL.pa_nil)) (pd_var 1))))
    (ss_cons (s_setV (i := 6) nd rfl (Or.inl rfl) (pd_op op_mod opS_mod (pd_callTy callS_int call_int1 (by rfl) T.b_int PyProof.Rows.boot_int (pa_b (pd_op op_divA opS_div (pd_var 4) pd_int) DL.pa_nil)) pd_int))
    (ss_cons (s_setV (i := 7) nd rfl (Or.inl rfl) (pd_op op_mod opS_mod (pd_callTy callS_int call_int1 (by rfl) T.b_int PyProof.Rows.boot_int (pa_b (pd_op op_divA opS_div (pd_var 4) pd_int) DL.pa_nil)) (pd_var 5)))
    (ss_cons (s_setV (i := 8) nd rfl (Or.inl rfl) (pd_op op_mulA opS_mul (pd_op op_mod opS_mod (pd_callTy callS_int call_int1 (by rfl) T.b_int PyProof.Rows.boot_int (pa_b (pd_op op_divA opS_div (pd_var 4) pd_int) DL.pa_nil)) pd_int) (pd_op op_mod opS_mod (pd_callTy callS_int call_int1 (by rfl) T.b_int PyProof.Rows.boot_int (pa_b (pd_op op_divA opS_div (pd_var 4) pd_int) DL.pa_nil)) pd_int)))
    (ss_cons (s_set (i := 9) nd rfl (Or.inl rfl) (pd_slice (pd_var 2) o_none (o_some (pd_var 5))))
    (ss_cons (s_if (DL.pt_cmp (op_eqD hu) opS_eq (pd_var 6) pd_int (by rfl))
    (ss_one (s_set (i := 9) nd rfl (Or.inl rfl) (pd_slice (pd_var 9) (o_some pd_int) o_none))) (ss_one (s_if (DL.pt_cmp (op_eqD hu) opS_eq (pd_var 6) pd_int (by rfl))
    (ss_one (s_set (i := 9) nd rfl (Or.inl rfl) (pd_op op_addA opS_add (pd_var 9) (pd_lst (pa_v (pd_ix (pd_var 2) pd_int) DL.pa_nil))))) (ss_one (s_if (DL.pw_or (DL.pt_cmp (op_eqD hu) opS_eq (pd_var 6) pd_int (by rfl)) (DL.pw_or1 (DL.pt_cmp (op_eqD hu) opS_eq (pd_var 6) pd_int (by rfl)))).pt
    (ss_one (s_put 9 (pd_op op_addA opS_add (pd_var 1) (pd_var 8)) (pd_var 7))) (ss_one (s_if (DL.pt_cmp (op_eqD hu) opS_eq (pd_var 6) pd_int (by rfl))
    (ss_one (s_put 9 (pd_op op_sub opS_sub (pd_un un_neg unS_neg pd_int) (pd_var 8)) (pd_var 7))) ss_nil)))))))
    (ss_cons (s_if (DL.pw_and (DL.pt_cmp op_gt opS_cmpI (pd_var 5) pd_int (by rfl)) (DL.pw_and1 (DL.pw_or (DL.pt_cmp (op_eqD hu) opS_eq (pd_var 6) pd_int (by rfl)) (DL.pw_or1 (DL.pt_cmp (op_eqD hu) opS_eq (pd_var 6) pd_int (by rfl)))).pt)).pt
    (ss_one (s_put 9 (pd_ix (pd_var 9) (pd_var 7)) (pd_op op_sub opS_sub (pd_var 7) pd_int))) ss_nil)
    (ss_cons (s_setV (i := 10) nd rfl (Or.inl rfl) (pd_callD C_law_fault tk (by rfl) (pa_b (pd_var 1) (pa_b (pd_var 5) (pa_b (pd_var 9) DL.pa_nil)))))
    (ss_cons (s_setV (i := 11) nd rfl (Or.inl rfl) (pd_callTy callS_list call_list_of (by rfl) T.b_list PyProof.Rows.boot_list (pa_b (pd_var 9) DL.pa_nil)))
    (ss_cons (s_setV (i := 12) nd rfl (Or.inl rfl) (pd_callD C_room_fault tk (by rfl) (pa_b (pd_var 1) (pa_b (pd_var 5) (pa_b (pd_var 11) DL.pa_nil)))))
    (ss_one (s_if (DL.pw_or (DL.pt_not (DL.pt_val (pd_isi .str (by decide) (pd_var 12) (by rfl) T.b_isinstance (by rfl) T.b_str PyProof.Rows.boot_str))) (DL.pw_or (DL.pt_cmp (op_neD hu) opS_ne (pd_var 12) (pd_var 10) (by rfl)) (DL.pw_or (DL.pt_cmp (op_neD hu) opS_ne (pd_var 11) (pd_var 9) (by rfl)) (DL.pw_or1 (DL.pt_cmp (op_neD hu) opS_ne (pd_callD C_room_fault tk (by rfl) (pa_b (pd_var 1) (pa_b (pd_var 5) (pa_b (pd_callTy callS_tuple call_tuple_of (by rfl) T.b_tuple PyProof.Rows.boot_tuple (pa_b (pd_var 9) DL.pa_nil)) DL.pa_nil)))) (pd_var 10) (by rfl)))))).pt
    (ss_one (s_ret pd_bl)) ss_nil))))))))))))))
    (ss_one (s_ret pd_bl)))
theorem sc_law : FnScope ["script", "n", "row", "many", "first", "start", "second", "common", "due", "items", "p", "k"] ["script"] (defScope s_law) := ⟨rfl, rfl, rfl, by decide +kernel, rfl, by decide +kernel, by decide +kernel⟩
theorem ok_law {f : Addr} {fd : FuncData} (F : Fun K "law" "law" s_law f fd) (T : Tx mg) (C_law_cell : CalD P w K mg base 1 "_law_cell" [false, false] m_law_cell) (C_law_exchanges : CalD P w K mg base 3 "_law_exchanges" [false, false, false] m_law_exchanges) (C_law_faults_right : CalD P w K mg base 2 "_law_faults_right" [false, false, false] m_law_faults_right) (C_law_items : CalD P w K mg base 1 "_law_items" [false, false] m_law_items) (C_law_long : CalD P w K mg base 2 "_law_long" [false, false] m_law_long) (C_law_long_right : CalD P w K mg base 2 "_law_long_right" [false] m_law_long_right) (C_law_order : CalD P w K mg base 1 "_law_order" [false, false] m_law_order) (C_law_room : CalD P w K mg base 2 "_law_room" [false, false] m_law_room) (C_law_rooms : CalD P w K mg base 3 "_law_rooms" [false, false] m_law_rooms) (C_law_sign : CalD P w K mg base 1 "_law_sign" [false] m_law_sign) (C_law_subsets_right : CalD P w K mg base 16 "_law_subsets_right" [false, false] m_law_subsets_right) (C_law_whole : CalD P w K mg base 1 "_law_whole" [false, false] m_law_whole) (C_complement : CalD P w K mg base 1 "complement" [false, false] m_complement) (C_faces : CalD P w K mg base 1 "faces" [false] m_faces) (C_merged : CalD P w K mg base 1 "merged" [false, false] m_merged) (C_shuffle_sign : CalD P w K mg base 1 "shuffle_sign" [false, false] m_shuffle_sign) : FnD P w K mg base 17 f fd ["script"] [false] m_law := by
  refine fn_d F sc_law rfl (fun ds _ _ => rfl) (t := t_law) ?_
  intro cdv A outer s H E hr
  have nd := sc_law.nd
  have hu := hr.units
  have hu5 := hu5_of hr
  have tk := takes_of (X := cxD P w K mg base ["script", "n", "row", "many", "first", "start", "second", "common", "due", "items", "p", "k"] "law" s_law f cdv A outer s H E) rfl rfl rfl rfl
  have hp := passes_of (X := cxD P w K mg base ["script", "n", "row", "many", "first", "start", "second", "common", "due", "items", "p", "k"] "law" s_law f cdv A outer s H E) rfl
  have C_law_cell := C_law_cell.mono hr (by decide)
  have C_law_exchanges := C_law_exchanges.mono hr (by decide)
  have C_law_faults_right := C_law_faults_right.mono hr (by decide)
  have C_law_items := C_law_items.mono hr (by decide)
  have C_law_long := C_law_long.mono hr (by decide)
  have C_law_long_right := C_law_long_right.mono hr (by decide)
  have C_law_order := C_law_order.mono hr (by decide)
  have C_law_room := C_law_room.mono hr (by decide)
  have C_law_rooms := C_law_rooms.mono hr (by decide)
  have C_law_sign := C_law_sign.mono hr (by decide)
  have C_law_subsets_right := C_law_subsets_right.mono hr (by decide)
  have C_law_whole := C_law_whole.mono hr (by decide)
  have C_complement := C_complement.mono hr (by decide)
  have C_faces := C_faces.mono hr (by decide)
  have C_merged := C_merged.mono hr (by decide)
  have C_shuffle_sign := C_shuffle_sign.mono hr (by decide)
  exact (ss_cons (s_setV (i := 1) nd rfl (Or.inl rfl) (pd_op op_addA opS_add pd_int (pd_op op_mod opS_mod (pd_callTy callS_int call_int1 (by rfl) T.b_int PyProof.Rows.boot_int (pa_b (pd_callD C_law_cell tk (by rfl) (pa_b (pd_var 0) (pa_b pd_int DL.pa_nil))) DL.pa_nil)) pd_int)))
    (ss_cons (s_setV (i := 2) nd rfl (Or.inl rfl) (pd_callD C_law_order tk (by rfl) (pa_b (pd_callD C_law_cell tk (by rfl) (pa_b (pd_var 0) (pa_b pd_int DL.pa_nil))) (pa_b (pd_var 1) DL.pa_nil))))
    (ss_cons (s_if (DL.pt_not (DL.pt_val (pd_callD C_law_faults_right tk (by rfl) (pa_b (pd_var 0) (pa_b (pd_var 1) (pa_b (pd_var 2) DL.pa_nil))))))
    (ss_one (s_ret pd_bl)) ss_nil)
    (ss_cons (s_setV (i := 3) nd rfl (Or.inl rfl) (pd_op op_mod opS_mod (pd_callTy callS_int call_int1 (by rfl) T.b_int PyProof.Rows.boot_int (pa_b (pd_callD C_law_cell tk (by rfl) (pa_b (pd_var 0) (pa_b pd_int DL.pa_nil))) DL.pa_nil)) (pd_op op_addA opS_add (pd_var 1) pd_int)))
    (ss_cons (s_if (DL.pw_or (DL.pt_not (DL.pt_val (pd_callD C_law_long_right tk (by rfl) (pa_b (pd_slice (pd_var 2) o_none (o_some (pd_var 3))) DL.pa_nil)))) (DL.pw_or1 (DL.pt_not (DL.pt_val (pd_callD C_law_long_right tk (by rfl) (pa_b (pd_callD C_law_long tk (by rfl) (pa_b (pd_callD C_law_cell tk (by rfl) (pa_b (pd_var 0) (pa_b pd_int DL.pa_nil))) (pa_b (pd_callD C_law_cell tk (by rfl) (pa_b (pd_var 0) (pa_b pd_int DL.pa_nil))) DL.pa_nil))) DL.pa_nil)))))).pt
    (ss_one (s_ret pd_bl)) ss_nil)
    (ss_cons (s_setV (i := 4) nd rfl (Or.inr rfl) (pd_callB callS_sorted (cr_sortedA hu5) (by rfl) T.b_sorted PyProof.Rows.boot_sorted (pa_b (pd_slice (pd_var 2) o_none (o_some (pd_var 3))) DL.pa_nil)))
    (ss_cons (s_set (i := 5) nd rfl (Or.inl rfl) (pd_var 3))
    (ss_cons (s_if (DL.pt_cmp (op_eqD hu) opS_eq (pd_op op_mod opS_mod (pd_callTy callS_int call_int1 (by rfl) T.b_int PyProof.Rows.boot_int (pa_b (pd_callD C_law_cell tk (by rfl) (pa_b (pd_var 0) (pa_b pd_int DL.pa_nil))) DL.pa_nil)) pd_int) pd_int (by rfl))
    (ss_one (s_setV (i := 5) nd rfl (Or.inl rfl) (pd_op op_mod opS_mod (pd_callTy callS_int call_int1 (by rfl) T.b_int PyProof.Rows.boot_int (pa_b (pd_op op_divA opS_div (pd_callD C_law_cell tk (by rfl) (pa_b (pd_var 0) (pa_b pd_int DL.pa_nil))) pd_int) DL.pa_nil)) (pd_op op_addA opS_add (pd_var 1) pd_int)))) ss_nil)
    (ss_cons (s_setV (i := 6) nd rfl (Or.inr rfl) (pd_callB callS_sorted (cr_sortedA hu5) (by rfl) T.b_sorted PyProof.Rows.boot_sorted (pa_b (pd_slice (pd_var 2) (o_some (pd_var 5)) (o_some (pd_op op_addA opS_add (pd_var 5) (pd_op op_mod opS_mod (pd_callTy callS_int call_int1 (by rfl) T.b_int PyProof.Rows.boot_int (pa_b (pd_callD C_law_cell tk (by rfl) (pa_b (pd_var 0) (pa_b pd_int DL.pa_nil))) DL.pa_nil)) (pd_op op_addA opS_add (pd_var 1) pd_int))))) DL.pa_nil)))
    (ss_cons (s_setLcV (i := 7) rfl nd rfl rfl (sw_true rfl rfl rfl (by decide +kernel)) (i_seq (pd_var 4)) (blkOk_by (own := [("p", 10)]) (by kernel_rfl)) (tg_name 10) (by decide) (fun _ => (pg_nameD nd 10)) (fun _ => (ts_one (DL.pt_cmp (op_inA hu5) (opS_in (neg := false)) (pd_var 10) (pd_var 6) (by rfl)))) (fun _ => (pd_var 10)))
    (ss_cons (s_setV (i := 8) nd rfl (Or.inl rfl) pd_int)
    (ss_cons (s_if (DL.pt_cmp (op_eqD hu) opS_eq (pd_callB callS_len call_len_seq (by rfl) T.b_len PySem.boot_len (pa_b (pd_var 7) DL.pa_nil)) pd_int (by rfl))
    (ss_cons (s_setV (i := 8) nd rfl (Or.inl rfl) (pd_callD C_law_sign tk (by rfl) (pa_b (pd_op op_addA opS_add (pd_var 4) (pd_var 6)) DL.pa_nil)))
    (ss_one (s_if (DL.pt_not (DL.pt_val (pd_callD C_law_room tk (by rfl) (pa_b (pd_callD C_merged tk (by rfl) (pa_b (pd_callTy callS_tuple call_tuple_of (by rfl) T.b_tuple PyProof.Rows.boot_tuple (pa_b (pd_var 4) DL.pa_nil)) (pa_b (pd_callTy callS_tuple call_tuple_of (by rfl) T.b_tuple PyProof.Rows.boot_tuple (pa_b (pd_var 6) DL.pa_nil)) DL.pa_nil))) (pa_b (pd_callB callS_sorted (cr_sortedA hu5) (by rfl) T.b_sorted PyProof.Rows.boot_sorted (pa_b (pd_op op_addA opS_add (pd_var 4) (pd_var 6)) DL.pa_nil)) DL.pa_nil)))))
    (ss_one (s_ret pd_bl)) ss_nil))) ss_nil)
    (ss_cons (s_if (DL.pt_not (DL.pt_val (pd_callD C_law_whole tk (by rfl) (pa_b (pd_callD C_shuffle_sign tk (by rfl) (pa_b (pd_callTy callS_tuple call_tuple_of (by rfl) T.b_tuple PyProof.Rows.boot_tuple (pa_b (pd_var 4) DL.pa_nil)) (pa_b (pd_callTy callS_tuple call_tuple_of (by rfl) T.b_tuple PyProof.Rows.boot_tuple (pa_b (pd_var 6) DL.pa_nil)) DL.pa_nil))) (pa_b (pd_var 8) DL.pa_nil)))))
    (ss_one (s_ret pd_bl)) ss_nil)
    (ss_cons (s_if (DL.pt_not (DL.pt_val (pd_callD C_law_room tk (by rfl) (pa_b (pd_callD C_complement tk (by rfl) (pa_b (pd_var 1) (pa_b (pd_callTy callS_tuple call_tuple_of (by rfl) T.b_tuple PyProof.Rows.boot_tuple (pa_b (pd_var 4) DL.pa_nil)) DL.pa_nil))) (pa_b (pd_comp rfl nd (i_range1 (by rfl) T.b_range (pa_b (pd_var 1) DL.pa_nil)) (blkOk_by (own := [("p", 10)]) (by kernel_rfl)) (tg_name 10) (by decide) (fun _ => (pg_nameD nd 10)) (fun _ => (ts_one (DL.pt_cmp (op_notInA hu5) (opS_in (neg := true)) (pd_var 10) (pd_var 4) (by rfl)))) (fun _ => (pd_var 10))) DL.pa_nil)))))
    (ss_one (s_ret pd_bl)) ss_nil)
    (ss_cons (s_if (DL.pt_not (DL.pt_val (pd_callD C_law_rooms tk (by rfl) (pa_b (pd_callD C_faces tk (by rfl) (pa_b (pd_callTy callS_tuple call_tuple_of (by rfl) T.b_tuple PyProof.Rows.boot_tuple (pa_b (pd_var 4) DL.pa_nil)) DL.pa_nil)) (pa_b (pd_comp rfl nd (i_range1 (by rfl) T.b_range (pa_b (pd_var 3) DL.pa_nil)) (blkOk_by (own := [("k", 11)]) (by kernel_rfl)) (tg_name 11) (by decide) (fun _ => (pg_nameD nd 11)) (fun _ => ts_nil) (fun _ => (pd_op op_addA opS_add (pd_slice (pd_var 4) o_none (o_some (pd_var 11))) (pd_slice (pd_var 4) (o_some (pd_op op_addA opS_add (pd_var 11) pd_int)) o_none)))) DL.pa_nil)))))
    (ss_one (s_ret pd_bl)) ss_nil)
    (ss_cons (s_if (DL.pt_not (DL.pt_val (pd_callD C_law_exchanges tk (by rfl) (pa_b (pd_var 4) (pa_b (pd_var 1) (pa_b (pd_callD C_law_cell tk (by rfl) (pa_b (pd_var 0) (pa_b pd_int DL.pa_nil))) DL.pa_nil))))))
    (ss_one (s_ret pd_bl)) ss_nil)
    (ss_cons (s_setV (i := 9) nd rfl (Or.inl rfl) (pd_callD C_law_items tk (by rfl) (pa_b (pd_callD C_law_cell tk (by rfl) (pa_b (pd_var 0) (pa_b pd_int DL.pa_nil))) (pa_b (pd_op op_mod opS_mod (pd_callTy callS_int call_int1 (by rfl) T.b_int PyProof.Rows.boot_int (pa_b (pd_callD C_law_cell tk (by rfl) (pa_b (pd_var 0) (pa_b pd_int DL.pa_nil))) DL.pa_nil)) pd_int) DL.pa_nil))))
    (ss_cons (s_if (DL.pt_cmp (op_eqD hu) opS_eq (pd_op op_mod opS_mod (pd_callTy callS_int call_int1 (by rfl) T.b_int PyProof.Rows.boot_int (pa_b (pd_callD C_law_cell tk (by rfl) (pa_b (pd_var 0) (pa_b pd_int DL.pa_nil))) DL.pa_nil)) pd_int) pd_int (by rfl))
    (ss_one (s_setV (i := 9) nd rfl (Or.inl rfl) (pd_tupleRg1 T.b_tuple T.b_range (pd_callB callS_len call_len_seq (by rfl) T.b_len PySem.boot_len (pa_b (pd_var 9) DL.pa_nil))))) ss_nil)
    (ss_one (s_ret (pd_callD C_law_subsets_right tk (by rfl) (pa_b (pd_var 9) (pa_b (pd_op op_mod opS_mod (pd_callTy callS_int call_int1 (by rfl) T.b_int PyProof.Rows.boot_int (pa_b (pd_callD C_law_cell tk (by rfl) (pa_b (pd_var 0) (pa_b pd_int DL.pa_nil))) DL.pa_nil)) pd_int) DL.pa_nil)))))))))))))))))))))))
end
end K00
set_option maxHeartbeats 8000000
namespace K00
open PySem L2 DL PyProof.Rows

theorem all_mk {l : PySem.W.OpenLaw} {w : World} {K : PySem.W.Frag} {h : Heap} {mg : Str → Option Value} {fa : Addr} (X : K.In h) (G : h.Ns mainGlobals mg) (hfa : mg "law" = some (.ref fa))
    {f0 : Addr} {od0 an0 : Option Addr} {sl0 : Array (Option Value)} {oc0 kV0 dc0 pm0 cd0 ct0 : Value}
    (a0 : PySem.W.nsIn K mainGlobals "faces" = some (some (.ref f0))) (l0 : K.lookup f0 = some ⟨oc0, od0, .func (PySem.W.fnOf "faces" "faces" (defArgs s_faces) (defBody s_faces) (defScope s_faces) .none kV0 dc0 pm0 an0 cd0 ct0), sl0⟩) (c0 : PySem.W.codeIn K cd0 "faces" = true) (k0 : PySem.W.keepIn K (.ref f0) = true)
    {f1 : Addr} {od1 an1 : Option Addr} {sl1 : Array (Option Value)} {oc1 kV1 dc1 pm1 cd1 ct1 : Value}
    (a1 : PySem.W.nsIn K mainGlobals "without" = some (some (.ref f1))) (l1 : K.lookup f1 = some ⟨oc1, od1, .func (PySem.W.fnOf "without" "without" (defArgs s_without) (defBody s_without) (defScope s_without) .none kV1 dc1 pm1 an1 cd1 ct1), sl1⟩) (c1 : PySem.W.codeIn K cd1 "without" = true) (k1 : PySem.W.keepIn K (.ref f1) = true)
    {f2 : Addr} {od2 an2 : Option Addr} {sl2 : Array (Option Value)} {oc2 kV2 dc2 pm2 cd2 ct2 : Value}
    (a2 : PySem.W.nsIn K mainGlobals "exchanged" = some (some (.ref f2))) (l2 : K.lookup f2 = some ⟨oc2, od2, .func (PySem.W.fnOf "exchanged" "exchanged" (defArgs s_exchanged) (defBody s_exchanged) (defScope s_exchanged) .none kV2 dc2 pm2 an2 cd2 ct2), sl2⟩) (c2 : PySem.W.codeIn K cd2 "exchanged" = true) (k2 : PySem.W.keepIn K (.ref f2) = true)
    {f3 : Addr} {od3 an3 : Option Addr} {sl3 : Array (Option Value)} {oc3 kV3 dc3 pm3 cd3 ct3 : Value}
    (a3 : PySem.W.nsIn K mainGlobals "merged" = some (some (.ref f3))) (l3 : K.lookup f3 = some ⟨oc3, od3, .func (PySem.W.fnOf "merged" "merged" (defArgs s_merged) (defBody s_merged) (defScope s_merged) .none kV3 dc3 pm3 an3 cd3 ct3), sl3⟩) (c3 : PySem.W.codeIn K cd3 "merged" = true) (k3 : PySem.W.keepIn K (.ref f3) = true)
    {f4 : Addr} {od4 an4 : Option Addr} {sl4 : Array (Option Value)} {oc4 kV4 dc4 pm4 cd4 ct4 : Value}
    (a4 : PySem.W.nsIn K mainGlobals "complement" = some (some (.ref f4))) (l4 : K.lookup f4 = some ⟨oc4, od4, .func (PySem.W.fnOf "complement" "complement" (defArgs s_complement) (defBody s_complement) (defScope s_complement) .none kV4 dc4 pm4 an4 cd4 ct4), sl4⟩) (c4 : PySem.W.codeIn K cd4 "complement" = true) (k4 : PySem.W.keepIn K (.ref f4) = true)
    {f5 : Addr} {od5 an5 : Option Addr} {sl5 : Array (Option Value)} {oc5 kV5 dc5 pm5 cd5 ct5 : Value}
    (a5 : PySem.W.nsIn K mainGlobals "subsets" = some (some (.ref f5))) (l5 : K.lookup f5 = some ⟨oc5, od5, .func (PySem.W.fnOf "subsets" "subsets" (defArgs s_subsets) (defBody s_subsets) (defScope s_subsets) .none kV5 dc5 pm5 an5 cd5 ct5), sl5⟩) (c5 : PySem.W.codeIn K cd5 "subsets" = true) (k5 : PySem.W.keepIn K (.ref f5) = true)
    {f6 : Addr} {od6 an6 : Option Addr} {sl6 : Array (Option Value)} {oc6 kV6 dc6 pm6 cd6 ct6 : Value}
    (a6 : PySem.W.nsIn K mainGlobals "order_sign" = some (some (.ref f6))) (l6 : K.lookup f6 = some ⟨oc6, od6, .func (PySem.W.fnOf "order_sign" "order_sign" (defArgs s_order_sign) (defBody s_order_sign) (defScope s_order_sign) .none kV6 dc6 pm6 an6 cd6 ct6), sl6⟩) (c6 : PySem.W.codeIn K cd6 "order_sign" = true) (k6 : PySem.W.keepIn K (.ref f6) = true)
    {f7 : Addr} {od7 an7 : Option Addr} {sl7 : Array (Option Value)} {oc7 kV7 dc7 pm7 cd7 ct7 : Value}
    (a7 : PySem.W.nsIn K mainGlobals "shuffle_sign" = some (some (.ref f7))) (l7 : K.lookup f7 = some ⟨oc7, od7, .func (PySem.W.fnOf "shuffle_sign" "shuffle_sign" (defArgs s_shuffle_sign) (defBody s_shuffle_sign) (defScope s_shuffle_sign) .none kV7 dc7 pm7 an7 cd7 ct7), sl7⟩) (c7 : PySem.W.codeIn K cd7 "shuffle_sign" = true) (k7 : PySem.W.keepIn K (.ref f7) = true)
    {f8 : Addr} {od8 an8 : Option Addr} {sl8 : Array (Option Value)} {oc8 kV8 dc8 pm8 cd8 ct8 : Value}
    (a8 : PySem.W.nsIn K mainGlobals "room_fault" = some (some (.ref f8))) (l8 : K.lookup f8 = some ⟨oc8, od8, .func (PySem.W.fnOf "room_fault" "room_fault" (defArgs s_room_fault) (defBody s_room_fault) (defScope s_room_fault) .none kV8 dc8 pm8 an8 cd8 ct8), sl8⟩) (c8 : PySem.W.codeIn K cd8 "room_fault" = true) (k8 : PySem.W.keepIn K (.ref f8) = true)
    {f9 : Addr} {od9 an9 : Option Addr} {sl9 : Array (Option Value)} {oc9 kV9 dc9 pm9 cd9 ct9 : Value}
    (a9 : PySem.W.nsIn K mainGlobals "_law_cell" = some (some (.ref f9))) (l9 : K.lookup f9 = some ⟨oc9, od9, .func (PySem.W.fnOf "_law_cell" "_law_cell" (defArgs s_law_cell) (defBody s_law_cell) (defScope s_law_cell) .none kV9 dc9 pm9 an9 cd9 ct9), sl9⟩) (c9 : PySem.W.codeIn K cd9 "_law_cell" = true) (k9 : PySem.W.keepIn K (.ref f9) = true)
    {f10 : Addr} {od10 an10 : Option Addr} {sl10 : Array (Option Value)} {oc10 kV10 dc10 pm10 cd10 ct10 : Value}
    (a10 : PySem.W.nsIn K mainGlobals "_law_order" = some (some (.ref f10))) (l10 : K.lookup f10 = some ⟨oc10, od10, .func (PySem.W.fnOf "_law_order" "_law_order" (defArgs s_law_order) (defBody s_law_order) (defScope s_law_order) .none kV10 dc10 pm10 an10 cd10 ct10), sl10⟩) (c10 : PySem.W.codeIn K cd10 "_law_order" = true) (k10 : PySem.W.keepIn K (.ref f10) = true)
    {f11 : Addr} {od11 an11 : Option Addr} {sl11 : Array (Option Value)} {oc11 kV11 dc11 pm11 cd11 ct11 : Value}
    (a11 : PySem.W.nsIn K mainGlobals "_law_sign" = some (some (.ref f11))) (l11 : K.lookup f11 = some ⟨oc11, od11, .func (PySem.W.fnOf "_law_sign" "_law_sign" (defArgs s_law_sign) (defBody s_law_sign) (defScope s_law_sign) .none kV11 dc11 pm11 an11 cd11 ct11), sl11⟩) (c11 : PySem.W.codeIn K cd11 "_law_sign" = true) (k11 : PySem.W.keepIn K (.ref f11) = true)
    {f12 : Addr} {od12 an12 : Option Addr} {sl12 : Array (Option Value)} {oc12 kV12 dc12 pm12 cd12 ct12 : Value}
    (a12 : PySem.W.nsIn K mainGlobals "_law_whole" = some (some (.ref f12))) (l12 : K.lookup f12 = some ⟨oc12, od12, .func (PySem.W.fnOf "_law_whole" "_law_whole" (defArgs s_law_whole) (defBody s_law_whole) (defScope s_law_whole) .none kV12 dc12 pm12 an12 cd12 ct12), sl12⟩) (c12 : PySem.W.codeIn K cd12 "_law_whole" = true) (k12 : PySem.W.keepIn K (.ref f12) = true)
    {f13 : Addr} {od13 an13 : Option Addr} {sl13 : Array (Option Value)} {oc13 kV13 dc13 pm13 cd13 ct13 : Value}
    (a13 : PySem.W.nsIn K mainGlobals "_law_room" = some (some (.ref f13))) (l13 : K.lookup f13 = some ⟨oc13, od13, .func (PySem.W.fnOf "_law_room" "_law_room" (defArgs s_law_room) (defBody s_law_room) (defScope s_law_room) .none kV13 dc13 pm13 an13 cd13 ct13), sl13⟩) (c13 : PySem.W.codeIn K cd13 "_law_room" = true) (k13 : PySem.W.keepIn K (.ref f13) = true)
    {f14 : Addr} {od14 an14 : Option Addr} {sl14 : Array (Option Value)} {oc14 kV14 dc14 pm14 cd14 ct14 : Value}
    (a14 : PySem.W.nsIn K mainGlobals "_law_rooms" = some (some (.ref f14))) (l14 : K.lookup f14 = some ⟨oc14, od14, .func (PySem.W.fnOf "_law_rooms" "_law_rooms" (defArgs s_law_rooms) (defBody s_law_rooms) (defScope s_law_rooms) .none kV14 dc14 pm14 an14 cd14 ct14), sl14⟩) (c14 : PySem.W.codeIn K cd14 "_law_rooms" = true) (k14 : PySem.W.keepIn K (.ref f14) = true)
    {f15 : Addr} {od15 an15 : Option Addr} {sl15 : Array (Option Value)} {oc15 kV15 dc15 pm15 cd15 ct15 : Value}
    (a15 : PySem.W.nsIn K mainGlobals "_law_many" = some (some (.ref f15))) (l15 : K.lookup f15 = some ⟨oc15, od15, .func (PySem.W.fnOf "_law_many" "_law_many" (defArgs s_law_many) (defBody s_law_many) (defScope s_law_many) .none kV15 dc15 pm15 an15 cd15 ct15), sl15⟩) (c15 : PySem.W.codeIn K cd15 "_law_many" = true) (k15 : PySem.W.keepIn K (.ref f15) = true)
    {f16 : Addr} {od16 an16 : Option Addr} {sl16 : Array (Option Value)} {oc16 kV16 dc16 pm16 cd16 ct16 : Value}
    (a16 : PySem.W.nsIn K mainGlobals "_law_items" = some (some (.ref f16))) (l16 : K.lookup f16 = some ⟨oc16, od16, .func (PySem.W.fnOf "_law_items" "_law_items" (defArgs s_law_items) (defBody s_law_items) (defScope s_law_items) .none kV16 dc16 pm16 an16 cd16 ct16), sl16⟩) (c16 : PySem.W.codeIn K cd16 "_law_items" = true) (k16 : PySem.W.keepIn K (.ref f16) = true)
    {f17 : Addr} {od17 an17 : Option Addr} {sl17 : Array (Option Value)} {oc17 kV17 dc17 pm17 cd17 ct17 : Value}
    (a17 : PySem.W.nsIn K mainGlobals "_law_subsets_right" = some (some (.ref f17))) (l17 : K.lookup f17 = some ⟨oc17, od17, .func (PySem.W.fnOf "_law_subsets_right" "_law_subsets_right" (defArgs s_law_subsets_right) (defBody s_law_subsets_right) (defScope s_law_subsets_right) .none kV17 dc17 pm17 an17 cd17 ct17), sl17⟩) (c17 : PySem.W.codeIn K cd17 "_law_subsets_right" = true) (k17 : PySem.W.keepIn K (.ref f17) = true)
    {f18 : Addr} {od18 an18 : Option Addr} {sl18 : Array (Option Value)} {oc18 kV18 dc18 pm18 cd18 ct18 : Value}
    (a18 : PySem.W.nsIn K mainGlobals "_law_exchanges" = some (some (.ref f18))) (l18 : K.lookup f18 = some ⟨oc18, od18, .func (PySem.W.fnOf "_law_exchanges" "_law_exchanges" (defArgs s_law_exchanges) (defBody s_law_exchanges) (defScope s_law_exchanges) .none kV18 dc18 pm18 an18 cd18 ct18), sl18⟩) (c18 : PySem.W.codeIn K cd18 "_law_exchanges" = true) (k18 : PySem.W.keepIn K (.ref f18) = true)
    {f19 : Addr} {od19 an19 : Option Addr} {sl19 : Array (Option Value)} {oc19 kV19 dc19 pm19 cd19 ct19 : Value}
    (a19 : PySem.W.nsIn K mainGlobals "_law_long" = some (some (.ref f19))) (l19 : K.lookup f19 = some ⟨oc19, od19, .func (PySem.W.fnOf "_law_long" "_law_long" (defArgs s_law_long) (defBody s_law_long) (defScope s_law_long) .none kV19 dc19 pm19 an19 cd19 ct19), sl19⟩) (c19 : PySem.W.codeIn K cd19 "_law_long" = true) (k19 : PySem.W.keepIn K (.ref f19) = true)
    {f20 : Addr} {od20 an20 : Option Addr} {sl20 : Array (Option Value)} {oc20 kV20 dc20 pm20 cd20 ct20 : Value}
    (a20 : PySem.W.nsIn K mainGlobals "_law_long_right" = some (some (.ref f20))) (l20 : K.lookup f20 = some ⟨oc20, od20, .func (PySem.W.fnOf "_law_long_right" "_law_long_right" (defArgs s_law_long_right) (defBody s_law_long_right) (defScope s_law_long_right) .none kV20 dc20 pm20 an20 cd20 ct20), sl20⟩) (c20 : PySem.W.codeIn K cd20 "_law_long_right" = true) (k20 : PySem.W.keepIn K (.ref f20) = true)
    {f21 : Addr} {od21 an21 : Option Addr} {sl21 : Array (Option Value)} {oc21 kV21 dc21 pm21 cd21 ct21 : Value}
    (a21 : PySem.W.nsIn K mainGlobals "_law_fault" = some (some (.ref f21))) (l21 : K.lookup f21 = some ⟨oc21, od21, .func (PySem.W.fnOf "_law_fault" "_law_fault" (defArgs s_law_fault) (defBody s_law_fault) (defScope s_law_fault) .none kV21 dc21 pm21 an21 cd21 ct21), sl21⟩) (c21 : PySem.W.codeIn K cd21 "_law_fault" = true) (k21 : PySem.W.keepIn K (.ref f21) = true)
    {f22 : Addr} {od22 an22 : Option Addr} {sl22 : Array (Option Value)} {oc22 kV22 dc22 pm22 cd22 ct22 : Value}
    (a22 : PySem.W.nsIn K mainGlobals "_law_faults_right" = some (some (.ref f22))) (l22 : K.lookup f22 = some ⟨oc22, od22, .func (PySem.W.fnOf "_law_faults_right" "_law_faults_right" (defArgs s_law_faults_right) (defBody s_law_faults_right) (defScope s_law_faults_right) .none kV22 dc22 pm22 an22 cd22 ct22), sl22⟩) (c22 : PySem.W.codeIn K cd22 "_law_faults_right" = true) (k22 : PySem.W.keepIn K (.ref f22) = true)
    {f23 : Addr} {od23 an23 : Option Addr} {sl23 : Array (Option Value)} {oc23 kV23 dc23 pm23 cd23 ct23 : Value}
    (a23 : PySem.W.nsIn K mainGlobals "law" = some (some (.ref f23))) (l23 : K.lookup f23 = some ⟨oc23, od23, .func (PySem.W.fnOf "law" "law" (defArgs s_law) (defBody s_law) (defScope s_law) .none kV23 dc23 pm23 an23 cd23 ct23), sl23⟩) (c23 : PySem.W.codeIn K cd23 "law" = true) (k23 : PySem.W.keepIn K (.ref f23) = true)
    (z_abs : PySem.W.nsIn K mainGlobals "abs" = some none)
    (z_bool : PySem.W.nsIn K mainGlobals "bool" = some none)
    (z_int : PySem.W.nsIn K mainGlobals "int" = some none)
    (z_isinstance : PySem.W.nsIn K mainGlobals "isinstance" = some none)
    (z_len : PySem.W.nsIn K mainGlobals "len" = some none)
    (z_list : PySem.W.nsIn K mainGlobals "list" = some none)
    (z_range : PySem.W.nsIn K mainGlobals "range" = some none)
    (z_set : PySem.W.nsIn K mainGlobals "set" = some none)
    (z_sorted : PySem.W.nsIn K mainGlobals "sorted" = some none)
    (z_str : PySem.W.nsIn K mainGlobals "str" = some none)
    (z_tuple : PySem.W.nsIn K mainGlobals "tuple" = some none)
    : ∃ fd : FuncData, (∀ (s : Shared) (v : Value), BindsTo s fd ⟨[v], []⟩ [("script", v)]) ∧ ∀ base : Heap, K.In base → base.Ns mainGlobals mg → FnD l.prog w K mg base 17 fa fd ["script"] [false] m_law := by
  have T : Tx mg := ⟨PySem.W.mg_none_of X G z_abs, PySem.W.mg_none_of X G z_bool, PySem.W.mg_none_of X G z_int, PySem.W.mg_none_of X G z_isinstance, PySem.W.mg_none_of X G z_len, PySem.W.mg_none_of X G z_list, PySem.W.mg_none_of X G z_range, PySem.W.mg_none_of X G z_set, PySem.W.mg_none_of X G z_sorted, PySem.W.mg_none_of X G z_str, PySem.W.mg_none_of X G z_tuple⟩
  have e := hfa.symm.trans (PySem.W.mg_of X G a23)
  cases e
  have F0 := fun_mk (st := s_faces) l0 c0 k0
  have b0 := F0.binds (ps := ["room"]) fun _ _ _ _ _ _ us hl => match us, hl with | [_], _ => rfl
  have F1 := fun_mk (st := s_without) l1 c1 k1
  have b1 := F1.binds (ps := ["room", "place"]) fun _ _ _ _ _ _ us hl => match us, hl with | [_, _], _ => rfl
  have F2 := fun_mk (st := s_exchanged) l2 c2 k2
  have b2 := F2.binds (ps := ["room", "leaving", "entering"]) fun _ _ _ _ _ _ us hl => match us, hl with | [_, _, _], _ => rfl
  have F3 := fun_mk (st := s_merged) l3 c3 k3
  have b3 := F3.binds (ps := ["first", "second"]) fun _ _ _ _ _ _ us hl => match us, hl with | [_, _], _ => rfl
  have F4 := fun_mk (st := s_complement) l4 c4 k4
  have b4 := F4.binds (ps := ["places", "room"]) fun _ _ _ _ _ _ us hl => match us, hl with | [_, _], _ => rfl
  have F5 := fun_mk (st := s_subsets) l5 c5 k5
  have b5 := F5.binds (ps := ["items", "size"]) fun _ _ _ _ _ _ us hl => match us, hl with | [_, _], _ => rfl
  have F6 := fun_mk (st := s_order_sign) l6 c6 k6
  have b6 := F6.binds (ps := ["row"]) fun _ _ _ _ _ _ us hl => match us, hl with | [_], _ => rfl
  have F7 := fun_mk (st := s_shuffle_sign) l7 c7 k7
  have b7 := F7.binds (ps := ["first", "second"]) fun _ _ _ _ _ _ us hl => match us, hl with | [_, _], _ => rfl
  have F8 := fun_mk (st := s_room_fault) l8 c8 k8
  have b8 := F8.binds (ps := ["places", "size", "room"]) fun _ _ _ _ _ _ us hl => match us, hl with | [_, _, _], _ => rfl
  have F9 := fun_mk (st := s_law_cell) l9 c9 k9
  have b9 := F9.binds (ps := ["script", "k"]) fun _ _ _ _ _ _ us hl => match us, hl with | [_, _], _ => rfl
  have F10 := fun_mk (st := s_law_order) l10 c10 k10
  have b10 := F10.binds (ps := ["cell", "n"]) fun _ _ _ _ _ _ us hl => match us, hl with | [_, _], _ => rfl
  have F11 := fun_mk (st := s_law_sign) l11 c11 k11
  have b11 := F11.binds (ps := ["row"]) fun _ _ _ _ _ _ us hl => match us, hl with | [_], _ => rfl
  have F12 := fun_mk (st := s_law_whole) l12 c12 k12
  have b12 := F12.binds (ps := ["actual", "due"]) fun _ _ _ _ _ _ us hl => match us, hl with | [_, _], _ => rfl
  have F13 := fun_mk (st := s_law_room) l13 c13 k13
  have b13 := F13.binds (ps := ["actual", "due"]) fun _ _ _ _ _ _ us hl => match us, hl with | [_, _], _ => rfl
  have F14 := fun_mk (st := s_law_rooms) l14 c14 k14
  have b14 := F14.binds (ps := ["actual", "due"]) fun _ _ _ _ _ _ us hl => match us, hl with | [_, _], _ => rfl
  have F15 := fun_mk (st := s_law_many) l15 c15 k15
  have b15 := F15.binds (ps := ["n", "k"]) fun _ _ _ _ _ _ us hl => match us, hl with | [_, _], _ => rfl
  have F16 := fun_mk (st := s_law_items) l16 c16 k16
  have b16 := F16.binds (ps := ["cell", "many"]) fun _ _ _ _ _ _ us hl => match us, hl with | [_, _], _ => rfl
  have F17 := fun_mk (st := s_law_subsets_right) l17 c17 k17
  have b17 := F17.binds (ps := ["items", "k"]) fun _ _ _ _ _ _ us hl => match us, hl with | [_, _], _ => rfl
  have F18 := fun_mk (st := s_law_exchanges) l18 c18 k18
  have b18 := F18.binds (ps := ["room", "n", "cell"]) fun _ _ _ _ _ _ us hl => match us, hl with | [_, _, _], _ => rfl
  have F19 := fun_mk (st := s_law_long) l19 c19 k19
  have b19 := F19.binds (ps := ["cell", "other"]) fun _ _ _ _ _ _ us hl => match us, hl with | [_, _], _ => rfl
  have F20 := fun_mk (st := s_law_long_right) l20 c20 k20
  have b20 := F20.binds (ps := ["row"]) fun _ _ _ _ _ _ us hl => match us, hl with | [_], _ => rfl
  have F21 := fun_mk (st := s_law_fault) l21 c21 k21
  have b21 := F21.binds (ps := ["places", "size", "room"]) fun _ _ _ _ _ _ us hl => match us, hl with | [_, _, _], _ => rfl
  have F22 := fun_mk (st := s_law_faults_right) l22 c22 k22
  have b22 := F22.binds (ps := ["script", "n", "row"]) fun _ _ _ _ _ _ us hl => match us, hl with | [_, _, _], _ => rfl
  have F23 := fun_mk (st := s_law) l23 c23 k23
  have b23 := F23.binds (ps := ["script"]) fun _ _ _ _ _ _ us hl => match us, hl with | [_], _ => rfl
  refine ⟨PySem.W.fnOf "law" "law" (defArgs s_law) (defBody s_law) (defScope s_law) .none kV23 dc23 pm23 an23 cd23 ct23, fun s v => .of_eq rfl, fun base _ _ => ?_⟩
  have C_faces : CalD l.prog w K mg base 1 "faces" [false] m_faces := ok_faces F0 (PySem.W.mg_of X G a0) b0 T 
  have C_without : CalD l.prog w K mg base 1 "without" [false, false] m_without := ok_without F1 (PySem.W.mg_of X G a1) b1 T 
  have C_exchanged : CalD l.prog w K mg base 1 "exchanged" [false, false, false] m_exchanged := ok_exchanged F2 (PySem.W.mg_of X G a2) b2 T 
  have C_merged : CalD l.prog w K mg base 1 "merged" [false, false] m_merged := ok_merged F3 (PySem.W.mg_of X G a3) b3 T 
  have C_complement : CalD l.prog w K mg base 1 "complement" [false, false] m_complement := ok_complement F4 (PySem.W.mg_of X G a4) b4 T 
  have C_subsets : CalD l.prog w K mg base 15 "subsets" [false, false] m_subsets := ok_subsets F5 (PySem.W.mg_of X G a5) b5 T  14
  have C_order_sign : CalD l.prog w K mg base 1 "order_sign" [false] m_order_sign := ok_order_sign F6 (PySem.W.mg_of X G a6) b6 T 
  have C_shuffle_sign : CalD l.prog w K mg base 1 "shuffle_sign" [false, false] m_shuffle_sign := ok_shuffle_sign F7 (PySem.W.mg_of X G a7) b7 T 
  have C_room_fault : CalD l.prog w K mg base 1 "room_fault" [false, false, false] m_room_fault := ok_room_fault F8 (PySem.W.mg_of X G a8) b8 T 
  have C_law_cell : CalD l.prog w K mg base 1 "_law_cell" [false, false] m_law_cell := ok_law_cell F9 (PySem.W.mg_of X G a9) b9 T 
  have C_law_order : CalD l.prog w K mg base 1 "_law_order" [false, false] m_law_order := ok_law_order F10 (PySem.W.mg_of X G a10) b10 T 
  have C_law_sign : CalD l.prog w K mg base 1 "_law_sign" [false] m_law_sign := ok_law_sign F11 (PySem.W.mg_of X G a11) b11 T 
  have C_law_whole : CalD l.prog w K mg base 1 "_law_whole" [false, false] m_law_whole := ok_law_whole F12 (PySem.W.mg_of X G a12) b12 T 
  have C_law_room : CalD l.prog w K mg base 2 "_law_room" [false, false] m_law_room := ok_law_room F13 (PySem.W.mg_of X G a13) b13 T C_law_whole
  have C_law_rooms : CalD l.prog w K mg base 3 "_law_rooms" [false, false] m_law_rooms := ok_law_rooms F14 (PySem.W.mg_of X G a14) b14 T C_law_room
  have C_law_many : CalD l.prog w K mg base 1 "_law_many" [false, false] m_law_many := ok_law_many F15 (PySem.W.mg_of X G a15) b15 T 
  have C_law_items : CalD l.prog w K mg base 1 "_law_items" [false, false] m_law_items := ok_law_items F16 (PySem.W.mg_of X G a16) b16 T 
  have C_law_subsets_right : CalD l.prog w K mg base 16 "_law_subsets_right" [false, false] m_law_subsets_right := ok_law_subsets_right F17 (PySem.W.mg_of X G a17) b17 T C_law_many C_subsets
  have C_law_exchanges : CalD l.prog w K mg base 3 "_law_exchanges" [false, false, false] m_law_exchanges := ok_law_exchanges F18 (PySem.W.mg_of X G a18) b18 T C_law_room C_exchanged C_without
  have C_law_long : CalD l.prog w K mg base 2 "_law_long" [false, false] m_law_long := ok_law_long F19 (PySem.W.mg_of X G a19) b19 T C_law_order
  have C_law_long_right : CalD l.prog w K mg base 2 "_law_long_right" [false] m_law_long_right := ok_law_long_right F20 (PySem.W.mg_of X G a20) b20 T C_law_sign C_law_whole C_order_sign
  have C_law_fault : CalD l.prog w K mg base 1 "_law_fault" [false, false, false] m_law_fault := ok_law_fault F21 (PySem.W.mg_of X G a21) b21 T 
  have C_law_faults_right : CalD l.prog w K mg base 2 "_law_faults_right" [false, false, false] m_law_faults_right := ok_law_faults_right F22 (PySem.W.mg_of X G a22) b22 T C_law_cell C_law_fault C_room_fault
  exact ok_law F23 T C_law_cell C_law_exchanges C_law_faults_right C_law_items C_law_long C_law_long_right C_law_order C_law_room C_law_rooms C_law_sign C_law_subsets_right C_law_whole C_complement C_faces C_merged C_shuffle_sign
end K00

open PySem PySem.W PyProof.Rows in
set_option maxRecDepth 100000 in
set_option maxHeartbeats 0 in
theorem PySem.Challenge.cw_oppositesmeet_k00_rooms_and_their_signs_holds : PySem.Challenge.rw_oppositesmeet_k00_rooms_and_their_signs.Holds := by
  w_on; o_law; k_head; (case hw => w_witness2)
  k_fill
  refine DL.walk_d (l := PySem.Challenge.rw_oppositesmeet_k00_rooms_and_their_signs) (k := 17) (m := K00.m_law) rfl rfl ⟨rfl, by decide, by decide⟩ (fun w h Y => PySem.W.kIn_of Y) ?F K00.main
  case F =>
    intro w mg fa h KX G hmg
    refine' K00.all_mk KX G hmg ?a0 ?l0 ?c0 ?k0 ?a1 ?l1 ?c1 ?k1 ?a2 ?l2 ?c2 ?k2 ?a3 ?l3 ?c3 ?k3 ?a4 ?l4 ?c4 ?k4 ?a5 ?l5 ?c5 ?k5 ?a6 ?l6 ?c6 ?k6 ?a7 ?l7 ?c7 ?k7 ?a8 ?l8 ?c8 ?k8 ?a9 ?l9 ?c9 ?k9 ?a10 ?l10 ?c10 ?k10 ?a11 ?l11 ?c11 ?k11 ?a12 ?l12 ?c12 ?k12 ?a13 ?l13 ?c13 ?k13 ?a14 ?l14 ?c14 ?k14 ?a15 ?l15 ?c15 ?k15 ?a16 ?l16 ?c16 ?k16 ?a17 ?l17 ?c17 ?k17 ?a18 ?l18 ?c18 ?k18 ?a19 ?l19 ?c19 ?k19 ?a20 ?l20 ?c20 ?k20 ?a21 ?l21 ?c21 ?k21 ?a22 ?l22 ?c22 ?k22 ?a23 ?l23 ?c23 ?k23 ?z_abs ?z_bool ?z_int ?z_isinstance ?z_len ?z_list ?z_range ?z_set ?z_sorted ?z_str ?z_tuple
    (case a0 => k_is)
    (case l0 => k_is)
    (case c0 => k_is)
    (case k0 => k_is)
    (case a1 => k_is)
    (case l1 => k_is)
    (case c1 => k_is)
    (case k1 => k_is)
    (case a2 => k_is)
    (case l2 => k_is)
    (case c2 => k_is)
    (case k2 => k_is)
    (case a3 => k_is)
    (case l3 => k_is)
    (case c3 => k_is)
    (case k3 => k_is)
    (case a4 => k_is)
    (case l4 => k_is)
    (case c4 => k_is)
    (case k4 => k_is)
    (case a5 => k_is)
    (case l5 => k_is)
    (case c5 => k_is)
    (case k5 => k_is)
    (case a6 => k_is)
    (case l6 => k_is)
    (case c6 => k_is)
    (case k6 => k_is)
    (case a7 => k_is)
    (case l7 => k_is)
    (case c7 => k_is)
    (case k7 => k_is)
    (case a8 => k_is)
    (case l8 => k_is)
    (case c8 => k_is)
    (case k8 => k_is)
    (case a9 => k_is)
    (case l9 => k_is)
    (case c9 => k_is)
    (case k9 => k_is)
    (case a10 => k_is)
    (case l10 => k_is)
    (case c10 => k_is)
    (case k10 => k_is)
    (case a11 => k_is)
    (case l11 => k_is)
    (case c11 => k_is)
    (case k11 => k_is)
    (case a12 => k_is)
    (case l12 => k_is)
    (case c12 => k_is)
    (case k12 => k_is)
    (case a13 => k_is)
    (case l13 => k_is)
    (case c13 => k_is)
    (case k13 => k_is)
    (case a14 => k_is)
    (case l14 => k_is)
    (case c14 => k_is)
    (case k14 => k_is)
    (case a15 => k_is)
    (case l15 => k_is)
    (case c15 => k_is)
    (case k15 => k_is)
    (case a16 => k_is)
    (case l16 => k_is)
    (case c16 => k_is)
    (case k16 => k_is)
    (case a17 => k_is)
    (case l17 => k_is)
    (case c17 => k_is)
    (case k17 => k_is)
    (case a18 => k_is)
    (case l18 => k_is)
    (case c18 => k_is)
    (case k18 => k_is)
    (case a19 => k_is)
    (case l19 => k_is)
    (case c19 => k_is)
    (case k19 => k_is)
    (case a20 => k_is)
    (case l20 => k_is)
    (case c20 => k_is)
    (case k20 => k_is)
    (case a21 => k_is)
    (case l21 => k_is)
    (case c21 => k_is)
    (case k21 => k_is)
    (case a22 => k_is)
    (case l22 => k_is)
    (case c22 => k_is)
    (case k22 => k_is)
    (case a23 => k_is)
    (case l23 => k_is)
    (case c23 => k_is)
    (case k23 => k_is)
    (case z_abs => k_is)
    (case z_bool => k_is)
    (case z_int => k_is)
    (case z_isinstance => k_is)
    (case z_len => k_is)
    (case z_list => k_is)
    (case z_range => k_is)
    (case z_set => k_is)
    (case z_sorted => k_is)
    (case z_str => k_is)
    (case z_tuple => k_is)