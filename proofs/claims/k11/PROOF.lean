import PyProof.Rows.All
import Wide.All
import OpenK.AllK
import Wide.FinOn
import HandS.ForMost
import HandS.IsInst
import HandS.Deep
import KE.LtData
import HandS.Iter
import HandS.Star
import HandS.Zip
import HandS.TupAny
import KE.SortKeyHeap
import KE.GoesEnum
import HandS.NoneIn
import HandS.New
import PyProof.ReprRoads
import KE.KDictKeyed
import HandS.DictComp
import KE.KDictDisplayH
import KE.KDictWalk
import KE.KDictSum
import PyProof.ReprBulk
import PySem.Challenge.RW_roadheld_k11_whole_controls_and_after
set_option Elab.async false
set_option linter.all false
set_option maxRecDepth 100000
set_option maxHeartbeats 1000000
/-! the data layer, part a: data, how it lies in the heap -/
namespace RH
open PySem PySem.Spec PyProof.Rows L2

/-- data without addresses -/
inductive D where
  | non | bl (b : Bool) | int (i : Int) | str (x : Str)
  | lst (l : List D) | tup (l : List D)
  | dic (l : List (Key × D))
  | obj (C : Addr) (fs : List (Str × D))
mutual
def RD (K : PySem.W.Frag) (B : Hp) : D → V → Prop
  | .non, v => v = .non
  | .bl b, v => v = .bl b
  | .int i, v => v = .int i
  | .str x, v => v = .str x
  | .lst l, v => ∃ a vs, v = .ref a ∧ B a = some (.lst vs) ∧ RDs K B l vs
  | .tup l, v => ∃ a vs, v = .ref a ∧ SqT K B a vs ∧ RDs K B l vs
  | .dic l, v => ∃ a kvs, v = .ref a ∧ B a = some (.dK kvs) ∧ RDk K B l kvs
  | .obj C fs, v => ∃ a dx gs, v = .ref a ∧ B a = some (.ins C dx gs) ∧ RDf K B fs gs
def RDs (K : PySem.W.Frag) (B : Hp) : List D → List V → Prop
  | [], vs => vs = []
  | d :: l, vs => ∃ v r, vs = v :: r ∧ RD K B d v ∧ RDs K B l r
def RDk (K : PySem.W.Frag) (B : Hp) : List (Key × D) → List (Key × V) → Prop
  | [], vs => vs = []
  | (k, d) :: l, vs => ∃ v r, vs = (k, v) :: r ∧ RD K B d v ∧ RDk K B l r
def RDf (K : PySem.W.Frag) (B : Hp) : List (Str × D) → List (Str × V) → Prop
  | [], vs => vs = []
  | (k, d) :: l, vs => ∃ v r, vs = (k, v) :: r ∧ RD K B d v ∧ RDf K B l r
end
section
variable {K : PySem.W.Frag} {B B' : Hp}
theorem sameT {a : Addr} {xs : List V} (e : Same B B') (h : SqT K B a xs) : SqT K B' a xs := by
  rcases h with (h | ⟨o, h⟩) | h
  · exact .inl (.inl (e _ _ h))
  · exact .inl (.inr ⟨o, e _ _ h⟩)
  · exact .inr h
mutual
theorem RD.mono (e : Same B B') : ∀ (d : D) (v : V), RD K B d v → RD K B' d v
  | .non, _, h => h
  | .bl _, _, h => h
  | .int _, _, h => h
  | .str _, _, h => h
  | .lst l, _, ⟨a, vs, h1, h2, h3⟩ => ⟨a, vs, h1, e _ _ h2, RDs.mono e l vs h3⟩
  | .tup l, _, ⟨a, vs, h1, h2, h3⟩ => ⟨a, vs, h1, sameT e h2, RDs.mono e l vs h3⟩
  | .dic l, _, ⟨a, vs, h1, h2, h3⟩ => ⟨a, vs, h1, e _ _ h2, RDk.mono e l vs h3⟩
  | .obj C l, _, ⟨a, dx, vs, h1, h2, h3⟩ => ⟨a, dx, vs, h1, e _ _ h2, RDf.mono e l vs h3⟩
theorem RDs.mono (e : Same B B') : ∀ (l : List D) (vs : List V), RDs K B l vs → RDs K B' l vs
  | [], _, h => h
  | d :: l, _, ⟨v, r, h1, h2, h3⟩ => ⟨v, r, h1, RD.mono e d v h2, RDs.mono e l r h3⟩
theorem RDk.mono (e : Same B B') : ∀ (l : List (Key × D)) (vs : List (Key × V)), RDk K B l vs → RDk K B' l vs
  | [], _, h => h
  | (k, d) :: l, _, ⟨v, r, h1, h2, h3⟩ => ⟨v, r, h1, RD.mono e d v h2, RDk.mono e l r h3⟩
theorem RDf.mono (e : Same B B') : ∀ (l : List (Str × D)) (vs : List (Str × V)), RDf K B l vs → RDf K B' l vs
  | [], _, h => h
  | (k, d) :: l, _, ⟨v, r, h1, h2, h3⟩ => ⟨v, r, h1, RD.mono e d v h2, RDf.mono e l r h3⟩
end
theorem RDs.len : ∀ {l : List D} {vs : List V}, RDs K B l vs → vs.length = l.length
  | [], _, h => by cases (show _ = [] from h); rfl
  | d :: l, _, ⟨v, r, h1, _, h3⟩ => by subst h1; simp only [List.length_cons]; rw [RDs.len h3]
theorem RDs.app : ∀ {l : List D} {vs : List V} {l' : List D} {vs' : List V}, RDs K B l vs → RDs K B l' vs' → RDs K B (l ++ l') (vs ++ vs')
  | [], _, _, _, h, h' => by cases (show _ = [] from h); exact h'
  | d :: l, _, _, _, ⟨v, r, h1, h2, h3⟩, h' => by subst h1; exact ⟨v, r ++ _, rfl, h2, RDs.app h3 h'⟩
theorem RDs.get : ∀ {l : List D} {vs : List V} {i : Nat} {d : D}, RDs K B l vs → l[i]? = some d → ∃ v, vs[i]? = some v ∧ RD K B d v
  | [], _, i, _, h, e => by simp at e
  | d :: l, _, 0, x, ⟨v, r, h1, h2, h3⟩, e => by subst h1; simp at e; subst e; exact ⟨v, rfl, h2⟩
  | d :: l, _, i + 1, x, ⟨v, r, h1, h2, h3⟩, e => by subst h1; exact RDs.get (i := i) h3 (by simpa using e)
theorem RDs.getV : ∀ {l : List D} {vs : List V} {i : Nat} {v : V}, RDs K B l vs → vs[i]? = some v → ∃ d, l[i]? = some d ∧ RD K B d v
  | [], _, i, _, h, e => by cases (show _ = [] from h); simp at e
  | d :: l, _, 0, x, ⟨v, r, h1, h2, h3⟩, e => by subst h1; simp at e; subst e; exact ⟨d, rfl, h2⟩
  | d :: l, _, i + 1, x, ⟨v, r, h1, h2, h3⟩, e => by subst h1; exact RDs.getV (i := i) h3 (by simpa using e)
theorem RDs.take : ∀ {l : List D} {vs : List V} (n : Nat), RDs K B l vs → RDs K B (l.take n) (vs.take n)
  | _, _, 0, _ => rfl
  | [], _, n + 1, h => by cases (show _ = [] from h); rfl
  | d :: l, _, n + 1, ⟨v, r, h1, h2, h3⟩ => by subst h1; exact ⟨v, r.take n, rfl, h2, RDs.take n h3⟩
theorem RDs.drop : ∀ {l : List D} {vs : List V} (n : Nat), RDs K B l vs → RDs K B (l.drop n) (vs.drop n)
  | _, _, 0, h => h
  | [], _, n + 1, h => by cases (show _ = [] from h); rfl
  | d :: l, _, n + 1, ⟨v, r, h1, h2, h3⟩ => by subst h1; exact RDs.drop n h3
theorem RDs.eraseIdx : ∀ {l : List D} {vs : List V} (n : Nat), RDs K B l vs → RDs K B (l.eraseIdx n) (vs.eraseIdx n)
  | [], _, n, h => by cases (show _ = [] from h); rfl
  | d :: l, _, 0, ⟨v, r, h1, h2, h3⟩ => by subst h1; exact h3
  | d :: l, _, n + 1, ⟨v, r, h1, h2, h3⟩ => by subst h1; exact ⟨v, r.eraseIdx n, rfl, h2, RDs.eraseIdx n h3⟩
end

/-- what a slot, a value on the way is: nothing known, data, an owned list, the stream of draws -/
inductive S where
  | un | val (d : D) | own (k : Nat) | strm
/-- a state of data: slots, owned lists (true: may be changed yet), how many draws there have been at most -/
structure DS where
  r : List S
  o : List (Bool × List D)
  n : Nat
/-- the draws' stream at q, its cells at q' -/
def Strm (H : Hp) (q q' : Addr) (n : Nat) : Prop := ∃ (cells : List Int) (cur cnt acc : Int), H q = some (.lst [.ref q', .int cur, .int cnt, .int acc]) ∧ H q' = some (.lst (cells.map .int)) ∧
  cells.length ≤ 63 ∧ 0 ≤ cur ∧ 0 ≤ cnt ∧ cnt ≤ n ∧ 0 ≤ acc ∧ acc < 2147483647
def StrmOk (z : Option (Addr × Addr)) (B H : Hp) (n : Nat) : Prop := match z with
  | none => True
  | some (q, q') => q ≠ q' ∧ B q = none ∧ B q' = none ∧ Strm H q q' n
def mutA (z : Option (Addr × Addr)) (a : Addr) : Prop := match z with
  | none => False
  | some (q, q') => a = q ∨ a = q'
structure Ctx where
  z : Option (Addr × Addr)
  H0 : Hp
  B0 : Hp
  out : ∀ a, mutA z a → H0 a ≠ none

structure Core (K : PySem.W.Frag) (c : Ctx) (o : List (Bool × List D)) (n : Nat) (B : Hp) (A : List Addr) (H : Hp) : Prop where
  b0 : Same c.B0 B
  bh : Same B H
  bf : ∀ a, c.H0 a ≠ none → c.B0 a = none → B a = none
  fr : ∀ a u, c.H0 a = some u → ¬ mutA c.z a → H a = some u
  al : A.length = o.length
  nd : ∀ (i j : Nat) (p : Addr), A[i]? = some p → A[j]? = some p → i = j
  ow : ∀ (k : Nat) (p : Addr) (e : Bool × List D), A[k]? = some p → o[k]? = some e → c.H0 p = none ∧ (e.1 = true → B p = none) ∧ ∃ vs, H p = some (.lst vs) ∧ RDs K B e.2 vs ∧ (e.1 = false → B p = some (.lst vs))
  sm : StrmOk c.z B H n
def SR (K : PySem.W.Frag) (c : Ctx) (B : Hp) (A : List Addr) : S → V → Prop
  | .un, _ => True
  | .val d, v => RD K B d v
  | .own k, v => ∃ p, A[k]? = some p ∧ v = .ref p
  | .strm, v => ∃ q q', c.z = some (q, q') ∧ v = .ref q
def SRo (K : PySem.W.Frag) (c : Ctx) (B : Hp) (A : List Addr) : S → Option V → Prop
  | .un, _ => True
  | s, some v => SR K c B A s v
  | _, none => False
def Sl (K : PySem.W.Frag) (c : Ctx) (B : Hp) (A : List Addr) (r : List S) (σ : L2.St) : Prop := r.length = σ.length ∧ ∀ (i : Nat) (s : S) (v : Option V), r[i]? = some s → σ[i]? = some v → SRo K c B A s v
def Tm (K : PySem.W.Frag) (c : Ctx) (B : Hp) (A : List Addr) (T : List (V × S)) : Prop := ∀ p ∈ T, SR K c B A p.2 p.1
/-- a state of data and what is on the way, as they lie in the heap -/
def Fit (K : PySem.W.Frag) (c : Ctx) (d : DS) (T : List (V × S)) (σ : L2.St) (H : Hp) : Prop := ∃ B A, Core K c d.o d.n B A H ∧ Sl K c B A d.r σ ∧ Tm K c B A T

/-! ### what stays -/
section
variable {K : PySem.W.Frag} {c : Ctx} {o : List (Bool × List D)} {n : Nat} {B B' H H' : Hp} {A A' : List Addr} {r : List S} {σ : L2.St} {T : List (V × S)} {d : DS}
theorem SR.mono (e : Same B B') (ea : ∀ (k : Nat) (p : Addr), A[k]? = some p → A'[k]? = some p) : ∀ {s : S} {v : V}, SR K c B A s v → SR K c B' A' s v
  | .un, _, h => h
  | .val d, _, h => RD.mono e d _ h
  | .own k, _, ⟨p, h1, h2⟩ => ⟨p, ea _ _ h1, h2⟩
  | .strm, _, h => h
theorem Sl.mono (e : Same B B') (ea : ∀ (k : Nat) (p : Addr), A[k]? = some p → A'[k]? = some p) (h : Sl K c B A r σ) : Sl K c B' A' r σ := ⟨h.1, fun i s v h1 h2 => by
  have q := h.2 i s v h1 h2
  cases s with
  | un => trivial
  | val d => cases v with
    | none => exact q
    | some v => exact SR.mono (c := c) (s := .val d) e ea q
  | own k => cases v with
    | none => exact q
    | some v => exact SR.mono (K := K) (c := c) (s := .own k) e ea q
  | strm => cases v with
    | none => exact q
    | some v => exact SR.mono (K := K) (c := c) (s := .strm) (A := A) e ea q⟩
theorem Tm.mono (e : Same B B') (ea : ∀ (k : Nat) (p : Addr), A[k]? = some p → A'[k]? = some p) (h : Tm K c B A T) : Tm K c B' A' T := fun p hp => (h p hp).mono e ea
theorem Tm.nil : Tm K c B A [] := fun p hp => by cases hp
theorem Tm.cons {v : V} {s : S} (h1 : SR K c B A s v) (h : Tm K c B A T) : Tm K c B A ((v, s) :: T) := fun p hp => by
  rcases List.mem_cons.mp hp with e | e
  · subst e; exact h1
  · exact h p e
theorem Tm.app {T' : List (V × S)} (h1 : Tm K c B A T) (h : Tm K c B A T') : Tm K c B A (T ++ T') := fun p hp => (List.mem_append.mp hp).elim (h1 p) (h p)
/-- what is not tracked is no one's -/
theorem Core.free (C : Core K c o n B A H) {p : Addr} (hp : H p = none) : B p = none ∧ c.H0 p = none ∧ (∀ (k : Nat), A[k]? ≠ some p) ∧ ¬ mutA c.z p := by
  have nm : ¬ mutA c.z p := fun m => by
    have s := C.sm
    unfold StrmOk at s
    unfold mutA at m
    cases ez : c.z with
    | none => rw [ez] at m; exact m
    | some qq =>
      obtain ⟨q, q'⟩ := qq
      rw [ez] at m s
      obtain ⟨_, _, _, _, _, _, _, e1, e2, _⟩ := s
      rcases m with m | m
      · rw [m, e1] at hp; cases hp
      · rw [m, e2] at hp; cases hp
  refine ⟨C.bh.free hp, ?_, fun k hk => ?_, nm⟩
  · cases e : c.H0 p with
    | none => rfl
    | some u => have := C.fr p u e nm; rw [hp] at this; cases this
  · have hlt : k < o.length := by rw [← C.al]; exact (List.getElem?_eq_some_iff.mp hk).1
    obtain ⟨_, _, vs, e, _⟩ := C.ow k p _ hk (List.getElem?_eq_getElem hlt)
    rw [hp] at e; cases e
theorem StrmOk.keep {z : Option (Addr × Addr)} (h : StrmOk z B H n) (hB : ∀ a, mutA z a → B a = none → B' a = none) (hH : ∀ a u, mutA z a → H a = some u → H' a = some u) : StrmOk z B' H' n := by
  unfold StrmOk at *
  cases z with
  | none => trivial
  | some qq =>
    obtain ⟨q, q'⟩ := qq
    obtain ⟨h1, h2, h3, cells, cur, cnt, acc, e1, e2, e3⟩ := h
    exact ⟨h1, hB q (.inl rfl) h2, hB q' (.inr rfl) h3, cells, cur, cnt, acc, hH _ _ (.inl rfl) e1, hH _ _ (.inr rfl) e2, e3⟩
/-- a new object, data from now on -/
theorem Core.laid (C : Core K c o n B A H) {p : Addr} {u : HO} (hp : H p = none) : Core K c o n (upd B p u) A (upd H p u) ∧ Same B (upd B p u) := by
  obtain ⟨f1, f2, f3, f4⟩ := C.free hp
  have s1 : Same B (upd B p u) := fun a w e => by rw [upd_ne (ne_of_none e f1)]; exact e
  have s2 : Same H (upd H p u) := fun a w e => by rw [upd_ne (ne_of_none e hp)]; exact e
  refine ⟨⟨C.b0.trans s1, fun a w e => ?_, fun a h1 h2 => ?_, fun a w e m => s2 _ _ (C.fr a w e m), C.al, C.nd, fun k q e h1 h2 => ?_, C.sm.keep (fun a m e => ?_) fun a w m e => s2 _ _ e⟩, s1⟩
  · by_cases h : a = p
    · subst h; rw [upd_same] at e ⊢; exact e
    · rw [upd_ne h] at e ⊢; exact C.bh _ _ e
  · have : a ≠ p := fun z => by subst z; exact h1 f2
    rw [upd_ne this]; exact C.bf a h1 h2
  · obtain ⟨a1, a2, vs, a3, a4, a5⟩ := C.ow k q e h1 h2
    have : q ≠ p := fun z => by subst z; exact f3 k h1
    exact ⟨a1, fun z => by rw [upd_ne this]; exact a2 z, vs, s2 _ _ a3, RDs.mono s1 _ _ a4, fun z => s1 _ _ (a5 z)⟩
  · have : a ≠ p := fun z => by subst z; exact f4 m
    rw [upd_ne this]; exact e
/-- a new list, owned from now on -/
theorem Core.owned (C : Core K c o n B A H) {p : Addr} {vs : List V} {l : List D} (hp : H p = none) (hr : RDs K B l vs) : Core K c (o ++ [(true, l)]) n B (A ++ [p]) (upd H p (.lst vs)) ∧ (A ++ [p])[o.length]? = some p ∧ ∀ (k : Nat) (q : Addr), A[k]? = some q → (A ++ [p])[k]? = some q := by
  obtain ⟨f1, f2, f3, f4⟩ := C.free hp
  have s2 : Same H (upd H p (.lst vs)) := fun a w e => by rw [upd_ne (ne_of_none e hp)]; exact e
  have last : (A ++ [p])[o.length]? = some p := by rw [← C.al]; simp
  have old : ∀ (k : Nat) (q : Addr), A[k]? = some q → (A ++ [p])[k]? = some q := fun k q e => by
    rw [List.getElem?_append_left (List.getElem?_eq_some_iff.mp e).1]; exact e
  have spl : ∀ (k : Nat) (q : Addr), (A ++ [p])[k]? = some q → A[k]? = some q ∨ (k = o.length ∧ q = p) := fun k q e => by
    by_cases h : k < A.length
    · rw [List.getElem?_append_left h] at e; exact .inl e
    · have h2 : k < (A ++ [p]).length := (List.getElem?_eq_some_iff.mp e).1
      have h3 : k = o.length := by rw [List.length_append, List.length_singleton] at h2; rw [← C.al]; omega
      refine .inr ⟨h3, ?_⟩
      rw [h3, last] at e; exact (Option.some.inj e).symm
  refine ⟨⟨C.b0, fun a w e => s2 _ _ (C.bh _ _ e), C.bf, fun a w e m => s2 _ _ (C.fr a w e m), by simp [C.al], fun i j q h1 h2 => ?_, fun k q e h1 h2 => ?_, C.sm.keep (fun a _ e => e) fun a w m e => s2 _ _ e⟩, last, old⟩
  · rcases spl i q h1 with a1 | ⟨a1, a2⟩
    · rcases spl j q h2 with b1 | ⟨b1, b2⟩
      · exact C.nd i j q a1 b1
      · subst b2; exact absurd a1 (f3 i)
    · rcases spl j q h2 with b1 | ⟨b1, b2⟩
      · subst a2; exact absurd b1 (f3 j)
      · rw [a1, b1]
  · rcases spl k q h1 with a1 | ⟨a1, a2⟩
    · have hk : k < o.length := by rw [← C.al]; exact (List.getElem?_eq_some_iff.mp a1).1
      rw [List.getElem?_append_left hk] at h2
      obtain ⟨b1, b2, ws, b3, b4, b5⟩ := C.ow k q e a1 h2
      exact ⟨b1, b2, ws, s2 _ _ b3, b4, b5⟩
    · subst a1; subst a2
      rw [List.getElem?_append_right (Nat.le_refl _)] at h2
      simp at h2; subst h2
      exact ⟨f2, fun _ => f1, vs, upd_same, hr, fun z => by cases z⟩
theorem Core.addr (C : Core K c o n B A H) {k : Nat} {e : Bool × List D} (h : o[k]? = some e) : ∃ p, A[k]? = some p := by
  have : k < A.length := by rw [C.al]; exact (List.getElem?_eq_some_iff.mp h).1
  exact ⟨A[k], List.getElem?_eq_getElem this⟩
/-- an owned list becomes data -/
theorem Core.frz (C : Core K c o n B A H) {k : Nat} {b : Bool} {l : List D} {p : Addr} (hk : o[k]? = some (b, l)) (ha : A[k]? = some p) : ∃ B', Core K c (o.set k (false, l)) n B' A H ∧ Same B B' ∧ RD K B' (.lst l) (.ref p) := by
  obtain ⟨f1, f2, vs, f3, f4, f5⟩ := C.ow k p _ ha hk
  have hlt : k < o.length := (List.getElem?_eq_some_iff.mp hk).1
  cases b with
  | false =>
    refine ⟨B, ?_, fun _ _ e => e, p, vs, rfl, f5 rfl, f4⟩
    have e : o.set k (false, l) = o := by
      apply List.ext_getElem?
      intro i
      by_cases h : k = i
      · subst h; rw [List.getElem?_set_self hlt, hk]
      · rw [List.getElem?_set_ne h]
    rw [e]; exact C
  | true =>
    have f2' := f2 rfl
    have s1 : Same B (upd B p (.lst vs)) := fun a w e => by rw [upd_ne (ne_of_none e f2')]; exact e
    refine ⟨upd B p (.lst vs), ⟨C.b0.trans s1, fun a w e => ?_, fun a h1 h2 => ?_, C.fr, by rw [List.length_set]; exact C.al, C.nd, fun i q e h1 h2 => ?_, C.sm.keep (fun a m e => ?_) fun _ _ _ e => e⟩, s1, p, vs, rfl, upd_same, RDs.mono s1 _ _ f4⟩
    · by_cases h : a = p
      · subst h; rw [upd_same] at e; rw [f3]; exact e
      · rw [upd_ne h] at e; exact C.bh _ _ e
    · have : a ≠ p := fun z => by subst z; exact h1 f1
      rw [upd_ne this]; exact C.bf a h1 h2
    · by_cases h : k = i
      · subst h
        rw [ha] at h1; cases h1
        rw [List.getElem?_set_self hlt] at h2; cases h2
        exact ⟨f1, fun z => (by cases z), vs, f3, RDs.mono s1 _ _ f4, fun _ => upd_same⟩
      · rw [List.getElem?_set_ne h] at h2
        obtain ⟨b1, b2, ws, b3, b4, b5⟩ := C.ow i q e h1 h2
        have : q ≠ p := fun z => by subst z; exact h (C.nd k i _ ha h1)
        exact ⟨b1, fun z => by rw [upd_ne this]; exact b2 z, ws, b3, RDs.mono s1 _ _ b4, fun z => s1 _ _ (b5 z)⟩
    · have : a ≠ p := fun z => by subst z; exact c.out _ m f1
      rw [upd_ne this]; exact e
/-- an owned list is changed -/
theorem Core.write (C : Core K c o n B A H) {k : Nat} {l l' : List D} {p : Addr} {vs : List V} (hk : o[k]? = some (true, l)) (ha : A[k]? = some p) (hr : RDs K B l' vs) : Core K c (o.set k (true, l')) n B A (upd H p (.lst vs)) := by
  obtain ⟨f1, f2, ws, f3, f4, f5⟩ := C.ow k p _ ha hk
  have f2' := f2 rfl
  have hlt : k < o.length := (List.getElem?_eq_some_iff.mp hk).1
  have ne : ∀ a u, B a = some u → a ≠ p := fun a u e => ne_of_none e f2'
  refine ⟨C.b0, fun a w e => by rw [upd_ne (ne a w e)]; exact C.bh _ _ e, C.bf, fun a w e m => ?_, by rw [List.length_set]; exact C.al, C.nd, fun i q e h1 h2 => ?_, C.sm.keep (fun _ _ e => e) fun a w m e => ?_⟩
  · have : a ≠ p := fun z => by subst z; rw [f1] at e; cases e
    rw [upd_ne this]; exact C.fr a w e m
  · by_cases h : k = i
    · subst h
      rw [ha] at h1; cases h1
      rw [List.getElem?_set_self hlt] at h2; cases h2
      exact ⟨f1, fun _ => f2', vs, upd_same, hr, fun z => by cases z⟩
    · rw [List.getElem?_set_ne h] at h2
      obtain ⟨b1, b2, us, b3, b4, b5⟩ := C.ow i q e h1 h2
      have : q ≠ p := fun z => by subst z; exact h (C.nd k i _ ha h1)
      exact ⟨b1, b2, us, by rw [upd_ne this]; exact b3, b4, b5⟩
  · have : a ≠ p := fun z => by subst z; exact c.out _ m f1
    rw [upd_ne this]; exact e
end
end RH

set_option Elab.async false
set_option linter.all false
set_option maxRecDepth 100000
set_option maxHeartbeats 1000000
/-! the data layer, part b: judgements; names, constants, operators, displays -/
namespace RH
open PySem PySem.Spec PyProof.Rows L2

abbrev DTE := DS → (S → DS → Prop) → Prop
abbrev DTT := DS → (Bool → DS → Prop) → Prop
abbrev DTA := DS → (List S → DS → Prop) → Prop
structure DEnds where
  nx : DS → Prop
  rt : S → DS → Prop
  bk : DS → Prop := fun _ => False
  ct : DS → Prop := fun _ => False
abbrev DTS := DS → DEnds → Prop
def SndE (K : PySem.W.Frag) (t : TE) (w : DTE) : Prop := ∀ (c : Ctx) (d : DS) (T : List (V × S)) (σ : L2.St) (H : Hp) (Ψ : S → DS → Prop) (Q : VK), Fit K c d T σ H → w d Ψ → (∀ s d' v H', Fit K c d' ((v, s) :: T) σ H' → Ψ s d' → Q v H') → t σ H Q
def SndT (K : PySem.W.Frag) (t : TT) (w : DTT) : Prop := ∀ (c : Ctx) (d : DS) (T : List (V × S)) (σ : L2.St) (H : Hp) (Ψ : Bool → DS → Prop) (Q : Bool → Hp → Prop), Fit K c d T σ H → w d Ψ → (∀ b d' H', Fit K c d' T σ H' → Ψ b d' → Q b H') → t σ H Q
def SndA (K : PySem.W.Frag) (t : TA) (w : DTA) : Prop := ∀ (c : Ctx) (d : DS) (T : List (V × S)) (σ : L2.St) (H : Hp) (Ψ : List S → DS → Prop) (Q : List V → Hp → Prop), Fit K c d T σ H → w d Ψ → (∀ (TT : List (V × S)) d' H', Fit K c d' (TT ++ T) σ H' → Ψ (TT.map (·.2)) d' → Q (TT.map (·.1)) H') → t σ H Q
structure Cov (K : PySem.W.Frag) (c : Ctx) (T : List (V × S)) (Φ : DEnds) (E : Ends) : Prop where
  nx : ∀ d σ H, Fit K c d T σ H → Φ.nx d → E.nx σ H
  rt : ∀ s d v σ H, Fit K c d ((v, s) :: T) σ H → Φ.rt s d → E.rt v H
  bk : ∀ d σ H, Fit K c d T σ H → Φ.bk d → E.bk σ H
  ct : ∀ d σ H, Fit K c d T σ H → Φ.ct d → E.ct σ H
def SndS (K : PySem.W.Frag) (t : TS) (w : DTS) : Prop := ∀ (c : Ctx) (d : DS) (T : List (V × S)) (σ : L2.St) (H : Hp) (Φ : DEnds) (E : Ends), Fit K c d T σ H → w d Φ → Cov K c T Φ E → t E σ H
def DE (X : Cx) (e : Expr) (w : DTE) : Prop := ∃ t, PE X e t ∧ SndE X.K t w
def DT (X : Cx) (e : Expr) (w : DTT) : Prop := ∃ t, PT X e t ∧ SndT X.K t w
def DA (X : Cx) (es : List Expr) (w : DTA) : Prop := ∃ t, PA X es t ∧ SndA X.K t w
def DSt (X : Cx) (s : Stmt) (w : DTS) : Prop := ∃ t, PS X s t ∧ SndS X.K t w
def DSs (X : Cx) (s : List Stmt) (w : DTS) : Prop := ∃ t, PSs X s t ∧ SndS X.K t w

section
variable {K : PySem.W.Frag} {c : Ctx} {d : DS} {T T' : List (V × S)} {σ : L2.St} {H : Hp} {x : D} {v : V} {s : S}
theorem Fit.sub (F : Fit K c d T σ H) (h : ∀ p ∈ T', p ∈ T) : Fit K c d T' σ H := by
  obtain ⟨B, A, C, sl, tm⟩ := F
  exact ⟨B, A, C, sl, fun p hp => tm p (h p hp)⟩
theorem Fit.drop {p : V × S} (F : Fit K c d (p :: T) σ H) : Fit K c d T σ H := F.sub fun _ h => List.mem_cons_of_mem _ h
theorem Fit.push (F : Fit K c d T σ H) (h : ∀ B, RD K B x v) : Fit K c d ((v, .val x) :: T) σ H := by
  obtain ⟨B, A, C, sl, tm⟩ := F
  exact ⟨B, A, C, sl, Tm.cons (s := .val x) (h B) tm⟩
/-- what a thing is, as it stands -/
def look (d : DS) : S → Option D
  | .val x => some x
  | .own k => (d.o[k]?).map fun e => .lst e.2
  | _ => none
theorem Core.look {B : Hp} {A : List Addr} (C : Core K c d.o d.n B A H) (h : SR K c B A s v) (e : look d s = some x) : RD K H x v := by
  cases s with
  | un => cases e
  | strm => cases e
  | val y => cases e; exact RD.mono C.bh _ _ h
  | own k =>
    obtain ⟨p, h1, h2⟩ := h
    cases q : d.o[k]? with
    | none => simp [RH.look, q] at e
    | some b =>
      simp [RH.look, q] at e
      subst e
      obtain ⟨_, _, vs, a3, a4, _⟩ := C.ow k p b h1 q
      exact ⟨p, vs, h2, a3, RDs.mono C.bh _ _ a4⟩
theorem Fit.look (F : Fit K c d T σ H) (h : (v, s) ∈ T) (e : look d s = some x) : RD K H x v := by
  obtain ⟨B, A, C, sl, tm⟩ := F
  exact C.look (tm _ h) e
/-- a new tuple -/
theorem Fit.tup {TT : List (V × D)} (F : Fit K c d (TT.map (fun p => (p.1, S.val p.2)) ++ T) σ H) {p : Addr} (hp : H p = none) : Fit K c d ((.ref p, .val (.tup (TT.map (·.2)))) :: T) σ (upd H p (.tup (TT.map (·.1)))) := by
  obtain ⟨B, A, C, sl, tm⟩ := F
  obtain ⟨C2, s1⟩ := C.laid (u := .tup (TT.map (·.1))) hp
  have h1 : RDs K B (TT.map (·.2)) (TT.map (·.1)) := by
    have : ∀ q ∈ TT, RD K B q.2 q.1 := fun q hq => tm (q.1, .val q.2) (List.mem_append_left _ (List.mem_map.mpr ⟨q, hq, rfl⟩))
    clear tm C C2 s1 sl
    induction TT with
    | nil => rfl
    | cons q r ih => exact ⟨q.1, r.map (·.1), rfl, this q List.mem_cons_self, ih fun z hz => this z (List.mem_cons_of_mem _ hz)⟩
  refine ⟨_, A, C2, sl.mono s1 fun _ _ e => e, Tm.cons (s := .val _) ?_ (Tm.mono s1 (fun _ _ e => e) fun q hq => tm q (List.mem_append_right _ hq))⟩
  exact ⟨p, _, rfl, .inl (.inl upd_same), RDs.mono s1 _ _ h1⟩
theorem Fit.items {TT : List (V × D)} {B : Hp} {A : List Addr} (tm : Tm K c B A (TT.map (fun p => (p.1, S.val p.2)) ++ T)) : RDs K B (TT.map (·.2)) (TT.map (·.1)) := by
  have : ∀ q ∈ TT, RD K B q.2 q.1 := fun q hq => tm (q.1, .val q.2) (List.mem_append_left _ (List.mem_map.mpr ⟨q, hq, rfl⟩))
  clear tm
  induction TT with
  | nil => rfl
  | cons q r ih => exact ⟨q.1, r.map (·.1), rfl, this q List.mem_cons_self, ih fun z hz => this z (List.mem_cons_of_mem _ hz)⟩
def DS.new (d : DS) (l : List D) : DS := { d with o := d.o ++ [(true, l)] }
/-- a new list of things that lie in the base -/
theorem Fit.new {l : List D} {vs : List V} {p : Addr} (F : ∃ B A, Core K c d.o d.n B A H ∧ Sl K c B A d.r σ ∧ Tm K c B A T ∧ RDs K B l vs) (hp : H p = none) : Fit K c (d.new l) ((.ref p, .own d.o.length) :: T) σ (upd H p (.lst vs)) := by
  obtain ⟨B, A, C, sl, tm, hr⟩ := F
  obtain ⟨C2, h1, h2⟩ := C.owned hp hr
  exact ⟨B, A ++ [p], C2, sl.mono (fun _ _ e => e) h2, Tm.cons (s := .own _) ⟨p, h1, rfl⟩ (tm.mono (fun _ _ e => e) h2)⟩
theorem Fit.lst {TT : List (V × D)} (F : Fit K c d (TT.map (fun p => (p.1, S.val p.2)) ++ T) σ H) {p : Addr} (hp : H p = none) : Fit K c (d.new (TT.map (·.2))) ((.ref p, .own d.o.length) :: T) σ (upd H p (.lst (TT.map (·.1)))) := by
  obtain ⟨B, A, C, sl, tm⟩ := F
  exact Fit.new ⟨B, A, C, sl, fun q hq => tm q (List.mem_append_right _ hq), Fit.items tm⟩ hp
/-- a thing becomes data -/
def fz (d : DS) : S → Option (D × DS)
  | .val x => some (x, d)
  | .own k => (d.o[k]?).map fun e => (.lst e.2, { d with o := d.o.set k (false, e.2) })
  | _ => none
theorem Core.fz {B : Hp} {A : List Addr} {d' : DS} (C : Core K c d.o d.n B A H) (h : SR K c B A s v) (e : fz d s = some (x, d')) : ∃ B', Core K c d'.o d'.n B' A H ∧ Same B B' ∧ RD K B' x v ∧ d'.r = d.r := by
  cases s with
  | un => cases e
  | strm => cases e
  | val y => cases e; exact ⟨B, C, fun _ _ e => e, h, rfl⟩
  | own k =>
    obtain ⟨p, h1, h2⟩ := h
    subst h2
    cases q : d.o[k]? with
    | none => simp [RH.fz, q] at e
    | some b =>
      obtain ⟨b, l⟩ := b
      simp [RH.fz, q] at e
      obtain ⟨e1, e2⟩ := e
      subst e1 e2
      obtain ⟨B', C', s1, h3⟩ := C.frz q h1
      exact ⟨B', C', s1, h3, rfl⟩
theorem Fit.fz {d' : DS} (F : Fit K c d ((v, s) :: T) σ H) (e : fz d s = some (x, d')) : Fit K c d' ((v, .val x) :: T) σ H := by
  obtain ⟨B, A, C, sl, tm⟩ := F
  obtain ⟨B', C', s1, h1, h2⟩ := C.fz (tm _ List.mem_cons_self) e
  refine ⟨B', A, C', by rw [h2]; exact sl.mono s1 fun _ _ e => e, Tm.cons (s := .val x) h1 (Tm.mono s1 (fun _ _ e => e) fun q hq => tm q (List.mem_cons_of_mem _ hq))⟩
def fzs : DS → List S → Option (List D × DS)
  | d, [] => some ([], d)
  | d, s :: r => match fz d s with
    | none => none
    | some (x, d1) => match fzs d1 r with
      | none => none
      | some (l, d2) => some (x :: l, d2)
theorem Core.fzs {A : List Addr} : ∀ {ss : List S} {vs : List V} {d d' : DS} {B : Hp} {l : List D}, Core K c d.o d.n B A H → Paired (fun s v => SR K c B A s v) ss vs → fzs d ss = some (l, d') → ∃ B', Core K c d'.o d'.n B' A H ∧ Same B B' ∧ RDs K B' l vs ∧ d'.r = d.r
  | [], _, d, d', B, l, C, h, e => by
    cases h
    cases e
    exact ⟨B, C, fun _ _ e => e, rfl, rfl⟩
  | s :: r, _, d, d', B, l, C, h, e => by
    cases h with
    | @cons _ v _ vs h1 h2 =>
    simp only [RH.fzs] at e
    split at e
    · cases e
    · rename_i x d1 e1
      split at e
      · cases e
      · rename_i l2 d2 e2
        cases e
        obtain ⟨B1, C1, s1, r1, q1⟩ := C.fz h1 e1
        have h2' : Paired (fun s v => SR K c B1 A s v) r vs := Paired.mapP h2 fun a b h => SR.mono s1 (fun _ _ e => e) h
        obtain ⟨B2, C2, s2, r2, q2⟩ := Core.fzs C1 h2' e2
        exact ⟨B2, C2, s1.trans s2, ⟨v, vs, rfl, RD.mono s2 _ _ r1, r2⟩, q2.trans q1⟩
theorem Tm.paired {B : Hp} {A : List Addr} : ∀ {TT : List (V × S)}, Tm K c B A (TT ++ T) → Paired (fun s v => SR K c B A s v) (TT.map (·.2)) (TT.map (·.1))
  | [], _ => .nil
  | p :: r, h => .cons (h p List.mem_cons_self) (Tm.paired fun q hq => h q (List.mem_cons_of_mem _ hq))
end

/-! ### expressions -/
section
variable {X : Cx} {a b e : Expr} {es : List Expr} {wa wb : DTE} {pos : Pos}
def dVar (i : Nat) : DTE := fun d Ψ => ∃ s, d.r[i]? = some s ∧ s ≠ .un ∧ Ψ s d
theorem de_var (i : Nat) {x : Str} {pos : Pos} (hN : X.N[i]? = some x := by rfl) (hv : Vis X.env.scope x := by first | exact Or.inl rfl | exact Or.inr (Or.inl rfl) | exact Or.inr (Or.inr rfl)) (hd : (x == ("__debug__" : Str)) = false := by decide)
    (hcd : (x == ("__classdict__" : Str)) = false := by decide) : DE X (.Name x pos) (dVar i) := by
  refine ⟨_, pv i hN hv hd hcd, fun c d T σ H Ψ Q F w k => ?_⟩
  obtain ⟨s, hs, hu, q⟩ := w
  obtain ⟨B, A, C, sl, tm⟩ := F
  have hlt : i < σ.length := by rw [← sl.1]; exact (List.getElem?_eq_some_iff.mp hs).1
  have h := sl.2 i s _ hs (List.getElem?_eq_getElem hlt)
  have hv : ∃ v, σ[i] = some v ∧ SR X.K c B A s v := by
    cases e : σ[i] with
    | none => rw [e] at h; cases s <;> first | exact absurd rfl hu | exact h.elim
    | some v => rw [e] at h; exact ⟨v, rfl, by cases s <;> first | exact trivial | exact h⟩
  obtain ⟨v, e1, e2⟩ := hv
  exact ⟨v, by rw [List.getElem?_eq_getElem hlt, e1], k s d v H ⟨B, A, C, sl, Tm.cons e2 tm⟩ q⟩
def dC (x : D) : DTE := fun d Ψ => Ψ (.val x) d
theorem de_int {i j pos} : DE X (.Constant (.int i) j pos) (dC (.int i)) := ⟨_, pe_int, fun c d T σ H Ψ Q F w k => k _ _ _ _ (F.push (x := .int i) fun _ => rfl) w⟩
theorem de_bl {b j pos} : DE X (.Constant (.bool b) j pos) (dC (.bl b)) := ⟨_, pe_bl, fun c d T σ H Ψ Q F w k => k _ _ _ _ (F.push (x := .bl b) fun _ => rfl) w⟩
theorem de_non {j pos} : DE X (.Constant .none j pos) (dC .non) := ⟨_, pe_non, fun c d T σ H Ψ Q F w k => k _ _ _ _ (F.push (x := .non) fun _ => rfl) w⟩
theorem de_str {x j pos} : DE X (.Constant (.str x) j pos) (dC (.str x)) := ⟨_, pe_str, fun c d T σ H Ψ Q F w k => k _ _ _ _ (F.push (x := .str x) fun _ => rfl) w⟩
/-- a constant of the module: its value, as data whatever the heap -/
theorem de_glob {x : Str} {z : D} {v : V} {u : Value} {pos : Pos} (hg : Gl X x) (hm : X.mg x = some u) (r : RelV v u) (h : ∀ B, RD X.K B z v) (hd : (x == ("__debug__" : Str)) = false := by decide) : DE X (.Name x pos) (dC z) :=
  ⟨_, pe_glob hg hm r hd, fun c d T σ H Ψ Q F w k => k _ _ _ _ (F.push h) w⟩

/-- a two-place operation: what it asks, what it gives -/
abbrev DR2 := S → S → DTE
def SndR2 (K : PySem.W.Frag) (r : R2) (g : DR2) : Prop := ∀ (c : Ctx) (d : DS) (T : List (V × S)) (σ : L2.St) (H : Hp) (x y : V) (sx sy : S) (Ψ : S → DS → Prop) (Q : VK), Fit K c d ((y, sy) :: (x, sx) :: T) σ H → g sx sy d Ψ → (∀ s d' v H', Fit K c d' ((v, s) :: T) σ H' → Ψ s d' → Q v H') → r x y H Q
def dOp (g : DR2) (wa wb : DTE) : DTE := fun d Ψ => wa d fun sx d1 => wb d1 fun sy d2 => g sx sy d2 Ψ
theorem sndOp {r : R2} {g : DR2} {ta tb : TE} {K : PySem.W.Frag} (hr : SndR2 K r g) (ha : SndE K ta wa) (hb : SndE K tb wb) : SndE K (tOp r ta tb) (dOp g wa wb) := fun c d T σ H Ψ Q F w k =>
  ha c d T σ H _ _ F w fun sx d1 x H1 F1 w1 => hb c d1 _ σ H1 _ _ F1 w1 fun sy d2 y H2 F2 w2 => hr c d2 T σ H2 x y sx sy Ψ Q F2 w2 k
theorem de_op {op : Operator} {r : R2} {g : DR2} (ho : OpR X (binaryOp op) r) (hr : SndR2 X.K r g) (ha : DE X a wa) (hb : DE X b wb) : DE X (.BinOp a op b pos) (dOp g wa wb) := by
  obtain ⟨ta, ha1, ha2⟩ := ha
  obtain ⟨tb, hb1, hb2⟩ := hb
  exact ⟨_, pe_op ho ha1 hb1, sndOp hr ha2 hb2⟩
theorem de_cmp {op : CmpOp} {r : R2} {g : DR2} (ho : OpR X (compareOp op) r) (hr : SndR2 X.K r g) (ha : DE X a wa) (hb : DE X b wb) (hm : behindInMarks op b = false) : DE X (.Compare a [op] [b] pos) (dOp g wa wb) := by
  obtain ⟨ta, ha1, ha2⟩ := ha
  obtain ⟨tb, hb1, hb2⟩ := hb
  exact ⟨_, pe_cmpR ho ha1 hb1 hm, sndOp hr ha2 hb2⟩
def dTest (w : DTE) : DTT := fun d Ψ => w d fun s d1 => ∃ b, s = .val (.bl b) ∧ Ψ b d1
theorem sndTest {t : TE} {w : DTE} {K : PySem.W.Frag} (h : SndE K t w) : SndT K (tTest t) (dTest w) := fun c d T σ H Ψ Q F hw k =>
  h c d T σ H _ _ F hw fun s d1 v H1 F1 ⟨b, e, q⟩ => by
    subst e
    have hv : RD K H1 (.bl b) v := F1.look List.mem_cons_self rfl
    exact ⟨b, hv, k b d1 H1 F1.drop q⟩
theorem dt_cmp {op : CmpOp} {r : R2} {g : DR2} (ho : OpR X (compareOp op) r) (hr : SndR2 X.K r g) (ha : DE X a wa) (hb : DE X b wb) (hm : behindInMarks op b = false) : DT X (.Compare a [op] [b] pos) (dTest (dOp g wa wb)) := by
  obtain ⟨ta, ha1, ha2⟩ := ha
  obtain ⟨tb, hb1, hb2⟩ := hb
  exact ⟨_, pt_cmpR ho ha1 hb1 hm, sndTest (sndOp hr ha2 hb2)⟩
/-- a value that is a bool, as a test -/
theorem dt_val {w : DTE} (h : DE X e w) (he : ∀ whole, isTrue e X.env whole = (do let v ← whole; standAt e.pos; holding [v] (truthy v)) := by intro _; rfl) : DT X e (dTest w) := by
  obtain ⟨t, h1, h2⟩ := h
  exact ⟨_, pt_val h1 he, fun c d T σ H Ψ Q F hw k => sndTest h2 c d T σ H Ψ Q F hw k⟩
/-- two ints -/
def gI (C : Int → Int → Prop) (f : Int → Int → D) : DR2 := fun sx sy d Ψ => ∃ i j, sx = .val (.int i) ∧ sy = .val (.int j) ∧ C i j ∧ Ψ (.val (f i j)) d
def gI0 (f : Int → Int → D) : DR2 := fun sx sy d Ψ => ∃ i j, sx = .val (.int i) ∧ sy = .val (.int j) ∧ Ψ (.val (f i j)) d
theorem two_of {K : PySem.W.Frag} {c : Ctx} {d : DS} {T : List (V × S)} {σ : L2.St} {H : Hp} {x y : V} {sx sy : S} {dx dy : D} (F : Fit K c d ((y, sy) :: (x, sx) :: T) σ H) (hx : look d sx = some dx) (hy : look d sy = some dy) : RD K H dx x ∧ RD K H dy y :=
  ⟨F.look (List.mem_cons_of_mem _ List.mem_cons_self) hx, F.look List.mem_cons_self hy⟩
theorem snd_I {K : PySem.W.Frag} {C : Int → Int → Prop} {g : Int → Int → V} {f : Int → Int → D} (h : ∀ i j B, RD K B (f i j) (g i j)) : SndR2 K (rI C g) (gI C f) := fun c d T σ H x y sx sy Ψ Q F ⟨i, j, e1, e2, hc, q⟩ k => by
  subst e1 e2
  obtain ⟨h1, h2⟩ := two_of F rfl rfl
  exact ⟨i, j, h1, h2, hc, k _ _ _ _ (F.drop.drop.push (h i j)) q⟩
theorem snd_I0 {K : PySem.W.Frag} {g : Int → Int → V} {f : Int → Int → D} (h : ∀ i j B, RD K B (f i j) (g i j)) : SndR2 K (rI0 g) (gI0 f) := fun c d T σ H x y sx sy Ψ Q F ⟨i, j, e1, e2, q⟩ k => by
  subst e1 e2
  obtain ⟨h1, h2⟩ := two_of F rfl rfl
  exact ⟨i, j, h1, h2, k _ _ _ _ (F.drop.drop.push (h i j)) q⟩
theorem de_add (ha : DE X a wa) (hb : DE X b wb) : DE X (.BinOp a .Add b pos) (dOp (gI0 fun i j => .int (i + j)) wa wb) := de_op op_add (snd_I0 fun _ _ _ => rfl) ha hb
theorem de_sub (ha : DE X a wa) (hb : DE X b wb) : DE X (.BinOp a .Sub b pos) (dOp (gI0 fun i j => .int (i - j)) wa wb) := de_op op_sub (snd_I0 fun _ _ _ => rfl) ha hb
theorem dt_lt (ha : DE X a wa) (hb : DE X b wb) : DT X (.Compare a [.Lt] [b] pos) (dTest (dOp (gI0 fun i j => .bl (decide (i < j))) wa wb)) := dt_cmp op_lt (snd_I0 fun _ _ _ => rfl) ha hb (nomark _)
theorem dt_le (ha : DE X a wa) (hb : DE X b wb) : DT X (.Compare a [.LtE] [b] pos) (dTest (dOp (gI0 fun i j => .bl (decide (i ≤ j))) wa wb)) := dt_cmp op_le (snd_I0 fun _ _ _ => rfl) ha hb (nomark _)
theorem dt_gt (ha : DE X a wa) (hb : DE X b wb) : DT X (.Compare a [.Gt] [b] pos) (dTest (dOp (gI0 fun i j => .bl (decide (j < i))) wa wb)) := dt_cmp op_gt (snd_I0 fun _ _ _ => rfl) ha hb (nomark _)
theorem dt_ge (ha : DE X a wa) (hb : DE X b wb) : DT X (.Compare a [.GtE] [b] pos) (dTest (dOp (gI0 fun i j => .bl (decide (j ≤ i))) wa wb)) := dt_cmp op_ge (snd_I0 fun _ _ _ => rfl) ha hb (nomark _)
theorem de_lt (ha : DE X a wa) (hb : DE X b wb) : DE X (.Compare a [.Lt] [b] pos) (dOp (gI0 fun i j => .bl (decide (i < j))) wa wb) := de_cmp op_lt (snd_I0 fun _ _ _ => rfl) ha hb (nomark _)
theorem de_le (ha : DE X a wa) (hb : DE X b wb) : DE X (.Compare a [.LtE] [b] pos) (dOp (gI0 fun i j => .bl (decide (i ≤ j))) wa wb) := de_cmp op_le (snd_I0 fun _ _ _ => rfl) ha hb (nomark _)
theorem de_ge (ha : DE X a wa) (hb : DE X b wb) : DE X (.Compare a [.GtE] [b] pos) (dOp (gI0 fun i j => .bl (decide (j ≤ i))) wa wb) := de_cmp op_ge (snd_I0 fun _ _ _ => rfl) ha hb (nomark _)
theorem de_gt (ha : DE X a wa) (hb : DE X b wb) : DE X (.Compare a [.Gt] [b] pos) (dOp (gI0 fun i j => .bl (decide (j < i))) wa wb) := de_cmp op_gt (snd_I0 fun _ _ _ => rfl) ha hb (nomark _)

/-! ### == of data -/
mutual
def py : D → PyData
  | .non => .none
  | .bl b => .bool b
  | .int i => .int i
  | .str x => .str x
  | .lst l => .list (pys l)
  | .tup l => .tuple (pys l)
  | .dic _ => .none
  | .obj _ _ => .none
def pys : List D → List PyData
  | [] => []
  | d :: l => py d :: pys l
/-- no dict, no object within -/
def plain : D → Bool
  | .non => true
  | .bl _ => true
  | .int _ => true
  | .str _ => true
  | .lst l => plains l
  | .tup l => plains l
  | .dic _ => false
  | .obj _ _ => false
def plains : List D → Bool
  | [] => true
  | d :: l => plain d && plains l
end
mutual
theorem RD.dp {K : PySem.W.Frag} {H : Hp} : ∀ (d : D) (v : V), RD K H d v → plain d = true → Dp K H v (py d)
  | .non, _, h, _ => by cases (show _ = V.non from h); exact .non
  | .bl b, _, h, _ => by cases (show _ = V.bl b from h); exact .bl b
  | .int i, _, h, _ => by cases (show _ = V.int i from h); exact .int i
  | .str x, _, h, _ => by cases (show _ = V.str x from h); exact .str x
  | .lst l, _, ⟨a, vs, h1, h2, h3⟩, p => by subst h1; exact .lst (.inl (.inl h2)) (RDs.dp l vs h3 p)
  | .tup l, _, ⟨a, vs, h1, h2, h3⟩, p => by subst h1; exact .tup h2 (RDs.dp l vs h3 p)
  | .dic _, _, _, p => by cases p
  | .obj _ _, _, _, p => by cases p
theorem RDs.dp {K : PySem.W.Frag} {H : Hp} : ∀ (l : List D) (vs : List V), RDs K H l vs → plains l = true → DpAll K H vs (pys l)
  | [], _, h, _ => by cases (show _ = [] from h); exact .nil
  | d :: l, _, ⟨v, r, h1, h2, h3⟩, p => by
    subst h1
    have p' : (plain d && plains l) = true := p
    rw [Bool.and_eq_true] at p'
    exact .cons (RD.dp d v h2 p'.1) (RDs.dp l r h3 p'.2)
end
def Eqs (x : D) : Prop := plain x = true ∧ SeqAt.shaped (py x) = true
def gEq (f : Bool → Bool) : DR2 := fun sx sy d Ψ => ∃ x y, look d sx = some x ∧ look d sy = some y ∧ Eqs x ∧ Eqs y ∧ Ψ (.val (.bl (f (PyData.eqv (py x) (py y))))) d
theorem snd_eq {K : PySem.W.Frag} : SndR2 K (rEqD K) (gEq id) := fun c d T σ H x y sx sy Ψ Q F ⟨dx, dy, e1, e2, p1, p2, q⟩ k => by
  obtain ⟨h1, h2⟩ := two_of F e1 e2
  exact ⟨py dx, py dy, RD.dp _ _ h1 p1.1, RD.dp _ _ h2 p2.1, p1.2, p2.2, k _ _ _ _ (F.drop.drop.push (x := .bl _) fun _ => rfl) q⟩
theorem snd_ne {K : PySem.W.Frag} : SndR2 K (rNeD K) (gEq (!·)) := fun c d T σ H x y sx sy Ψ Q F ⟨dx, dy, e1, e2, p1, p2, q⟩ k => by
  obtain ⟨h1, h2⟩ := two_of F e1 e2
  exact ⟨py dx, py dy, RD.dp _ _ h1 p1.1, RD.dp _ _ h2 p2.1, p1.2, p2.2, k _ _ _ _ (F.drop.drop.push (x := .bl _) fun _ => rfl) q⟩
theorem de_eq (hu : X.A.units + 64 < cLine) (ha : DE X a wa) (hb : DE X b wb) : DE X (.Compare a [.Eq] [b] pos) (dOp (gEq id) wa wb) := de_cmp (op_eqD hu) snd_eq ha hb (nomark _)
theorem de_ne (hu : X.A.units + 64 < cLine) (ha : DE X a wa) (hb : DE X b wb) : DE X (.Compare a [.NotEq] [b] pos) (dOp (gEq (!·)) wa wb) := de_cmp (op_neD hu) snd_ne ha hb (nomark _)
theorem dt_eq (hu : X.A.units + 64 < cLine) (ha : DE X a wa) (hb : DE X b wb) : DT X (.Compare a [.Eq] [b] pos) (dTest (dOp (gEq id) wa wb)) := dt_cmp (op_eqD hu) snd_eq ha hb (nomark _)
theorem dt_ne (hu : X.A.units + 64 < cLine) (ha : DE X a wa) (hb : DE X b wb) : DT X (.Compare a [.NotEq] [b] pos) (dTest (dOp (gEq (!·)) wa wb)) := dt_cmp (op_neD hu) snd_ne ha hb (nomark _)

/-! ### and, or, not, if else -/
def dAnd (t u : DTT) : DTT := fun d Ψ => t d fun b d1 => if b = true then u d1 Ψ else Ψ false d1
def dOr (t u : DTT) : DTT := fun d Ψ => t d fun b d1 => if b = true then Ψ true d1 else u d1 Ψ
def dNot (t : DTT) : DTT := fun d Ψ => t d fun b d1 => Ψ (!b) d1
def DW (X : Cx) (e : Expr) (w : DTT) : Prop := ∃ t, PW X e t ∧ SndT X.K t w
variable {ta tb : DTT} {rest : List Expr}
theorem DW.dt (h : DW X e ta) : DT X e ta := by
  obtain ⟨t, h1, h2⟩ := h
  exact ⟨t, h1.pt, h2⟩
theorem dw_and1 (h : DT X a ta) : DW X (.BoolOp .And [a] pos) ta := by
  obtain ⟨t, h1, h2⟩ := h
  exact ⟨t, pw_and1 h1, h2⟩
theorem dw_or1 (h : DT X a ta) : DW X (.BoolOp .Or [a] pos) ta := by
  obtain ⟨t, h1, h2⟩ := h
  exact ⟨t, pw_or1 h1, h2⟩
theorem dw_and (h : DT X a ta) (h' : DW X (.BoolOp .And (b :: rest) pos) tb) : DW X (.BoolOp .And (a :: b :: rest) pos) (dAnd ta tb) := by
  obtain ⟨t, h1, h2⟩ := h
  obtain ⟨u, h3, h4⟩ := h'
  refine ⟨_, pw_and h1 h3, fun c d T σ H Ψ Q F hw k => h2 c d T σ H _ _ F hw fun bb d1 H1 F1 w1 => ?_⟩
  cases bb with
  | true => exact h4 c d1 T σ H1 Ψ Q F1 w1 k
  | false => exact k false d1 H1 F1 w1
theorem dw_or (h : DT X a ta) (h' : DW X (.BoolOp .Or (b :: rest) pos) tb) : DW X (.BoolOp .Or (a :: b :: rest) pos) (dOr ta tb) := by
  obtain ⟨t, h1, h2⟩ := h
  obtain ⟨u, h3, h4⟩ := h'
  refine ⟨_, pw_or h1 h3, fun c d T σ H Ψ Q F hw k => h2 c d T σ H _ _ F hw fun bb d1 H1 F1 w1 => ?_⟩
  cases bb with
  | false => exact h4 c d1 T σ H1 Ψ Q F1 w1 k
  | true => exact k true d1 H1 F1 w1
theorem dt_not (h : DT X a ta) : DT X (.UnaryOp .Not a pos) (dNot ta) := by
  obtain ⟨t, h1, h2⟩ := h
  exact ⟨_, pt_not h1, fun c d T σ H Ψ Q F hw k => h2 c d T σ H _ _ F hw fun bb d1 H1 F1 w1 => k _ d1 H1 F1 w1⟩
/-- .. as values -/
def dAndV (wa wb : DTE) : DTE := fun d Ψ => wa d fun s d1 => ∃ b, s = .val (.bl b) ∧ if b = true then wb d1 Ψ else Ψ (.val (.bl false)) d1
def dOrV (wa wb : DTE) : DTE := fun d Ψ => wa d fun s d1 => ∃ b, s = .val (.bl b) ∧ if b = true then Ψ (.val (.bl true)) d1 else wb d1 Ψ
def dNotV (wa : DTE) : DTE := fun d Ψ => wa d fun s d1 => ∃ b, s = .val (.bl b) ∧ Ψ (.val (.bl (!b))) d1
theorem bl_of {K : PySem.W.Frag} {c : Ctx} {d : DS} {T : List (V × S)} {σ : L2.St} {H : Hp} {v : V} {b : Bool} (F : Fit K c d ((v, .val (.bl b)) :: T) σ H) : v = .bl b := F.look List.mem_cons_self rfl
theorem de_one {op} (h : DE X a wa) : DE X (.BoolOp op [a] pos) wa := by
  obtain ⟨t, h1, h2⟩ := h
  exact ⟨t, pe_one h1, h2⟩
theorem de_and (h : DE X a wa) (h' : DE X (.BoolOp .And (b :: rest) pos) wb) : DE X (.BoolOp .And (a :: b :: rest) pos) (dAndV wa wb) := by
  obtain ⟨t, h1, h2⟩ := h
  obtain ⟨u, h3, h4⟩ := h'
  refine ⟨_, pe_and h1 h3, fun c d T σ H Ψ Q F hw k => h2 c d T σ H _ _ F hw fun s d1 v H1 F1 ⟨bb, e, w1⟩ => ?_⟩
  subst e
  refine ⟨bb, bl_of F1, ?_⟩
  cases bb with
  | true => exact h4 c d1 T σ H1 Ψ Q F1.drop w1 k
  | false => exact k _ d1 _ H1 (F1.drop.push (x := .bl _) fun _ => rfl) w1
theorem de_or (h : DE X a wa) (h' : DE X (.BoolOp .Or (b :: rest) pos) wb) : DE X (.BoolOp .Or (a :: b :: rest) pos) (dOrV wa wb) := by
  obtain ⟨t, h1, h2⟩ := h
  obtain ⟨u, h3, h4⟩ := h'
  refine ⟨_, pe_or h1 h3, fun c d T σ H Ψ Q F hw k => h2 c d T σ H _ _ F hw fun s d1 v H1 F1 ⟨bb, e, w1⟩ => ?_⟩
  subst e
  refine ⟨bb, bl_of F1, ?_⟩
  cases bb with
  | false => exact h4 c d1 T σ H1 Ψ Q F1.drop w1 k
  | true => exact k _ d1 _ H1 (F1.drop.push (x := .bl _) fun _ => rfl) w1
theorem de_not (h : DE X a wa) : DE X (.UnaryOp .Not a pos) (dNotV wa) := by
  obtain ⟨t, h1, h2⟩ := h
  refine ⟨_, pe_not h1, fun c d T σ H Ψ Q F hw k => h2 c d T σ H _ _ F hw fun s d1 v H1 F1 ⟨bb, e, w1⟩ => ?_⟩
  subst e
  exact ⟨bb, bl_of F1, k _ d1 _ H1 (F1.drop.push (x := .bl _) fun _ => rfl) w1⟩
def dIf (t : DTT) (wa wb : DTE) : DTE := fun d Ψ => t d fun b d1 => if b = true then wa d1 Ψ else wb d1 Ψ
theorem de_ifExp {t : Expr} (ht : DT X t ta) (ha : DE X a wa) (hb : DE X b wb) : DE X (.IfExp t a b pos) (dIf ta wa wb) := by
  obtain ⟨tt, h1, h2⟩ := ht
  obtain ⟨u, h3, h4⟩ := ha
  obtain ⟨u', h5, h6⟩ := hb
  refine ⟨_, pe_ifExp h1 h3 h5, fun c d T σ H Ψ Q F hw k => h2 c d T σ H _ _ F hw fun bb d1 H1 F1 w1 => ?_⟩
  cases bb with
  | true => exact h4 c d1 T σ H1 Ψ Q F1 w1 k
  | false => exact h6 c d1 T σ H1 Ψ Q F1 w1 k

/-! ### argument lists, displays -/
def dNil : DTA := fun d Ψ => Ψ [] d
def dCons (w : DTE) (r : DTA) : DTA := fun d Ψ => w d fun s d1 => r d1 fun ss d2 => Ψ (s :: ss) d2
theorem da_nil : DA X [] dNil := ⟨_, pa_nil, fun c d T σ H Ψ Q F hw k => k [] d H F hw⟩
theorem da_cons {r : DTA} (h : DE X e wa) (h' : DA X es r) (hs : starEach (e :: es) X.env = (false, eval e X.env) :: starEach es X.env := by rfl) : DA X (e :: es) (dCons wa r) := by
  obtain ⟨t, h1, h2⟩ := h
  obtain ⟨u, h3, h4⟩ := h'
  refine ⟨_, pa_cons h1 h3 hs, fun c d T σ H Ψ Q F hw k => h2 c d T σ H _ _ F hw fun s d1 v H1 F1 w1 => h4 c d1 _ σ H1 _ _ F1 w1 fun TT d2 H2 F2 w2 => ?_⟩
  refine k ((v, s) :: TT) d2 H2 (F2.sub fun p hp => ?_) w2
  rcases List.mem_cons.mp hp with z | z
  · subst z; exact List.mem_append_right _ List.mem_cons_self
  · rcases List.mem_append.mp z with z | z
    · exact List.mem_append_left _ z
    · exact List.mem_append_right _ (List.mem_cons_of_mem _ z)
/-- (a, b, ..): all become data -/
def dTup (r : DTA) : DTE := fun d Ψ => r d fun ss d1 => ss.length ≤ 1000 ∧ ∃ l d2, fzs d1 ss = some (l, d2) ∧ Ψ (.val (.tup l)) d2
def dLst (r : DTA) : DTE := fun d Ψ => r d fun ss d1 => ss.length ≤ 1000 ∧ ∃ l d2, fzs d1 ss = some (l, d2) ∧ Ψ (.own d2.o.length) (d2.new l)
theorem le_line {n : Nat} (h : n ≤ 1000) : n ≤ sizeLine := Nat.le_of_lt (small1000 h)
theorem de_tup {r : DTA} {x1} (h : DA X es r) : DE X (.Tuple es x1 pos) (dTup r) := by
  obtain ⟨t, h1, h2⟩ := h
  refine ⟨_, pe_tup h1, fun c d T σ H Ψ Q F hw k => h2 c d T σ H _ _ F hw fun TT d1 H1 F1 ⟨hl, l, d2, e, w1⟩ => ?_⟩
  refine ⟨by rw [List.length_map] at hl ⊢; exact le_line hl, fun p hp => ?_⟩
  obtain ⟨B, A, C, sl, tm⟩ := F1
  obtain ⟨B1, C1, s1, r1, q1⟩ := C.fzs (Tm.paired tm) e
  obtain ⟨C2, s2⟩ := C1.laid (u := .tup (TT.map (·.1))) hp
  refine k _ d2 _ _ ⟨_, A, C2, ?_, Tm.cons (s := .val (.tup l)) ⟨p, _, rfl, .inl (.inl upd_same), RDs.mono s2 _ _ r1⟩ (Tm.mono (s1.trans s2) (fun _ _ e => e) fun q hq => tm q (List.mem_append_right _ hq))⟩ w1
  rw [q1]; exact sl.mono (s1.trans s2) fun _ _ e => e
theorem de_lst {r : DTA} (h : DA X es r) : DE X (.List es pos) (dLst r) := by
  obtain ⟨t, h1, h2⟩ := h
  refine ⟨_, pe_lst h1, fun c d T σ H Ψ Q F hw k => h2 c d T σ H _ _ F hw fun TT d1 H1 F1 ⟨hl, l, d2, e, w1⟩ => ?_⟩
  refine ⟨by rw [List.length_map] at hl ⊢; exact le_line hl, fun p hp => ?_⟩
  obtain ⟨B, A, C, sl, tm⟩ := F1
  obtain ⟨B1, C1, s1, r1, q1⟩ := C.fzs (Tm.paired tm) e
  exact k _ _ _ _ (Fit.new ⟨B1, A, C1, by rw [q1]; exact sl.mono s1 fun _ _ e => e, Tm.mono s1 (fun _ _ e => e) fun q hq => tm q (List.mem_append_right _ hq), r1⟩ hp) w1
end
end RH

set_option Elab.async false
set_option linter.all false
set_option maxRecDepth 100000
set_option maxHeartbeats 1000000
/-! the data layer, part c: statements, loops, comprehensions -/
namespace RH
open PySem PySem.Spec PyProof.Rows L2

/-! ### statements -/
section
variable {X : Cx} {e : Expr} {st : Stmt} {rest : List Stmt} {we : DTE} {w u : DTS} {pos : Pos}
theorem ds_nil : DSs X [] (fun d Φ => Φ.nx d) := ⟨_, pss_nil, fun c d T σ H Φ E F hw C => C.nx d σ H F hw⟩
def dSeq (w u : DTS) : DTS := fun d Φ => w d { Φ with nx := fun d1 => u d1 Φ }
theorem ds_cons (h : DSt X st w) (h' : DSs X rest u) : DSs X (st :: rest) (dSeq w u) := by
  obtain ⟨t, h1, h2⟩ := h
  obtain ⟨t', h3, h4⟩ := h'
  exact ⟨_, pss_cons h1 h3, fun c d T σ H Φ E F hw C => h2 c d T σ H _ _ F hw ⟨fun d1 σ1 H1 F1 w1 => h4 c d1 T σ1 H1 Φ E F1 w1 C, C.rt, C.bk, C.ct⟩⟩
theorem ds_one (h : DSt X st w) : DSs X [st] w := by
  obtain ⟨t, h1, h2⟩ := h
  exact ⟨_, pss_one h1, h2⟩
theorem ds_pass : DSt X (.Pass pos) (fun d Φ => Φ.nx d) := ⟨_, ps_pass, fun c d T σ H Φ E F hw C => C.nx d σ H F hw⟩
/-- a statement that is never come to -/
theorem ds_never : DSt X st (fun _ _ => False) := ⟨fun _ _ _ => False, ⟨fun _ _ _ _ _ _ h => h.elim⟩, fun _ _ _ _ _ _ _ _ h _ => h.elim⟩
def dRet (we : DTE) : DTS := fun d Φ => we d Φ.rt
theorem ds_ret (h : DE X e we) : DSt X (.Return (some e) pos) (dRet we) := by
  obtain ⟨t, h1, h2⟩ := h
  exact ⟨_, ps_ret h1, fun c d T σ H Φ E F hw C => h2 c d T σ H _ _ F hw fun s d' v H' F' w' => C.rt s d' v σ H' F' w'⟩
def dDrop (we : DTE) : DTS := fun d Φ => we d fun _ d1 => Φ.nx d1
theorem ds_expr (h : DE X e we) (hs : swapsWith e none pos.line X.env = pure false := by rfl) : DSt X (.Expr e pos) (dDrop we) := by
  obtain ⟨t, h1, h2⟩ := h
  exact ⟨_, ps_expr h1 hs, fun c d T σ H Φ E F hw C => h2 c d T σ H _ _ F hw fun s d' v H' F' w' => C.nx d' σ H' F'.drop w'⟩
def dIfS (t : DTT) (w u : DTS) : DTS := fun d Φ => t d fun b d1 => if b = true then w d1 Φ else u d1 Φ
theorem ds_if {t : Expr} {wt : DTT} {body els : List Stmt} (ht : DT X t wt) (hb : DSs X body w) (he : DSs X els u) : DSt X (.If t body els pos) (dIfS wt w u) := by
  obtain ⟨tt, h1, h2⟩ := ht
  obtain ⟨t1, h3, h4⟩ := hb
  obtain ⟨t2, h5, h6⟩ := he
  refine ⟨_, ps_if h1 h3 h5, fun c d T σ H Φ E F hw C => h2 c d T σ H _ _ F hw fun b d1 H1 F1 w1 => ?_⟩
  cases b with
  | true => exact h4 c d1 T σ H1 Φ E F1 w1 C
  | false => exact h6 c d1 T σ H1 Φ E F1 w1 C

/-! ### targets -/
abbrev DTG := S → DS → (DS → Prop) → Prop
/-- vs: the slots that the target may write -/
def SndG (K : PySem.W.Frag) (vs : List Nat) (t : TG) (g : DTG) : Prop := ∀ (c : Ctx) (d : DS) (T : List (V × S)) (σ : L2.St) (H : Hp) (v : V) (s : S) (Ψ : DS → Prop) (Q : L2.St → Hp → Prop), Fit K c d ((v, s) :: T) σ H → g s d Ψ → (∀ d' σ' H', Fit K c d' T σ' H' → wipe σ' vs = wipe σ vs → Ψ d' → Q σ' H') → t v σ H Q
def DG (X : Cx) (tg : Expr) (vs : List Nat) (g : DTG) : Prop := ∃ t, PG X tg t ∧ SndG X.K vs t g
def DS.put (d : DS) (i : Nat) (s : S) : DS := { d with r := d.r.set i s }
def dgName (i : Nat) : DTG := fun s d Ψ => i < d.r.length ∧ Ψ (d.put i s)
theorem wipe_set {σ : L2.St} {i : Nat} {v : Option V} : ∀ {vs : List Nat}, i ∈ vs → wipe (σ.set i v) vs = wipe σ vs
  | [], h => by cases h
  | j :: vs, h => by
    show (wipe (σ.set i v) vs).set j none = (wipe σ vs).set j none
    by_cases hi : i ∈ vs
    · rw [wipe_set hi]
    · have e : i = j := by
        rcases List.mem_cons.mp h with z | z
        · exact z
        · exact absurd z hi
      subst e
      have : ∀ (us : List Nat), i ∉ us → wipe (σ.set i v) us = (wipe σ us).set i v := by
        intro us
        induction us with
        | nil => intro _; rfl
        | cons k us ih =>
          intro hk
          show (wipe (σ.set i v) us).set k none = ((wipe σ us).set k none).set i v
          rw [ih fun z => hk (List.mem_cons_of_mem _ z), List.set_comm _ _ (show i ≠ k from fun z => hk (by subst z; exact List.mem_cons_self))]
      rw [this vs hi, List.set_set]
section
variable {K : PySem.W.Frag} {c : Ctx} {d : DS} {T : List (V × S)} {σ : L2.St} {H : Hp} {v : V} {s : S} {i : Nat}
theorem Fit.put (F : Fit K c d ((v, s) :: T) σ H) : Fit K c (d.put i s) T (σ.set i (some v)) H := by
  obtain ⟨B, A, C, sl, tm⟩ := F
  refine ⟨B, A, C, ⟨by simp [DS.put, sl.1], fun j s' v' h1 h2 => ?_⟩, fun p hp => tm p (List.mem_cons_of_mem _ hp)⟩
  have h0 : SR K c B A s v := tm _ List.mem_cons_self
  by_cases hj : i = j
  · subst hj
    have hlt : i < d.r.length := by
      have := (List.getElem?_eq_some_iff.mp h1).1
      simpa [DS.put] using this
    simp only [DS.put] at h1
    rw [List.getElem?_set_self hlt] at h1
    rw [List.getElem?_set_self (by rw [← sl.1]; exact hlt)] at h2
    cases h1
    cases h2
    cases s <;> exact h0
  · simp only [DS.put] at h1
    rw [List.getElem?_set_ne hj] at h1 h2
    exact sl.2 j s' v' h1 h2
end
theorem dg_name {i : Nat} {x : Str} {vs : List Nat} (hN : X.N.Nodup) (hi : X.N[i]? = some x) (hx : Loc X.env.scope x) (hv : i ∈ vs) (hf : X.fn x = true ∨ X.env.scope.names.lookup x = some .local := by first | exact .inl rfl | exact .inr rfl | assumption) : DG X (.Name x pos) vs (dgName i) :=
  ⟨_, pg_name hN hi hx hf, fun c d T σ H v s Ψ Q F hw k => k _ _ _ F.put (wipe_set hv) hw.2⟩
/-- a tuple of names, of a tuple -/
abbrev DTGs := List D → DS → (DS → Prop) → Prop
def SndGs (K : PySem.W.Frag) (vs : List Nat) (t : TGs) (g : DTGs) : Prop := ∀ (c : Ctx) (d : DS) (T : List (V × S)) (σ : L2.St) (H : Hp) (us : List V) (l : List D) (Ψ : DS → Prop) (Q : L2.St → Hp → Prop) (B : Hp) (A : List Addr), Core K c d.o d.n B A H → Sl K c B A d.r σ → Tm K c B A T → RDs K B l us → g l d Ψ → (∀ d' σ' H', Fit K c d' T σ' H' → wipe σ' vs = wipe σ vs → Ψ d' → Q σ' H') → t us σ H Q
def DGs (X : Cx) (ts : List Expr) (vs : List Nat) (g : DTGs) : Prop := ∃ t, PGs X ts t ∧ SndGs X.K vs t g
def dgNil : DTGs := fun l d Ψ => l = [] ∧ Ψ d
def dgCons (i : Nat) (r : DTGs) : DTGs := fun l d Ψ => i < d.r.length ∧ ∃ x l', l = x :: l' ∧ r l' (d.put i (.val x)) Ψ
theorem dgs_nil {vs : List Nat} : DGs X [] vs dgNil := ⟨_, pgs_nil, fun c d T σ H us l Ψ Q B A C sl tm r ⟨e, hw⟩ k => by
  subst e
  exact ⟨r, k d σ H ⟨B, A, C, sl, tm⟩ rfl hw⟩⟩
theorem dgs_cons {i : Nat} {x : Str} {vs : List Nat} {p : Pos} {es : List Expr} {g : DTGs} (hN : X.N.Nodup) (hi : X.N[i]? = some x) (hx : Loc X.env.scope x) (hv : i ∈ vs) (h : DGs X es vs g)
    (hs : (assignEach (.Name x p :: es) X.env).map (·.2) = assign (.Name x p) X.env :: (assignEach es X.env).map (·.2) := by rfl) (hf : X.fn x = true ∨ X.env.scope.names.lookup x = some .local := by first | exact .inl rfl | exact .inr rfl | assumption) : DGs X (.Name x p :: es) vs (dgCons i g) := by
  obtain ⟨t, h1, h2⟩ := h
  refine ⟨_, pgs_cons (pg_name hN hi hx hf) h1 hs, fun c d T σ H us l Ψ Q B A C sl tm r ⟨hl, x, l', e, hw⟩ k => ?_⟩
  subst e
  obtain ⟨v, us', e1, r1, r2⟩ := r
  subst e1
  have F : Fit X.K c d ((v, S.val x) :: T) σ H := ⟨B, A, C, sl, Tm.cons (s := .val x) r1 tm⟩
  have F2 := Fit.put (i := i) (⟨B, A, C, sl, Tm.cons (s := .val x) r1 tm⟩ : Fit X.K c d ((v, S.val x) :: T) σ H)
  have sl2 : Sl X.K c B A (d.put i (.val x)).r (σ.set i (some v)) := by
    refine ⟨by simp [DS.put, sl.1], fun j s' v' h1 h2 => ?_⟩
    by_cases hj : i = j
    · subst hj
      simp only [DS.put] at h1
      rw [List.getElem?_set_self hl] at h1
      rw [List.getElem?_set_self (by rw [← sl.1]; exact hl)] at h2
      cases h1
      cases h2
      exact r1
    · simp only [DS.put] at h1
      rw [List.getElem?_set_ne hj] at h1 h2
      exact sl.2 j s' v' h1 h2
  exact ⟨v, us', rfl, h2 c (d.put i (.val x)) T _ H us' l' Ψ Q B A C sl2 tm r2 hw fun d' σ' H' F' e' w' => k d' σ' H' F' (by rw [e', wipe_set hv]) w'⟩
def dgTup (n : Nat) (g : DTGs) : DTG := fun s d Ψ => ∃ l, s = .val (.tup l) ∧ l.length = n ∧ g l d Ψ
theorem dg_tup {es : List Expr} {k : Nat} {g : DTGs} {n : Nat} {vs : List Nat} (hc : X.calm = true) (h : DGs X es vs g) (hn : (assignEach es X.env).length = n := by rfl) (hst : (assignEach es X.env).findIdx? (·.1) = none := by rfl) : DG X (.Tuple es k pos) vs (dgTup n g) := by
  obtain ⟨t, h1, h2⟩ := h
  refine ⟨_, pg_tup hc h1 hn hst, fun c d T σ H v s Ψ Q F ⟨l, e, hl, hw⟩ k => ?_⟩
  subst e
  obtain ⟨B, A, C, sl, tm⟩ := F
  obtain ⟨a, us, e1, q, r⟩ : ∃ a us, v = .ref a ∧ SqT X.K B a us ∧ RDs X.K B l us := tm _ List.mem_cons_self
  subst e1
  exact ⟨a, us, rfl, sameT C.bh q, by rw [r.len, hl], h2 c d T σ H us l Ψ Q B A C sl (fun p hp => tm p (List.mem_cons_of_mem _ hp)) r hw k⟩

/-! ### assignments -/
def dSet (we : DTE) (g : DTG) : DTS := fun d Φ => we d fun s d1 => g s d1 Φ.nx
theorem ds_set {i : Nat} {x : Str} {pos' : Pos} (hN : X.N.Nodup) (hi : X.N[i]? = some x) (hx : Loc X.env.scope x) (h : DE X e we) (hs : swapsWith e (some (.Name x pos')) pos.line X.env = pure false := by rfl)
    (hf : X.fn x = true ∨ X.env.scope.names.lookup x = some .local := by first | exact .inl rfl | exact .inr rfl | assumption) : DSt X (.Assign [.Name x pos'] e pos) (dSet we (dgName i)) := by
  obtain ⟨t, h1, h2⟩ := h
  exact ⟨_, ps_set hN hi hx h1 hs hf, fun c d T σ H Φ E F hw C => h2 c d T σ H _ _ F hw fun s d1 v H1 F1 w1 => C.nx _ _ _ F1.put w1.2⟩
theorem ds_asg {tg : Expr} {g : DTG} {vs : List Nat} (h : DE X e we) (hg : DG X tg vs g) (hs : swapsWithSole [tg] e pos.line X.env = pure false := by rfl) (hw : swappedStores [tg] e X.env = pure none := by rfl)
    (h1 : (assignEach [tg] X.env).map (·.2) = [assign tg X.env] := by rfl) : DSt X (.Assign [tg] e pos) (dSet we g) := by
  obtain ⟨t, a1, a2⟩ := h
  obtain ⟨t', a3, a4⟩ := hg
  exact ⟨_, ps_asg a1 a3 hs hw h1, fun c d T σ H Φ E F hw C => a2 c d T σ H _ _ F hw fun s d1 v H1 F1 w1 => a4 c d1 T σ H1 v s _ _ F1 w1 fun d' σ' H' F' _ w' => C.nx d' σ' H' F' w'⟩
/-- a, b = x, y with plain names -/
def dPar (i j : Nat) (wa : DTA) : DTS := fun d Φ => wa d fun ss d1 => i < d1.r.length ∧ j < d1.r.length ∧ ∃ s s', ss = [s, s'] ∧ Φ.nx ((d1.put i s).put j s')
theorem ds_par {i j : Nat} {x y : Str} {a b : Expr} {wa : DTA} {px py pt : Pos} {kt k2 pt2} (hc : X.calm = true) (hN : X.N.Nodup) (hi : X.N[i]? = some x) (hj : X.N[j]? = some y) (hij : i ≠ j)
    (hx : X.env.scope.names.lookup x = some .local) (hy : X.env.scope.names.lookup y = some .local) (ha : DA X [a, b] wa)
    (hp : ∀ t, PA X [a, b] t → PS X (.Assign [.Tuple [.Name x px, .Name y py] kt pt] (.Tuple [a, b] k2 pt2) pos) (tPar i j t)) : DSt X (.Assign [.Tuple [.Name x px, .Name y py] kt pt] (.Tuple [a, b] k2 pt2) pos) (dPar i j wa) := by
  obtain ⟨t, h1, h2⟩ := ha
  refine ⟨_, hp t h1, fun c d T σ H Φ E F hw C => h2 c d T σ H _ _ F hw fun TT d1 H1 F1 ⟨l1, l2, s, s', e, w1⟩ => ?_⟩
  obtain ⟨p, r, rfl⟩ : ∃ p r, TT = p :: r := by
    cases TT with
    | nil => cases e
    | cons p r => exact ⟨p, r, rfl⟩
  obtain ⟨q, r', rfl⟩ : ∃ q r', r = q :: r' := by
    cases r with
    | nil => cases e
    | cons q r' => exact ⟨q, r', rfl⟩
  cases r' with
  | cons _ _ => cases e
  | nil =>
    cases e
    refine ⟨p.1, q.1, rfl, C.nx _ _ _ ?_ w1⟩
    exact Fit.put (Fit.put (T := (q.1, q.2) :: T) (F1.sub fun z hz => by
      rcases List.mem_cons.mp hz with z1 | z1
      · subst z1; exact List.mem_cons_self
      · rcases List.mem_cons.mp z1 with z2 | z2
        · subst z2; exact List.mem_cons_of_mem _ List.mem_cons_self
        · exact List.mem_append_right _ z2))

/-! ### forgetting the last lists -/
def trimS (m : Nat) : S → S
  | .own k => if k < m then .own k else .un
  | s => s
def DS.trim (m : Nat) (d : DS) : DS := ⟨d.r.map (trimS m), d.o.take m, d.n⟩
section
variable {K : PySem.W.Frag} {c : Ctx} {d : DS} {T : List (V × S)} {σ : L2.St} {H : Hp} {m : Nat}
theorem Fit.idx (F : Fit K c d T σ H) {p : V × S} {k : Nat} (hp : p ∈ T) (e : p.2 = .own k) : k < d.o.length := by
  obtain ⟨B, A, C, sl, tm⟩ := F
  have := tm p hp
  rw [e] at this
  obtain ⟨q, hq, _⟩ := this
  rw [← C.al]
  exact (List.getElem?_eq_some_iff.mp hq).1
theorem Fit.trim (F : Fit K c d T σ H) (hT : ∀ p ∈ T, ∀ k, p.2 = .own k → k < m) : Fit K c (d.trim m) T σ H := by
  obtain ⟨B, A, C, sl, tm⟩ := F
  have tk : ∀ (k : Nat) (p : Addr), (A.take m)[k]? = some p → k < m ∧ A[k]? = some p := fun k p h => by
    have hl := (List.getElem?_eq_some_iff.mp h).1
    rw [List.length_take] at hl
    have : k < m := by omega
    rw [List.getElem?_take_of_lt this] at h
    exact ⟨this, h⟩
  refine ⟨B, A.take m, ⟨C.b0, C.bh, C.bf, C.fr, by show _ = (d.o.take m).length; rw [List.length_take, List.length_take, C.al], fun i j p h1 h2 => C.nd i j p (tk i p h1).2 (tk j p h2).2, fun k p e h1 h2 => ?_, C.sm⟩, ⟨by simp [DS.trim, sl.1], fun i s v h1 h2 => ?_⟩, fun p hp => ?_⟩
  · have h2 : (d.o.take m)[k]? = some e := h2
    rw [List.getElem?_take_of_lt (tk k p h1).1] at h2
    exact C.ow k p e (tk k p h1).2 h2
  · have h1 : (d.r.map (trimS m))[i]? = some s := h1
    rw [List.getElem?_map] at h1
    cases q : d.r[i]? with
    | none => rw [q] at h1; cases h1
    | some s0 =>
      rw [q] at h1
      have h1 : trimS m s0 = s := Option.some.inj h1
      have h0 := sl.2 i s0 v q h2
      cases s0 with
      | un => subst h1; trivial
      | val x => subst h1; cases v <;> exact h0
      | strm => subst h1; cases v <;> exact h0
      | own j =>
        by_cases hj : j < m
        · have : s = .own j := by rw [← h1]; simp [trimS, hj]
          subst this
          cases v with
          | none => exact h0
          | some v =>
            obtain ⟨p, hp, ev⟩ : ∃ p, A[j]? = some p ∧ v = .ref p := h0
            exact ⟨p, by rw [List.getElem?_take_of_lt hj]; exact hp, ev⟩
        · have : s = .un := by rw [← h1]; simp [trimS, hj]
          subst this
          trivial
  · have h := tm p hp
    obtain ⟨v, s⟩ := p
    cases s with
    | own j =>
      obtain ⟨q, hq, ev⟩ := h
      exact ⟨q, by rw [List.getElem?_take_of_lt (hT _ hp j rfl)]; exact hq, ev⟩
    | _ => exact h
end

/-! ### loops -/
/-- the iterator J goes through items, the things at T1 being as they are -/
structure ItOk (K : PySem.W.Frag) (c : Ctx) (J : It) (T1 : List (V × S)) (items : List D) : Prop where
  go : ∀ (d : DS) (T : List (V × S)) (σ : L2.St) (H : Hp) (i : Nat) (x : D), Fit K c d T σ H → (∀ p ∈ T1, p ∈ T) → items[i]? = some x → J.go i H ∧ ∀ v H', J.yld i H v H' → Fit K c d ((v, .val x) :: T) σ H'
  stop : ∀ (d : DS) (T : List (V × S)) (σ : L2.St) (H : Hp) (i : Nat), Fit K c d T σ H → (∀ p ∈ T1, p ∈ T) → items.length ≤ i → J.stop i H
abbrev DTI := DS → (List D → DS → Prop) → Prop
def SndI (K : PySem.W.Frag) (t : TI) (w : DTI) : Prop := ∀ (c : Ctx) (d : DS) (T : List (V × S)) (σ : L2.St) (H : Hp) (Ψ : List D → DS → Prop) (R : It → Hp → Prop), Fit K c d T σ H → w d Ψ → (∀ items d1 J T1 H1, Fit K c d1 (T1 ++ T) σ H1 → ItOk K c J T1 items → Ψ items d1 → R J H1) → t σ H R
def DI (X : Cx) (tg iter : Expr) (w : DTI) : Prop := ∃ t, PI X tg iter t ∧ SndI X.K t w
/-- for: W by the turn -/
def dFor (wi : DTI) (g : DTG) (wb : DTS) : DTS := fun d Φ => wi d fun items d1 => ∃ W : Nat → DS → Prop, W 0 d1 ∧ (∀ i x d, items[i]? = some x → W i d → g (.val x) d fun d2 => wb d2 { Φ with nx := fun d3 => W (i + 1) (d3.trim d1.o.length), ct := fun d3 => W (i + 1) (d3.trim d1.o.length), bk := Φ.nx }) ∧ ∀ d, W items.length d → Φ.nx d
theorem ds_for {tg iter : Expr} {body : List Stmt} {wi : DTI} {g : DTG} {wb : DTS} {vs : List Nat} (hp : PassesOwn (model X.prog X.w) X.A X.env X.xe) (hc : X.calm = true) (hi : DI X tg iter wi) (hg : DG X tg vs g) (hb : DSs X body wb)
    (hs : ∀ x, foldedSetIterable iter X.env x = pure x := by intro _; rfl) : DSt X (.For tg iter body [] pos) (dFor wi g wb) := by
  obtain ⟨ti, i1, i2⟩ := hi
  obtain ⟨tg', g1, g2⟩ := hg
  obtain ⟨tb, b1, b2⟩ := hb
  refine ⟨_, ps_for hp hc i1 g1 b1 hs, fun c d T σ H Φ E F hw C => i2 c d T σ H _ _ F hw fun items d1 J T1 H1 F1 ok w1 => ?_⟩
  obtain ⟨W, w0, step, fin⟩ := w1
  refine ⟨fun i m σ' H' => m + i = items.length ∧ ∃ d', Fit X.K c d' (T1 ++ T) σ' H' ∧ W i d', ⟨items.length, by omega, d1, F1, w0⟩, fun i m σ' H' hW => ?_⟩
  obtain ⟨em, d', F', wi'⟩ := hW
  have inT : ∀ p ∈ T1, p ∈ T1 ++ T := fun p hp => List.mem_append_left _ hp
  by_cases hlt : i < items.length
  · have hx := List.getElem?_eq_getElem hlt
    obtain ⟨a1, a2⟩ := ok.go d' _ σ' H' i _ F' inT hx
    refine .inr ⟨a1, fun σ'' H'' => ∃ d'', Fit X.K c d'' (T1 ++ T) σ'' H'' ∧ W (i + 1) d'', fun σ'' H'' ⟨d'', F'', w''⟩ => ⟨m - 1, by omega, by omega, d'', F'', w''⟩, fun v H'' y => ?_⟩
    refine g2 c d' _ σ' H'' v _ _ _ (a2 v H'' y) (step i _ d' hx wi') fun d2 σ2 H2 F2 _ w2 => ?_
    refine b2 c d2 _ σ2 H2 _ _ F2 w2 ⟨fun d3 σ3 H3 F3 w3 => ⟨d3.trim d1.o.length, F3.trim fun p hp k e => F1.idx hp e, w3⟩, fun s d3 v3 σ3 H3 F3 w3 => C.rt s d3 v3 σ3 H3 (F3.sub fun p hp => ?_) w3, fun d3 σ3 H3 F3 w3 => C.nx d3 σ3 H3 (F3.sub fun p hp => List.mem_append_right _ hp) w3, fun d3 σ3 H3 F3 w3 => ⟨d3.trim d1.o.length, F3.trim fun p hp k e => F1.idx hp e, w3⟩⟩
    rcases List.mem_cons.mp hp with z | z
    · subst z; exact List.mem_cons_self
    · exact List.mem_cons_of_mem _ (List.mem_append_right _ z)
  · have e : i = items.length := by omega
    subst e
    exact .inl ⟨ok.stop d' _ σ' H' _ F' inT (Nat.le_refl _), C.nx d' σ' H' (F'.sub fun p hp => List.mem_append_right _ hp) (fin d' wi')⟩

/-! ### what is walked -/
/-- a list, a tuple or a text -/
def iSeq (K : PySem.W.Frag) (tl : TE) : TI := fun σ H R => tl σ H fun x H1 => (∃ y, x = .str y ∧ R (Its y) H1) ∨ ∃ a, x = .ref a ∧ (((∃ xs, SqL K H1 a xs) ∧ R (Itl K a) H1) ∨ ((∃ xs, SqT K H1 a xs) ∧ R (Itt K a) H1))
theorem pi_seq {l tg : Expr} {tl : TE} (hl : PE X l tl) : PI X tg l (iSeq X.K tl) := by
  refine ⟨fun pins s σ H R I h => ?_⟩
  refine thn (hl.run pins s σ H _ I h) fun v s1 ⟨x, H1, I1, r1, q1⟩ => ?_
  rcases q1 with ⟨y, e, q⟩ | ⟨a, e, q⟩
  · subst e
    obtain ⟨t, rfl⟩ := r1
    cases ha : y.cps.all (· < 128)
    · exact wpAny_pyIter_wide ha (pi_one (tk := s1.toks) I1 _ (turn_str _ y t "str_iterator" (.inr rfl)) ⟨_, Heap.get?_push_size _ rfl, rfl, rfl⟩ q)
    · exact wpAny_pyIter_ascii ha (pi_one (tk := s1.toks) I1 _ (turn_str _ y t "str_ascii_iterator" (.inl rfl)) ⟨_, Heap.get?_push_size _ rfl, rfl, rfl⟩ q)
  subst e
  cases r1
  rcases q with ⟨⟨xs, hq⟩, q⟩ | ⟨⟨xs, hq⟩, q⟩
  · obtain ⟨its, rv, p, hz⟩ := I1.list hq
    refine wpAny_pyIter_list p.isList ?_
    refine ⟨s1.heap.objs.size, [s1.heap.objs.size], _, _, H1, rfl, I1.kept (t' := s1.toks) fun b o e => Heap.get?_push_of_some _ e, turn_list a _, ⟨_, Heap.get?_push_size _ rfl, rfl, rfl⟩, fun b hb => ?_, q⟩
    have e : b = s1.heap.objs.size := by simpa using hb
    subst e
    exact I1.fpOk (Nat.le_refl _) (I1.hok.fresh (Nat.le_refl _))
  · obtain ⟨its, rv, p, hz⟩ := I1.tuple hq
    refine wpAny_pyIter_tuple (show s1.heap.IsTuple a its.toArray from p) ?_
    refine ⟨s1.heap.objs.size, [s1.heap.objs.size], _, _, H1, rfl, I1.kept (t' := s1.toks) fun b o e => Heap.get?_push_of_some _ e, turn_tuple a _, ⟨_, Heap.get?_push_size _ rfl, rfl, rfl⟩, fun b hb => ?_, q⟩
    have e : b = s1.heap.objs.size := by simpa using hb
    subst e
    exact I1.fpOk (Nat.le_refl _) (I1.hok.fresh (Nat.le_refl _))
/-- the items of a list, of a tuple -/
def seqD : D → Option (List D)
  | .lst l => some l
  | .tup l => some l
  | _ => none
/-- the signs of a text -/
def signs (y : Str) : List D := y.cps.toList.map fun c => .str ⟨#[c]⟩
def iterD : D → Option (List D)
  | .lst l => some l
  | .tup l => some l
  | .str y => some (signs y)
  | _ => none
theorem its_ok {K : PySem.W.Frag} {c : Ctx} {y : Str} : ItOk K c (Its y) [] (signs y) := by
  have sz : (signs y).length = y.cps.size := by simp [signs]
  refine ⟨fun d T σ H i x F _ hx => ?_, fun d T σ H i F _ hi => by rw [sz] at hi; exact hi⟩
  have hlt : i < y.cps.size := by rw [← sz]; exact (List.getElem?_eq_some_iff.mp hx).1
  refine ⟨hlt, fun v H' z => ?_⟩
  obtain ⟨e1, ch, e2, e3⟩ := z
  subst e1 e3
  have : x = .str ⟨#[ch]⟩ := by
    unfold signs at hx
    rw [List.getElem?_map, Array.getElem?_toList, e2] at hx
    exact (Option.some.inj hx).symm
  subst this
  exact F.push fun _ => rfl
def diSeq (w : DTE) : DTI := fun d Ψ => w d fun s d1 => ∃ x d2 l, fz d1 s = some (x, d2) ∧ iterD x = some l ∧ Ψ l d2
theorem di_seq {l tg : Expr} (h : DE X l we) : DI X tg l (diSeq we) := by
  obtain ⟨t, h1, h2⟩ := h
  refine ⟨_, pi_seq h1, fun c d T σ H Ψ R F hw k => h2 c d T σ H _ _ F hw fun s d1 v H1 F1 ⟨x, d2, l, e1, e2, w1⟩ => ?_⟩
  have F2 := F1.fz e1
  have base : ∀ (d : DS) (T' : List (V × S)) (σ : L2.St) (H : Hp), Fit X.K c d T' σ H → (v, S.val x) ∈ T' → ∃ B A, Core X.K c d.o d.n B A H ∧ Sl X.K c B A d.r σ ∧ Tm X.K c B A T' ∧ RD X.K B x v := fun d T' σ H F hp => by
    obtain ⟨B, A, C, sl, tm⟩ := F
    exact ⟨B, A, C, sl, tm, tm _ hp⟩
  cases x with
  | lst l' =>
    cases e2
    obtain ⟨B, A, C, sl, tm, a, us, r1, r2, r3⟩ := base d2 _ σ H1 F2 List.mem_cons_self
    subst r1
    refine .inr ⟨a, rfl, .inl ⟨⟨us, .inl (.inl (C.bh _ _ r2))⟩, k l d2 (Itl X.K a) [(.ref a, .val (.lst l))] H1 F2 ⟨fun d T' σ H i x F' hp hx => ?_, fun d T' σ H i F' hp hi => ?_⟩ w1⟩⟩
    · obtain ⟨B, A, C, sl, tm, a', us, r1, r2, r3⟩ := base d T' σ H F' (hp _ List.mem_cons_self)
      cases r1
      obtain ⟨u, hu, ru⟩ := RDs.get r3 hx
      refine ⟨⟨us, u, .inl (.inl (C.bh _ _ r2)), hu⟩, fun v H' y => ?_⟩
      obtain ⟨e, y⟩ := y
      subst e
      have := y us (.inl (.inl (C.bh _ _ r2)))
      rw [hu] at this
      cases this
      exact ⟨B, A, C, sl, Tm.cons (s := .val x) ru tm⟩
    · obtain ⟨B, A, C, sl, tm, a', us, r1, r2, r3⟩ := base d T' σ H F' (hp _ List.mem_cons_self)
      cases r1
      exact ⟨us, .inl (.inl (C.bh _ _ r2)), by rw [r3.len]; exact hi⟩
  | tup l' =>
    cases e2
    obtain ⟨B, A, C, sl, tm, a, us, r1, r2, r3⟩ := base d2 _ σ H1 F2 List.mem_cons_self
    subst r1
    refine .inr ⟨a, rfl, .inr ⟨⟨us, sameT C.bh r2⟩, k l d2 (Itt X.K a) [(.ref a, .val (.tup l))] H1 F2 ⟨fun d T' σ H i x F' hp hx => ?_, fun d T' σ H i F' hp hi => ?_⟩ w1⟩⟩
    · obtain ⟨B, A, C, sl, tm, a', us, r1, r2, r3⟩ := base d T' σ H F' (hp _ List.mem_cons_self)
      cases r1
      obtain ⟨u, hu, ru⟩ := RDs.get r3 hx
      refine ⟨⟨us, u, sameT C.bh r2, hu⟩, fun v H' y => ?_⟩
      obtain ⟨e, y⟩ := y
      subst e
      have := y us (sameT C.bh r2)
      rw [hu] at this
      cases this
      exact ⟨B, A, C, sl, Tm.cons (s := .val x) ru tm⟩
    · obtain ⟨B, A, C, sl, tm, a', us, r1, r2, r3⟩ := base d T' σ H F' (hp _ List.mem_cons_self)
      cases r1
      exact ⟨us, sameT C.bh r2, by rw [r3.len]; exact hi⟩
  | str y =>
    cases e2
    have hv : v = .str y := F2.look List.mem_cons_self rfl
    exact .inl ⟨y, hv, k _ d2 _ [] H1 F2.drop its_ok w1⟩
  | _ => cases e2
/-- range(n), range(m, n) -/
def rng (lo : Int) (n : Nat) : List D := (List.range n).map fun (i : Nat) => D.int (lo + (i : Int))
theorem rng_len {lo : Int} {n : Nat} : (rng lo n).length = n := by simp [rng]
theorem rng_get {lo : Int} {n i : Nat} {x : D} (h : (rng lo n)[i]? = some x) : i < n ∧ x = .int (lo + i) := by
  unfold rng at h
  rw [List.getElem?_map] at h
  cases e : (List.range n)[i]? with
  | none => rw [e] at h; cases h
  | some j =>
    rw [e] at h
    have := List.getElem?_eq_some_iff.mp e
    obtain ⟨h1, h2⟩ := this
    rw [List.length_range] at h1
    rw [List.getElem_range] at h2
    subst h2
    exact ⟨h1, (Option.some.inj h).symm⟩
theorem itr_ok {K : PySem.W.Frag} {c : Ctx} {lo : Int} {n : Nat} : ItOk K c (Itr lo n) [] (rng lo n) :=
  ⟨fun d T σ H i x F _ hx => by
    obtain ⟨h1, h2⟩ := rng_get hx
    subst h2
    refine ⟨h1, fun v H' y => ?_⟩
    obtain ⟨e1, e2⟩ := y
    subst e1 e2
    exact F.push fun _ => rfl, fun d T σ H i F _ hi => by rw [rng_len] at hi; exact hi⟩
def diRng1 (w : DTA) : DTI := fun d Ψ => w d fun ss d1 => ∃ j : Int, ss = [.val (.int j)] ∧ -1000000000 ≤ j ∧ j ≤ 1000000000 ∧ Ψ (rng 0 j.toNat) d1
def diRng2 (w : DTA) : DTI := fun d Ψ => w d fun ss d1 => ∃ i j : Int, ss = [.val (.int i), .val (.int j)] ∧ (-1000000000 ≤ i ∧ i ≤ 1000000000 ∧ -1000000000 ≤ j ∧ j ≤ 1000000000) ∧ Ψ (rng i (j - i).toNat) d1
theorem one_arg {K : PySem.W.Frag} {c : Ctx} {d : DS} {TT T : List (V × S)} {σ : L2.St} {H : Hp} {s : S} (F : Fit K c d (TT ++ T) σ H) (e : TT.map (·.2) = [s]) : ∃ v, TT = [(v, s)] := by
  cases TT with
  | nil => cases e
  | cons p r =>
    cases r with
    | cons _ _ => cases e
    | nil => cases e; exact ⟨p.1, rfl⟩
theorem two_arg {TT : List (V × S)} {s s' : S} (e : TT.map (·.2) = [s, s']) : ∃ v v', TT = [(v, s), (v', s')] := by
  match TT, e with
  | [p, q], e => cases e; exact ⟨p.1, q.1, rfl⟩
theorem di_rng1 {tg : Expr} {es : List Expr} {wa : DTA} {p pos : Pos} (hp : ∀ t, PA X es t → PI X tg (.Call (.Name "range" p) es [] pos) (iRng1 t)) (h : DA X es wa) : DI X tg (.Call (.Name "range" p) es [] pos) (diRng1 wa) := by
  obtain ⟨t, h1, h2⟩ := h
  refine ⟨_, hp t h1, fun c d T σ H Ψ R F hw k => h2 c d T σ H _ _ F hw fun TT d1 H1 F1 ⟨j, e, l1, l2, w1⟩ => ?_⟩
  obtain ⟨v, rfl⟩ := one_arg F1 e
  have hv : v = .int j := F1.look List.mem_cons_self rfl
  subst hv
  exact ⟨j, rfl, by omega, by omega, k _ d1 _ [] H1 F1.drop itr_ok w1⟩
theorem di_rng2 {tg : Expr} {es : List Expr} {wa : DTA} {p pos : Pos} (hp : ∀ t, PA X es t → PI X tg (.Call (.Name "range" p) es [] pos) (iRng2 t)) (h : DA X es wa) : DI X tg (.Call (.Name "range" p) es [] pos) (diRng2 wa) := by
  obtain ⟨t, h1, h2⟩ := h
  refine ⟨_, hp t h1, fun c d T σ H Ψ R F hw k => h2 c d T σ H _ _ F hw fun TT d1 H1 F1 ⟨i, j, e, ⟨l1, l2, l3, l4⟩, w1⟩ => ?_⟩
  obtain ⟨v, v', rfl⟩ := two_arg e
  have hv : v = .int i := F1.look List.mem_cons_self rfl
  have hv' : v' = .int j := F1.look (List.mem_cons_of_mem _ List.mem_cons_self) rfl
  subst hv hv'
  exact ⟨i, j, rfl, ⟨by omega, by omega, by omega, by omega⟩, k _ d1 _ [] H1 F1.drop.drop itr_ok w1⟩

/-! ### comprehensions -/
def wipeR (r : List S) : List Nat → List S
  | [] => r
  | v :: vs => (wipeR r vs).set v .un
def DTs (X : Cx) (ifs : List Expr) (w : DTT) : Prop := ∃ t, PTs X ifs t ∧ SndT X.K t w
def dYes : DTT := fun d Ψ => Ψ true d
theorem dts_nil : DTs X [] dYes := ⟨_, pts_nil, fun c d T σ H Ψ Q F hw k => k true d H F hw⟩
theorem wipe_fit {K : PySem.W.Frag} {c : Ctx} {B : Hp} {A : List Addr} {r : List S} {σ : L2.St} (h : Sl K c B A r σ) : ∀ vs : List Nat, Sl K c B A (wipeR r vs) (wipe σ vs)
  | [] => h
  | v :: vs => by
    have ih := wipe_fit h vs
    refine ⟨by show ((wipeR r vs).set v .un).length = ((wipe σ vs).set v none).length; rw [List.length_set, List.length_set, ih.1], fun i s o h1 h2 => ?_⟩
    have h1 : ((wipeR r vs).set v .un)[i]? = some s := h1
    have h2 : ((wipe σ vs).set v none)[i]? = some o := h2
    by_cases hi : v = i
    · subst hi
      have hlt : v < (wipeR r vs).length := by have := (List.getElem?_eq_some_iff.mp h1).1; simpa using this
      rw [List.getElem?_set_self hlt] at h1
      cases h1
      trivial
    · rw [List.getElem?_set_ne hi] at h1 h2
      exact ih.2 i s o h1 h2
theorem wipe_back {K : PySem.W.Frag} {c : Ctx} {B : Hp} {A : List Addr} {r : List S} {σ σ2 : L2.St} {vs : List Nat} (h : Sl K c B A r σ2) (e : wipe σ2 vs = wipe σ vs) : Sl K c B A (wipeR r vs) σ := by
  have h1 := wipe_fit h vs
  rw [e] at h1
  have unk : ∀ (us : List Nat) (i : Nat) (s : S), i ∈ us → (wipeR r us)[i]? = some s → s = .un := by
    intro us
    induction us with
    | nil => intro i s hi; cases hi
    | cons k us ih =>
      intro i s hi hs
      have hs : ((wipeR r us).set k .un)[i]? = some s := hs
      by_cases hk : k = i
      · subst hk
        have hlt : k < (wipeR r us).length := by have := (List.getElem?_eq_some_iff.mp hs).1; simpa using this
        rw [List.getElem?_set_self hlt] at hs
        exact (Option.some.inj hs).symm
      · rw [List.getElem?_set_ne hk] at hs
        rcases List.mem_cons.mp hi with z | z
        · exact absurd z.symm hk
        · exact ih i s z hs
  have same : ∀ (us : List Nat) (i : Nat), i ∉ us → (wipe σ us)[i]? = σ[i]? := by
    intro us
    induction us with
    | nil => intro i _; rfl
    | cons k us ih =>
      intro i hi
      show ((wipe σ us).set k none)[i]? = σ[i]?
      rw [List.getElem?_set_ne (fun z => hi (by subst z; exact List.mem_cons_self)), ih i fun z => hi (List.mem_cons_of_mem _ z)]
  refine ⟨by rw [h1.1, wipe_length], fun i s o a1 a2 => ?_⟩
  by_cases hi : i ∈ vs
  · rw [unk vs i s hi a1]; trivial
  · exact h1.2 i s o a1 (by rw [same vs i hi]; exact a2)
/-- [e for tg in iter if t]: I tells, after i items, of the list made and of the number of draws -/
def dLc (wi : DTI) (g : DTG) (tt : DTT) (we : DTE) (vs : List Nat) : DTE := fun d Ψ => wi d fun items d1 => ∃ I : Nat → List D → Nat → Prop, I 0 [] d1.n ∧
  (∀ i x acc n, items[i]? = some x → I i acc n → g (.val x) ⟨wipeR d1.r vs, d1.o ++ [(true, acc)], n⟩ fun d2 => tt d2 fun b d3 => if b = true then we d3 fun s d4 => ∃ e d5, fz d4 s = some (e, d5) ∧ wipeR d5.r vs = wipeR d1.r vs ∧ d5.o.take (d1.o.length + 1) = d1.o ++ [(true, acc)] ∧ acc.length ≤ 1000000 ∧ I (i + 1) (acc ++ [e]) d5.n
    else wipeR d3.r vs = wipeR d1.r vs ∧ d3.o.take (d1.o.length + 1) = d1.o ++ [(true, acc)] ∧ I (i + 1) acc d3.n) ∧
  ∀ acc n, I items.length acc n → Ψ (.own d1.o.length) ⟨wipeR d1.r vs, d1.o ++ [(true, acc)], n⟩
theorem wipeR_idem (r : List S) (vs : List Nat) : wipeR (wipeR r vs) vs = wipeR r vs := by
  have un : ∀ (us : List Nat) (k : Nat), k ∈ us → k < (wipeR r us).length → (wipeR r us)[k]? = some .un := by
    intro us
    induction us with
    | nil => intro k h; cases h
    | cons l us ih2 =>
      intro k h hl
      show ((wipeR r us).set l .un)[k]? = some .un
      have hl : k < ((wipeR r us).set l .un).length := hl
      rw [List.length_set] at hl
      by_cases hk : l = k
      · subst hk; rw [List.getElem?_set_self hl]
      · rw [List.getElem?_set_ne hk]
        rcases List.mem_cons.mp h with z | z
        · exact absurd z.symm hk
        · exact ih2 k z hl
  have gen : ∀ (a : List Nat), (∀ x ∈ a, x ∈ vs) → wipeR (wipeR r vs) a = wipeR r vs := by
    intro a hab
    induction a with
    | nil => rfl
    | cons k a ih =>
      show (wipeR (wipeR r vs) a).set k .un = wipeR r vs
      rw [ih fun x hx => hab x (List.mem_cons_of_mem _ hx)]
      apply List.ext_getElem?
      intro j
      by_cases hj : k = j
      · subst hj
        by_cases hlt : k < (wipeR r vs).length
        · rw [List.getElem?_set_self hlt]
          exact (un vs k (hab k List.mem_cons_self) hlt).symm
        · rw [List.getElem?_eq_none (by simpa using hlt), List.getElem?_eq_none (by simpa using hlt)]
      · rw [List.getElem?_set_ne hj]
  exact gen vs fun _ h => h
/-- what is not known may be less known -/
theorem wipeR_sl {K : PySem.W.Frag} {c : Ctx} {B : Hp} {A : List Addr} {σ : L2.St} {vs : List Nat} : ∀ {r : List S}, Sl K c B A r σ → Sl K c B A (wipeR r vs) σ := fun {r} h => wipe_back h rfl
/-- the things that stay are on the way, the list at D too -/
theorem snd_lc {K : PySem.W.Frag} {ti : TI} {tg : TG} {ts : TT} {te : TE} {wi : DTI} {g : DTG} {tt : DTT} {vs : List Nat} (hi : SndI K ti wi) (hg : SndG K vs tg g) (ht : SndT K ts tt) (he : SndE K te we) : SndE K (tLc ti tg ts te vs) (dLc wi g tt we vs) := by
  intro c d T σ H Ψ Q F hw k
  refine hi c d T σ H _ _ F hw fun items d1 J T1 H1 F1 ok w1 => ?_
  obtain ⟨I, w0, step, fin⟩ := w1
  intro D hD
  have FD : Fit K c (d1.new []) ((.ref D, .own d1.o.length) :: (T1 ++ T)) σ (upd H1 D (.lst [])) := by
    obtain ⟨B, A, C, sl, tm⟩ := F1
    exact Fit.new ⟨B, A, C, sl, tm, rfl⟩ hD
  have tI : ∀ p ∈ (V.ref D, S.own d1.o.length) :: (T1 ++ T), ∀ k, p.2 = .own k → k < d1.o.length + 1 := fun p hp k e => by
    have := FD.idx hp e
    simpa [DS.new] using this
  have FD2 : Fit K c ⟨wipeR d1.r vs, d1.o ++ [(true, [])], d1.n⟩ ((.ref D, .own d1.o.length) :: (T1 ++ T)) σ (upd H1 D (.lst [])) := by
    obtain ⟨B, A, C, sl, tm⟩ := FD
    exact ⟨B, A, C, wipeR_sl sl, tm⟩
  have noun : ∀ s ∈ wipeR d1.r vs, trimS (d1.o.length + 1) s = s := by
    have h1 : ∀ s ∈ d1.r, trimS (d1.o.length + 1) s = s := fun s hs => by
      obtain ⟨i, hi⟩ := List.getElem?_of_mem hs
      cases s with
      | own k =>
        obtain ⟨B, A, C, sl, tm⟩ := F1
        have hlt : i < σ.length := by rw [← sl.1]; exact (List.getElem?_eq_some_iff.mp hi).1
        have := sl.2 i _ _ hi (List.getElem?_eq_getElem hlt)
        cases e : σ[i] with
        | none => rw [e] at this; exact this.elim
        | some v =>
          rw [e] at this
          obtain ⟨p, hp, _⟩ : ∃ p, A[k]? = some p ∧ v = .ref p := this
          have := (List.getElem?_eq_some_iff.mp hp).1
          rw [C.al] at this
          simp [trimS]; omega
      | _ => rfl
    have h2 : ∀ (us : List Nat), ∀ s ∈ wipeR d1.r us, trimS (d1.o.length + 1) s = s := by
      intro us
      induction us with
      | nil => exact h1
      | cons k us ih =>
        intro s hs
        rcases List.mem_or_eq_of_mem_set hs with z | z
        · exact ih s z
        · subst z; rfl
    exact h2 vs
  have trimr : (wipeR d1.r vs).map (trimS (d1.o.length + 1)) = wipeR d1.r vs := by
    have : ∀ l : List S, (∀ s ∈ l, trimS (d1.o.length + 1) s = s) → l.map (trimS (d1.o.length + 1)) = l := by
      intro l
      induction l with
      | nil => intro _; rfl
      | cons a l ih => intro h; rw [List.map_cons, h a List.mem_cons_self, ih fun s hs => h s (List.mem_cons_of_mem _ hs)]
    exact this _ noun
  -- behind an item: all that is new is forgotten, but the list
  have back : ∀ (d5 : DS) (acc : List RH.D) (σ' : L2.St) (H' : Hp), Fit K c d5 ((V.ref D, S.own d1.o.length) :: (T1 ++ T)) σ' H' → wipeR d5.r vs = wipeR d1.r vs → d5.o.take (d1.o.length + 1) = d1.o ++ [(true, acc)] → wipe σ' vs = wipe σ vs → Fit K c ⟨wipeR d1.r vs, d1.o ++ [(true, acc)], d5.n⟩ ((V.ref D, S.own d1.o.length) :: (T1 ++ T)) σ H' := fun d5 acc σ' H' F5 e1 e2 e3 => by
    have F6 : Fit K c { d5 with r := wipeR d5.r vs } ((V.ref D, S.own d1.o.length) :: (T1 ++ T)) σ H' := by
      obtain ⟨B, A, C, sl, tm⟩ := F5
      exact ⟨B, A, C, wipe_back sl e3, tm⟩
    have F7 := F6.trim tI
    have : (DS.trim (d1.o.length + 1) { d5 with r := wipeR d5.r vs }) = ⟨wipeR d1.r vs, d1.o ++ [(true, acc)], d5.n⟩ := by
      unfold DS.trim
      simp only
      rw [e1, e2, trimr]
    rw [← this]; exact F7
  refine ⟨fun i m H' => m + i = items.length ∧ ∃ acc n, Fit K c ⟨wipeR d1.r vs, d1.o ++ [(true, acc)], n⟩ ((.ref D, .own d1.o.length) :: (T1 ++ T)) σ H' ∧ I i acc n, ⟨items.length, by omega, _, _, FD2, w0⟩, fun i m H' hW => ?_⟩
  obtain ⟨em, acc, n, F', wi'⟩ := hW
  have inT : ∀ p ∈ T1, p ∈ (V.ref D, S.own d1.o.length) :: (T1 ++ T) := fun p hp => List.mem_cons_of_mem _ (List.mem_append_left _ hp)
  by_cases hlt : i < items.length
  · have hx := List.getElem?_eq_getElem hlt
    obtain ⟨a1, a2⟩ := ok.go _ _ σ H' i _ F' inT hx
    refine .inr ⟨a1, fun H'' => ∃ acc n, Fit K c ⟨wipeR d1.r vs, d1.o ++ [(true, acc)], n⟩ ((.ref D, .own d1.o.length) :: (T1 ++ T)) σ H'' ∧ I (i + 1) acc n, fun H'' ⟨acc, n, F'', w''⟩ => ⟨m - 1, by omega, by omega, acc, n, F'', w''⟩, fun v H'' y => ?_⟩
    have F2 : Fit K c ⟨wipeR d1.r vs, d1.o ++ [(true, acc)], n⟩ ((v, .val items[i]) :: (V.ref D, S.own d1.o.length) :: (T1 ++ T)) (wipe σ vs) H'' := by
      obtain ⟨B, A, C, sl, tm⟩ := a2 v H'' y
      have := wipe_fit sl vs
      rw [wipeR_idem] at this
      exact ⟨B, A, C, this, tm⟩
    refine hg c _ _ (wipe σ vs) H'' v _ _ _ F2 (step i _ acc n hx wi') fun d2 σ2 H2 F2 e2 w2 => ?_
    have e2' : wipe σ2 vs = wipe σ vs := by
      rw [e2]
      have : ∀ us : List Nat, wipe (wipe σ us) us = wipe σ us := by
        intro us
        have gen : ∀ (a b : List Nat), (∀ x ∈ a, x ∈ b) → wipe (wipe σ b) a = wipe σ b := by
          intro a b hab
          induction a with
          | nil => rfl
          | cons k a ih =>
            show (wipe (wipe σ b) a).set k none = wipe σ b
            rw [ih fun x hx => hab x (List.mem_cons_of_mem _ hx)]
            apply List.ext_getElem?
            intro j
            by_cases hj : k = j
            · subst hj
              by_cases hlt : k < (wipe σ b).length
              · rw [List.getElem?_set_self hlt]
                have hb := hab k List.mem_cons_self
                have : ∀ us : List Nat, k ∈ us → k < (wipe σ us).length → (wipe σ us)[k]? = some none := by
                  intro us
                  induction us with
                  | nil => intro h; cases h
                  | cons l us ih2 =>
                    intro h hl
                    show ((wipe σ us).set l none)[k]? = some none
                    have hl : k < ((wipe σ us).set l none).length := hl
                    rw [List.length_set] at hl
                    by_cases hk : l = k
                    · subst hk; rw [List.getElem?_set_self hl]
                    · rw [List.getElem?_set_ne hk]
                      rcases List.mem_cons.mp h with z | z
                      · exact absurd z.symm hk
                      · exact ih2 z hl
                exact (this b hb hlt).symm
              · rw [List.getElem?_eq_none (by simpa using hlt), List.getElem?_eq_none (by simpa using hlt)]
            · rw [List.getElem?_set_ne hj]
        exact gen us us fun _ h => h
      exact this vs
    refine ⟨e2', ht c d2 _ σ2 H2 _ _ F2 w2 fun b d3 H3 F3 w3 => ?_⟩
    cases b with
    | false =>
      obtain ⟨w3a, w3b, w3c⟩ := w3
      exact ⟨acc, d3.n, back d3 acc σ2 H3 F3 w3a w3b e2', w3c⟩
    | true =>
      refine he c d3 _ σ2 H3 _ _ F3 w3 fun s d4 v4 H4 F4 ⟨x, d5, e5, er, eo, hl, w5⟩ => ?_
      have F5 := F4.fz e5
      have ho : d5.o[d1.o.length]? = some (true, acc) := by
        rw [← List.getElem?_take_of_lt (Nat.lt_succ_self d1.o.length), eo]
        simp
      obtain ⟨B, A, C, sl, tm⟩ := F5
      obtain ⟨p, hp, ep⟩ : ∃ p, A[d1.o.length]? = some p ∧ V.ref D = .ref p := tm _ (List.mem_cons_of_mem _ List.mem_cons_self)
      cases ep
      obtain ⟨_, _, us, hu, ru, _⟩ := C.ow _ _ _ hp ho
      have rx : RD K B x v4 := tm _ List.mem_cons_self
      have ra : RDs K B (acc ++ [x]) (us ++ [v4]) := RDs.app ru ⟨v4, [], rfl, rx, rfl⟩
      refine ⟨us, hu, ?_, acc ++ [x], d5.n, ?_, w5⟩
      · rw [ru.len]; exact Nat.lt_of_le_of_lt hl (by decide)
      · refine back { d5 with o := d5.o.set d1.o.length (true, acc ++ [x]) } (acc ++ [x]) σ2 _ ⟨B, A, C.write ho hp ra, sl, fun q hq => tm q (List.mem_cons_of_mem _ hq)⟩ er ?_ e2'
        show (d5.o.set d1.o.length (true, acc ++ [x])).take (d1.o.length + 1) = d1.o ++ [(true, acc ++ [x])]
        rw [List.take_set, eo]
        simp
  · have e : i = items.length := by omega
    subst e
    refine .inl ⟨ok.stop _ _ σ H' _ F' inT (Nat.le_refl _), k _ _ _ H' (F'.sub fun p hp => ?_) (fin acc n wi')⟩
    rcases List.mem_cons.mp hp with z | z
    · subst z; exact List.mem_cons_self
    · exact List.mem_cons_of_mem _ (List.mem_append_right _ z)
end
end RH

set_option Elab.async false
set_option linter.all false
set_option maxRecDepth 100000
set_option maxHeartbeats 1000000
/-! the data layer, part d: comprehensions as expressions, calls of defs -/
namespace RH
open PySem PySem.Spec PyProof.Rows L2

/-! ### one reading for a family of contexts -/
theorem DE.unif {ι : Type} {Xs : ι → Cx} {K : PySem.W.Frag} {e : Expr} {w : DTE} (hK : ∀ i, (Xs i).K = K) (h : ∀ i, DE (Xs i) e w) : ∃ t, (∀ i, PE (Xs i) e t) ∧ SndE K t w := by
  refine ⟨fun σ H Q => ∀ i, ∃ t, PE (Xs i) e t ∧ t σ H Q, fun i => ⟨fun pins s σ H Q I hq => ?_⟩, fun c d T σ H Ψ Q F hw k i => ?_⟩
  · obtain ⟨t, h1, h2⟩ := hq i
    exact h1.run pins s σ H Q I h2
  · obtain ⟨t, h1, h2⟩ := h i
    rw [hK i] at h2
    exact ⟨t, h1, h2 c d T σ H Ψ Q F hw k⟩
theorem DTs.unif {ι : Type} {Xs : ι → Cx} {K : PySem.W.Frag} {e : List Expr} {w : DTT} (hK : ∀ i, (Xs i).K = K) (h : ∀ i, DTs (Xs i) e w) : ∃ t, (∀ i, PTs (Xs i) e t) ∧ SndT K t w := by
  refine ⟨fun σ H Q => ∀ i, ∃ t, PTs (Xs i) e t ∧ t σ H Q, fun i => ⟨fun pins s σ H Q I hq => ?_⟩, fun c d T σ H Ψ Q F hw k i => ?_⟩
  · obtain ⟨t, h1, h2⟩ := hq i
    exact h1.run pins s σ H Q I h2
  · obtain ⟨t, h1, h2⟩ := h i
    rw [hK i] at h2
    exact ⟨t, h1, h2 c d T σ H Ψ Q F hw k⟩
theorem DG.unif {ι : Type} {Xs : ι → Cx} {K : PySem.W.Frag} {e : Expr} {vs : List Nat} {w : DTG} (hK : ∀ i, (Xs i).K = K) (h : ∀ i, DG (Xs i) e vs w) : ∃ t, (∀ i, PG (Xs i) e t) ∧ SndG K vs t w := by
  refine ⟨fun v σ H Q => ∀ i, ∃ t, PG (Xs i) e t ∧ t v σ H Q, fun i => ⟨fun pins s σ H v u Q I r hq => ?_⟩, fun c d T σ H v s Ψ Q F hw k i => ?_⟩
  · obtain ⟨t, h1, h2⟩ := hq i
    exact h1.run pins s σ H v u Q I r h2
  · obtain ⟨t, h1, h2⟩ := h i
    rw [hK i] at h2
    exact ⟨t, h1, h2 c d T σ H v s Ψ Q F hw k⟩
/-- the contexts of a comprehension's block -/
structure BlkI where
  s : Shared
  H : Hp
  C : Addr
  cl : List (Str × Addr)
  fp : List Addr
abbrev blkX (X : Cx) (scope : Scope) (i : BlkI) : Cx := X.blk i.s i.H scope (compEnvC scope i.cl i.C X.env) i.fp
section
variable {X : Cx} {elt tg iter : Expr} {ifs : List Expr} {scope : Scope} {own : List (Str × Nat)} {pos : Pos} {wi : DTI} {g : DTG} {tt : DTT} {we : DTE}
theorem de_lc (own : List (Str × Nat)) (hc : X.calm = true) (hN : X.N.Nodup) (hi : DI X tg iter wi) (ok : BlkOk X.N X.env.scope scope own) (hg : ∀ i, DG (blkX X scope i) tg (own.map (·.2)) g) (ht : ∀ i, DTs (blkX X scope i) ifs tt) (he : ∀ i, DE (blkX X scope i) elt we)
    (hs : ∀ x, foldedSetIterable iter X.env x = pure x := by intro _; rfl) : DE X (.ListComp elt [⟨tg, iter, ifs, 0⟩] scope pos) (dLc wi g tt we (own.map (·.2))) := by
  obtain ⟨ti, i1, i2⟩ := hi
  obtain ⟨tg', g1, g2⟩ := DG.unif (Xs := fun i => blkX X scope i) (K := X.K) (fun _ => rfl) hg
  obtain ⟨ts, t1, t2⟩ := DTs.unif (Xs := fun i => blkX X scope i) (K := X.K) (fun _ => rfl) ht
  obtain ⟨te, e1, e2⟩ := DE.unif (Xs := fun i => blkX X scope i) (K := X.K) (fun _ => rfl) he
  exact ⟨_, pe_lc hc hN i1 ok (fun s H C cl fp => g1 ⟨s, H, C, cl, fp⟩) (fun s H C cl fp => t1 ⟨s, H, C, cl, fp⟩) (fun s H C cl fp => e1 ⟨s, H, C, cl, fp⟩) hs, snd_lc i2 g2 t2 e2⟩
/-- name = [..] -/
theorem ds_setLc (own : List (Str × Nat)) {i : Nat} {y : Str} {py : Pos} {spos : Pos} (hc : X.calm = true) (hN : X.N.Nodup) (hy : X.N[i]? = some y) (hyl : X.env.scope.names.lookup y = some .local)
    (hsw : swapsWith (.ListComp elt [⟨tg, iter, ifs, 0⟩] scope pos) (some (.Name y py)) spos.line X.env = pure true) (hi : DI X tg iter wi) (ok : BlkOk X.N X.env.scope scope own) (hg : ∀ i, DG (blkX X scope i) tg (own.map (·.2)) g) (ht : ∀ i, DTs (blkX X scope i) ifs tt) (he : ∀ i, DE (blkX X scope i) elt we)
    (hs : ∀ x, foldedSetIterable iter X.env x = pure x := by intro _; rfl) : DSt X (.Assign [.Name y py] (.ListComp elt [⟨tg, iter, ifs, 0⟩] scope pos) spos) (dSet (dLc wi g tt we (own.map (·.2))) (dgName i)) := by
  obtain ⟨ti, i1, i2⟩ := hi
  obtain ⟨tg', g1, g2⟩ := DG.unif (Xs := fun i => blkX X scope i) (K := X.K) (fun _ => rfl) hg
  obtain ⟨ts, t1, t2⟩ := DTs.unif (Xs := fun i => blkX X scope i) (K := X.K) (fun _ => rfl) ht
  obtain ⟨te, e1, e2⟩ := DE.unif (Xs := fun i => blkX X scope i) (K := X.K) (fun _ => rfl) he
  exact ⟨_, ps_setLc hc hN hy hyl hsw i1 ok (fun s H C cl fp => g1 ⟨s, H, C, cl, fp⟩) (fun s H C cl fp => t1 ⟨s, H, C, cl, fp⟩) (fun s H C cl fp => e1 ⟨s, H, C, cl, fp⟩) hs,
    fun c d T σ H Φ E F hw C => snd_lc i2 g2 t2 e2 c d T σ H _ _ F hw fun s d1 v H1 F1 w1 => C.nx _ _ _ F1.put w1.2⟩
end

/-! ### defs -/
inductive R where
  | val (d : D) | new (l : List D)
abbrev FM := List D → Nat → (R → Nat → Prop) → Prop
def zv : Option (Addr × Addr) → List V
  | some (q, _) => [.ref q]
  | none => []
def RR (K : PySem.W.Frag) (H B' H' : Hp) : R → V → Prop
  | .val d, v => RD K B' d v
  | .new l, v => ∃ p us, v = .ref p ∧ H p = none ∧ B' p = none ∧ H' p = some (.lst us) ∧ RDs K B' l us
def spF (K : PySem.W.Frag) (hs : Bool) (ar : Nat) (m : FM) : Sp := fun vs H Q _ => ∃ (z : Option (Addr × Addr)) (B : Hp) (ds : List D) (ws : List V) (n : Nat) (Ψ : R → Nat → Prop),
  z.isSome = hs ∧ vs = zv z ++ ws ∧ RDs K B ds ws ∧ ds.length = ar ∧ Same B H ∧ StrmOk z B H n ∧ m ds n Ψ ∧
  ∀ (r : R) (n' : Nat) (v : V) (H' B' : Hp), Ψ r n' → Same B B' → Same B' H' → (∀ a, H a ≠ none → B a = none → B' a = none) → (∀ a u, H a = some u → ¬ mutA z a → H' a = some u) → StrmOk z B' H' n' → RR K H B' H' r v → Q v H'
theorem spF.len {K : PySem.W.Frag} {hs : Bool} {ar : Nat} {m : FM} {vs : List V} {H : Hp} {Q : VK} {E : XK} (h : spF K hs ar m vs H Q E) : vs.length = (if hs then 1 else 0) + ar := by
  obtain ⟨z, B, ds, ws, n, Ψ, h1, h2, h3, h4, _⟩ := h
  subst h2
  rw [List.length_append, h3.len, h4]
  cases z with
  | none => subst h1; rfl
  | some q => subst h1; rfl
def resume (r : R) (d : DS) (Ψ : S → DS → Prop) : Prop := match r with
  | .val x => Ψ (.val x) d
  | .new l => Ψ (.own d.o.length) (d.new l)
def gCall (hs : Bool) (ar : Nat) (m : FM) : List S → DTE := fun ss d1 Ψ => match hs with
  | true => ∃ rest ds d2, ss = .strm :: rest ∧ fzs d1 rest = some (ds, d2) ∧ ds.length = ar ∧ m ds d2.n fun r n' => resume r { d2 with n := n' } Ψ
  | false => ∃ ds d2, fzs d1 ss = some (ds, d2) ∧ ds.length = ar ∧ m ds 0 fun r _ => resume r d2 Ψ
def dCall (hs : Bool) (ar : Nat) (m : FM) (wa : DTA) : DTE := fun d Ψ => wa d fun ss d1 => gCall hs ar m ss d1 Ψ
theorem core_call {K : PySem.W.Frag} {hs : Bool} {ar : Nat} {m : FM} {E : XK} {c : Ctx} {d1 : DS} {TT T : List (V × S)} {σ : L2.St} {H1 : Hp} {Ψ : S → DS → Prop} {Q : VK} (F1 : Fit K c d1 (TT ++ T) σ H1) (w1 : gCall hs ar m (TT.map (·.2)) d1 Ψ)
    (k : ∀ s d' v H', Fit K c d' ((v, s) :: T) σ H' → Ψ s d' → Q v H') : spF K hs ar m (TT.map (·.1)) H1 Q E := by
  obtain ⟨B, A, C, sl, tm⟩ := F1
  have hp := Tm.paired tm
  have tmT : Tm K c B A T := fun q hq => tm q (List.mem_append_right _ hq)
  -- behind the call
  have fin : ∀ (z : Option (Addr × Addr)) (d2 : DS) (n' : Nat) (B1 : Hp) (r : R) (v : V) (H' B' : Hp), (z = none ∨ z = c.z) → Core K c d2.o d2.n B1 A H1 → Same B B1 → d2.r = d1.r → Same B1 B' → Same B' H' → (∀ a, H1 a ≠ none → B1 a = none → B' a = none) → (∀ a u, H1 a = some u → ¬ mutA z a → H' a = some u) → StrmOk c.z B' H' n' → RR K H1 B' H' r v →
      resume r { d2 with n := n' } Ψ → Q v H' := fun z d2 n' B1 r v H' B' hz C1 s1 er s2 s3 fb ff sm rr q => by
    have nm : ∀ a, ¬ mutA c.z a → ¬ mutA z a := fun a h => by
      rcases hz with e | e
      · subst e; exact id
      · subst e; exact h
    have live : ∀ a, c.H0 a ≠ none → H1 a ≠ none := fun a ha => by
      by_cases hm : mutA c.z a
      · have s := C1.sm
        unfold StrmOk at s
        unfold mutA at hm
        cases ez : c.z with
        | none => rw [ez] at hm; exact hm.elim
        | some qq =>
          obtain ⟨q, q'⟩ := qq
          rw [ez] at hm s
          obtain ⟨_, _, _, _, _, _, _, e1, e2, _⟩ := s
          rcases hm with z | z
          · rw [z, e1]; exact fun h => by cases h
          · rw [z, e2]; exact fun h => by cases h
      · cases e : c.H0 a with
        | none => exact absurd e ha
        | some u => rw [C1.fr a u e hm]; exact fun h => by cases h
    have C2 : Core K c d2.o n' B' A H' := ⟨(C1.b0.trans s2), s3, fun a h1 h2 => fb a (live a h1) (C1.bf a h1 h2), fun a u e m => ff a u (C1.fr a u e m) (nm a m), C1.al, C1.nd, fun i p e h1 h2 => by
      obtain ⟨b1, b2, us, b3, b4, b5⟩ := C1.ow i p e h1 h2
      have hnm : ¬ mutA c.z p := fun m => c.out p m b1
      exact ⟨b1, fun z => fb p (by rw [b3]; exact fun h => by cases h) (b2 z), us, ff p _ b3 (nm p hnm), RDs.mono s2 _ _ b4, fun z => s2 _ _ (b5 z)⟩, sm⟩
    have sl2 : Sl K c B' A d2.r σ := by rw [er]; exact sl.mono (s1.trans s2) fun _ _ e => e
    have tm2 : Tm K c B' A T := tmT.mono (s1.trans s2) fun _ _ e => e
    cases r with
    | val x => exact k (.val x) { d2 with n := n' } v H' ⟨B', A, C2, sl2, Tm.cons (s := .val x) rr tm2⟩ q
    | new l =>
      obtain ⟨p, us, e1, e2, e3, e4, e5⟩ := rr
      subst e1
      obtain ⟨f1, f2, f3, f4⟩ := C1.free e2
      -- the new list is owned
      have last : (A ++ [p])[d2.o.length]? = some p := by rw [← C1.al]; simp
      have old : ∀ (k : Nat) (q : Addr), A[k]? = some q → (A ++ [p])[k]? = some q := fun k q e => by
        rw [List.getElem?_append_left (List.getElem?_eq_some_iff.mp e).1]; exact e
      have spl : ∀ (k : Nat) (q : Addr), (A ++ [p])[k]? = some q → A[k]? = some q ∨ (k = d2.o.length ∧ q = p) := fun k q e => by
        by_cases h : k < A.length
        · rw [List.getElem?_append_left h] at e; exact .inl e
        · have h2 : k < (A ++ [p]).length := (List.getElem?_eq_some_iff.mp e).1
          have h3 : k = d2.o.length := by rw [List.length_append, List.length_singleton] at h2; rw [← C1.al]; omega
          refine .inr ⟨h3, ?_⟩
          rw [h3, last] at e; exact (Option.some.inj e).symm
      refine k (.own d2.o.length) (({ d2 with n := n' } : DS).new l) _ H' ⟨B', A ++ [p], ⟨C2.b0, C2.bh, C2.bf, C2.fr, by simp [DS.new, C1.al], fun i j q h1 h2 => ?_, fun i q e h1 h2 => ?_, C2.sm⟩, sl2.mono (fun _ _ e => e) old, Tm.cons (s := .own d2.o.length) ⟨p, last, rfl⟩ (tm2.mono (fun _ _ e => e) old)⟩ q
      · rcases spl i q h1 with a1 | ⟨a1, a2⟩
        · rcases spl j q h2 with b1 | ⟨b1, b2⟩
          · exact C1.nd i j q a1 b1
          · subst b2; exact absurd a1 (f3 i)
        · rcases spl j q h2 with b1 | ⟨b1, b2⟩
          · subst a2; exact absurd b1 (f3 j)
          · rw [a1, b1]
      · rcases spl i q h1 with a1 | ⟨a1, a2⟩
        · have hk : i < d2.o.length := by rw [← C1.al]; exact (List.getElem?_eq_some_iff.mp a1).1
          have h2' : (d2.o ++ [(true, l)])[i]? = some e := h2
          rw [List.getElem?_append_left hk] at h2'
          exact C2.ow i q e a1 h2'
        · subst a1; subst a2
          have h2' : (d2.o ++ [(true, l)])[d2.o.length]? = some e := h2
          rw [List.getElem?_append_right (Nat.le_refl _)] at h2'
          simp at h2'; subst h2'
          exact ⟨f2, fun _ => e3, us, e4, e5, fun z => by cases z⟩
  cases hs with
  | false =>
    obtain ⟨ds, d2, e1, e2, w2⟩ := w1
    obtain ⟨B1, C1, s1, r1, q1⟩ := C.fzs hp e1
    refine ⟨none, B1, ds, TT.map (·.1), 0, _, rfl, rfl, r1, e2, C1.bh, trivial, w2, fun r n' v H' B' q s2 s3 fb ff _ rr => ?_⟩
    refine fin none d2 d2.n B1 r v H' B' (.inl rfl) C1 s1 q1 s2 s3 fb ff (C1.sm.keep (fun a m e => fb a ?_ e) fun a u m e => ff a u e id) rr q
    have s := C1.sm
    unfold StrmOk at s
    unfold mutA at m
    cases ez : c.z with
    | none => rw [ez] at m; exact m.elim
    | some qq =>
      obtain ⟨q, q'⟩ := qq
      rw [ez] at m s
      obtain ⟨_, _, _, _, _, _, _, e1, e2, _⟩ := s
      rcases m with z | z
      · rw [z, e1]; exact fun h => by cases h
      · rw [z, e2]; exact fun h => by cases h
  | true =>
    obtain ⟨rest, ds, d2, e0, e1, e2, w2⟩ := w1
    obtain ⟨p, TT', rfl⟩ : ∃ p TT', TT = p :: TT' := by
      cases TT with
      | nil => cases e0
      | cons p r => exact ⟨p, r, rfl⟩
    obtain ⟨v0, s0⟩ := p
    simp only [List.map_cons, List.cons.injEq] at e0
    obtain ⟨e0a, e0b⟩ := e0
    subst e0a e0b
    obtain ⟨q, q', ez, ev⟩ : ∃ q q', c.z = some (q, q') ∧ v0 = .ref q := tm _ List.mem_cons_self
    cases hp with
    | cons hp1 hp2 =>
    obtain ⟨B1, C1, s1, r1, q1⟩ := C.fzs hp2 e1
    refine ⟨c.z, B1, ds, TT'.map (·.1), d2.n, _, by rw [ez]; rfl, by rw [ez, ev]; rfl, r1, e2, C1.bh, C1.sm, w2, fun r n' v H' B' q s2 s3 fb ff sm rr => ?_⟩
    exact fin c.z d2 n' B1 r v H' B' (.inr rfl) C1 s1 q1 s2 s3 fb ff sm rr q
theorem snd_call {K : PySem.W.Frag} {hs : Bool} {ar : Nat} {m : FM} {ta : TA} {wa : DTA} {E : XK} (h : SndA K ta wa) : SndE K (tCall (spF K hs ar m) [] E ta) (dCall hs ar m wa) := by
  intro c d T σ H Ψ Q F hw k
  refine h c d T σ H _ _ F hw fun TT d1 H1 F1 w1 => ?_
  show spF K hs ar m (TT.map (·.1) ++ []) H1 Q E
  rw [List.append_nil]
  exact core_call F1 w1 k
section
variable {X : Cx} {k : Nat} {f : Addr} {fd : FuncData} {ps : List Str} {hs : Bool} {ar : Nat} {m : FM} {x : Str} {p pos : Pos} {e : Expr} {es : List Expr} {wa : DTA}
theorem de_call (F : FnOk X.prog X.w X.K X.mg X.base CX0 k f fd ps (spF X.K hs ar m)) (hr : Room k X.A) (hg : Gl X x) (hm : X.mg x = some (.ref f)) (hk : PySem.W.keepIn X.K (.ref f) = true) (hb : Binds X.K fd ps []) (ha : DA X (e :: es) wa)
    (hdb : (x == ("__debug__" : Str)) = false := by decide) (he : starEach (e :: es) X.env = (false, eval e X.env) :: starEach es X.env := by rfl) (hpl : (backTo pos (starEach es X.env)).any (·.1) = false := by rfl) : DE X (.Call (.Name x p) (e :: es) [] pos) (dCall hs ar m wa) := by
  obtain ⟨t, h1, h2⟩ := ha
  exact ⟨_, pe_call F hr hg hm hk hb .nil pass0 h1 hdb he hpl, snd_call h2⟩
end
/-- what a def hands back -/
def ret (Ψ : R → Nat → Prop) : S → DS → Prop
  | .val x, d => Ψ (.val x) d.n
  | .own k, d => match d.o[k]? with
    | some (true, l) => Ψ (.new l) d.n
    | some (false, l) => Ψ (.val (.lst l)) d.n
    | none => False
  | _, _ => False
def fnEnds (Ψ : R → Nat → Prop) : DEnds := { nx := fun d => Ψ (.val .non) d.n, rt := ret Ψ }
def fnStart (hs : Bool) (ds : List D) (k n : Nat) : DS := ⟨(if hs then [S.strm] else []) ++ ds.map .val ++ List.replicate k .un, [], n⟩
theorem DSs.fn {X : Cx} {body : List Stmt} {w : DTS} {hs : Bool} {ar k : Nat} {m : FM} {vs : List V} {H : Hp} {Q : VK} {E : XK} {N : List Str} (h : DSs X body w) (hsp : spF X.K hs ar m vs H Q E) (hN : N.length = (if hs then 1 else 0) + ar + k)
    (hw : ∀ ds n Ψ, ds.length = ar → m ds n Ψ → w (fnStart hs ds k n) (fnEnds Ψ)) : ∃ t, PSs X body t ∧ t { nx := fun _ H' => Q .non H', rt := Q } (L2.start N vs) H := by
  obtain ⟨t, h1, h2⟩ := h
  have hl := hsp.len
  obtain ⟨z, B, ds, ws, n, Ψ, e1, e2, e3, e4, e5, e6, e7, e8⟩ := hsp
  have hout : ∀ a, mutA z a → H a ≠ none := fun a m => by
    unfold mutA at m
    unfold StrmOk at e6
    cases z with
    | none => exact m.elim
    | some qq =>
      obtain ⟨q, q'⟩ := qq
      obtain ⟨_, _, _, _, _, _, _, e1, e2, _⟩ := e6
      rcases m with z | z
      · rw [z, e1]; exact fun h => by cases h
      · rw [z, e2]; exact fun h => by cases h
  let c : Ctx := ⟨z, H, B, hout⟩
  have C : Core X.K c [] n B [] H := ⟨fun _ _ e => e, e5, fun a h1 h2 => h2, fun a u e _ => e, rfl, fun i j p h => by simp at h, fun i p e h => by simp at h, e6⟩
  have sl : Sl X.K c B [] (fnStart hs ds k n).r (L2.start N vs) := by
    refine ⟨?_, fun i s o a1 a2 => ?_⟩
    · unfold fnStart L2.start
      simp only [List.length_append, List.length_map, List.length_replicate, hl, hN, e4]
      cases hs <;> simp <;> omega
    · unfold fnStart at a1
      unfold L2.start at a2
      subst e2
      have split : ∀ (l : List D) (us : List V), RDs X.K B l us → ∀ (i : Nat), (l.map S.val ++ List.replicate k S.un)[i]? = some s → (us.map some ++ List.replicate (N.length - (zv z ++ ws).length) none)[i]? = some o → SRo X.K c B [] s o := by
        intro l
        induction l with
        | nil =>
          intro us hu i b1 b2
          cases (show us = [] from hu)
          simp only [List.map_nil, List.nil_append] at b1
          have := List.getElem?_eq_some_iff.mp b1
          obtain ⟨_, e⟩ := this
          rw [List.getElem_replicate] at e
          subst e
          trivial
        | cons x l ih =>
          intro us hu i b1 b2
          obtain ⟨v, us', rfl, r1, r2⟩ := hu
          cases i with
          | zero =>
            simp at b1 b2
            subst b1 b2
            exact r1
          | succ i => exact ih us' r2 i (by simpa using b1) (by simpa using b2)
      cases z with
      | none =>
        cases hs with
        | true => cases e1
        | false => exact split ds ws e3 i (by simpa using a1) (by simpa [zv] using a2)
      | some qq =>
        obtain ⟨q, q'⟩ := qq
        cases hs with
        | false => cases e1
        | true =>
          cases i with
          | zero =>
            simp [zv] at a1 a2
            subst a1 a2
            exact ⟨q, q', rfl, rfl⟩
          | succ i => exact split ds ws e3 i (by simpa using a1) (by simpa [zv] using a2)
  refine ⟨t, h1, h2 c _ [] (L2.start N vs) H (fnEnds Ψ) _ ⟨B, [], C, sl, Tm.nil⟩ (hw ds n Ψ e4 e7) ⟨fun d σ H' F q => ?_, fun s d v σ H' F q => ?_, fun _ _ _ _ q => q.elim, fun _ _ _ _ q => q.elim⟩⟩
  · obtain ⟨B', A, C', _, tm⟩ := F
    refine e8 _ _ .non H' B' q C'.b0 C'.bh C'.bf C'.fr C'.sm rfl
  · obtain ⟨B', A, C', _, tm⟩ := F
    have hv := tm _ List.mem_cons_self
    cases s with
    | un => exact q.elim
    | strm => exact q.elim
    | val x => exact e8 _ _ v H' B' q C'.b0 C'.bh C'.bf C'.fr C'.sm hv
    | own j =>
      obtain ⟨p, hp, ev⟩ := hv
      have ev : v = .ref p := ev
      subst ev
      have q : (match d.o[j]? with
        | some (true, l) => Ψ (.new l) d.n
        | some (false, l) => Ψ (.val (.lst l)) d.n
        | none => False) := q
      split at q
      · rename_i l ho
        obtain ⟨b1, b2, us, b3, b4, _⟩ := C'.ow j p _ hp ho
        exact e8 _ _ _ H' B' q C'.b0 C'.bh C'.bf C'.fr C'.sm ⟨p, us, rfl, b1, b2 rfl, b3, b4⟩
      · rename_i l ho
        obtain ⟨b1, b2, us, b3, b4, b5⟩ := C'.ow j p _ hp ho
        exact e8 _ _ _ H' B' q C'.b0 C'.bh C'.bf C'.fr C'.sm ⟨p, us, rfl, b5 rfl, b4⟩
      · exact q.elim
end RH

set_option Elab.async false
set_option linter.all false
set_option maxRecDepth 100000
set_option maxHeartbeats 1000000
/-! the data layer, part e: built-ins, subscripts, slices, in, methods of lists -/
namespace RH
open PySem PySem.Spec PyProof.Rows L2

section
variable {X : Cx} {a b e l : Expr} {es : List Expr} {we wa wb : DTE} {ws : DTA} {p pos : Pos} {x : Str}

/-! ### built-ins by name -/
abbrev DRC := List S → DTE
def SndC (K : PySem.W.Frag) (r : List V → Hp → VK → Prop) (g : DRC) : Prop := ∀ (c : Ctx) (d : DS) (TT T : List (V × S)) (σ : L2.St) (H : Hp) (Ψ : S → DS → Prop) (Q : VK), Fit K c d (TT ++ T) σ H → g (TT.map (·.2)) d Ψ → (∀ s d' v H', Fit K c d' ((v, s) :: T) σ H' → Ψ s d' → Q v H') → r (TT.map (·.1)) H Q
def dCB (g : DRC) (w : DTA) : DTE := fun d Ψ => w d fun ss d1 => g ss d1 Ψ
theorem sndCB {K : PySem.W.Frag} {r : List V → Hp → VK → Prop} {g : DRC} {t : TA} (hr : SndC K r g) (h : SndA K t ws) : SndE K (tCB r t) (dCB g ws) := fun c d T σ H Ψ Q F w k => h c d T σ H _ _ F w fun TT d1 H1 F1 w1 => hr c d1 TT T σ H1 Ψ Q F1 w1 k
theorem de_callB {id : String} {r : List V → Hp → VK → Prop} {g : DRC} (hc : CallR X (.builtin id) r) (hr : SndC X.K r g) (hg : Gl X x) (hm : X.mg x = none) (hv : bootBuiltins x = some (.builtin id)) (ha : DA X (e :: es) ws) (hn : x ≠ "__name__" := by decide) (hdb : (x == ("__debug__" : Str)) = false := by decide)
    (he : starEach (e :: es) X.env = (false, eval e X.env) :: starEach es X.env := by rfl) (hpl : (backTo pos (starEach es X.env)).any (·.1) = false := by rfl) : DE X (.Call (.Name x p) (e :: es) [] pos) (dCB g ws) := by
  obtain ⟨t, h1, h2⟩ := ha
  exact ⟨_, pe_callB hc hg hm hv h1 hn hdb he hpl, sndCB hr h2⟩
theorem de_callTy {T : String} {r : List V → Hp → VK → Prop} {g : DRC} (hc : CallR X (.type T) r) (hr : SndC X.K r g) (hg : Gl X x) (hm : X.mg x = none) (hv : bootBuiltins x = some (.type T)) (ha : DA X (e :: es) ws) (hn : x ≠ "__name__" := by decide) (hdb : (x == ("__debug__" : Str)) = false := by decide)
    (he : starEach (e :: es) X.env = (false, eval e X.env) :: starEach es X.env := by rfl) (hpl : (backTo pos (starEach es X.env)).any (·.1) = false := by rfl) : DE X (.Call (.Name x p) (e :: es) [] pos) (dCB g ws) := by
  obtain ⟨t, h1, h2⟩ := ha
  exact ⟨_, pe_callTy hc hg hm hv h1 hn hdb he hpl, sndCB hr h2⟩
theorem one_arg' {TT : List (V × S)} {s : S} (e : TT.map (·.2) = [s]) : ∃ v, TT = [(v, s)] := by
  match TT, e with
  | [p], e => cases e; exact ⟨p.1, rfl⟩
/-- a list or a tuple, as the library's rules want it -/
theorem seq_of {K : PySem.W.Frag} {H : Hp} {z : D} {v : V} {m : List D} (h : RD K H z v) (e : seqD z = some m) : ∃ q us, v = .ref q ∧ (SqL K H q us ∨ SqT K H q us) ∧ RDs K H m us := by
  cases z with
  | lst l' => cases e; obtain ⟨q, us, h1, h2, h3⟩ := h; exact ⟨q, us, h1, .inl (.inl (.inl h2)), h3⟩
  | tup l' => cases e; obtain ⟨q, us, h1, h2, h3⟩ := h; exact ⟨q, us, h1, .inr h2, h3⟩
  | _ => cases e
/-- len -/
def lenD : D → Option Nat
  | .lst l => some l.length
  | .tup l => some l.length
  | .str x => if x.length ≤ 1000000 then some x.length else none
  | _ => none
def gLen : DRC := fun ss d Ψ => ∃ s z n, ss = [s] ∧ look d s = some z ∧ lenD z = some n ∧ Ψ (.val (.int n)) d
theorem snd_len {K : PySem.W.Frag} : SndC K (fun xs H Q => ∃ x n, xs = [x] ∧ LenV K x H n ∧ Q (.int n) H) gLen := fun c d TT T σ H Ψ Q F ⟨s, z, n, e, e1, e2, q⟩ k => by
  obtain ⟨v, rfl⟩ := one_arg' e
  have h := F.look List.mem_cons_self e1
  refine ⟨v, n, rfl, ?_, k _ _ _ _ (F.drop.push (x := .int n) fun _ => rfl) q⟩
  cases z with
  | lst l => cases e2; obtain ⟨q, us, h1, h2, h3⟩ := h; subst h1; exact .inl ⟨us, .inl (.inl h2), h3.len.symm⟩
  | tup l => cases e2; obtain ⟨q, us, h1, h2, h3⟩ := h; subst h1; exact .inr ⟨us, h2, h3.len.symm⟩
  | str y =>
    have h : v = .str y := h
    subst h
    have e3 : (if y.length ≤ 1000000 then some y.length else none) = some n := e2
    by_cases hl : y.length ≤ 1000000
    · rw [if_pos hl] at e3
      cases e3
      exact ⟨Nat.le_trans hl (show 1000000 ≤ sizeLine by decide), rfl⟩
    · rw [if_neg hl] at e3
      cases e3
  | _ => cases e2
theorem de_len (hg : Gl X "len") (hm : X.mg "len" = none) (ha : DA X [e] ws) (he : starEach [e] X.env = (false, eval e X.env) :: starEach [] X.env := by rfl) (hpl : (backTo pos (starEach [] X.env)).any (·.1) = false := by rfl) : DE X (.Call (.Name "len" p) [e] [] pos) (dCB gLen ws) :=
  de_callB call_len snd_len hg hm PySem.boot_len ha (by decide) (by decide) he hpl
/-- list(x), tuple(x) -/
def gList : DRC := fun ss d Ψ => ∃ s z m, ss = [s] ∧ look d s = some z ∧ seqD z = some m ∧ Ψ (.own d.o.length) (d.new m)
theorem Core.lookB {K : PySem.W.Frag} {c : Ctx} {d : DS} {B H : Hp} {A : List Addr} {s : S} {v : V} {z : D} {m : List D} (C : Core K c d.o d.n B A H) (h : SR K c B A s v) (e : RH.look d s = some z) (e2 : seqD z = some m) :
    ∃ q us, v = .ref q ∧ RDs K B m us ∧ ((z = .lst m ∧ H q = some (.lst us)) ∨ (z = .tup m ∧ SqT K B q us ∧ SqT K H q us)) := by
  cases s with
  | un => cases e
  | strm => cases e
  | val y =>
    cases e
    cases z with
    | lst l' => cases e2; obtain ⟨q, us, h1, h2, h3⟩ := h; exact ⟨q, us, h1, h3, .inl ⟨rfl, C.bh _ _ h2⟩⟩
    | tup l' => cases e2; obtain ⟨q, us, h1, h2, h3⟩ := h; exact ⟨q, us, h1, h3, .inr ⟨rfl, h2, sameT C.bh h2⟩⟩
    | _ => cases e2
  | own k =>
    obtain ⟨q, h1, h2⟩ := h
    cases f : d.o[k]? with
    | none => simp [RH.look, f] at e
    | some b =>
      simp [RH.look, f] at e
      subst e
      cases e2
      obtain ⟨_, _, us, a3, a4, _⟩ := C.ow k q b h1 f
      exact ⟨q, us, h2, a4, .inl ⟨rfl, a3⟩⟩
theorem lstT {K : PySem.W.Frag} {H : Hp} {q : Addr} {us : List V} {z : D} {m : List D} {B : Hp} (h : (z = .lst m ∧ H q = some (.lst us)) ∨ (z = .tup m ∧ SqT K B q us ∧ SqT K H q us)) : SqL K H q us ∨ SqT K H q us := by
  rcases h with h | h
  · exact .inl (.inl (.inl h.2))
  · exact .inr h.2.2
theorem snd_list {K : PySem.W.Frag} : SndC K (fun xs H Q => ∃ p ys, xs = [.ref p] ∧ (SqL K H p ys ∨ SqT K H p ys) ∧ ∀ l, H l = none → Q (.ref l) (upd H l (.lst ys))) gList := fun c d TT T σ H Ψ Q F ⟨s, z, m, e, e1, e2, q⟩ k => by
  obtain ⟨v, rfl⟩ := one_arg' e
  obtain ⟨B, A, C, sl, tm⟩ := F
  obtain ⟨a, us, h1, h3, h2⟩ := C.lookB (tm _ List.mem_cons_self) e1 e2
  subst h1
  exact ⟨a, us, rfl, lstT h2, fun l hl => k _ _ _ _ (Fit.new ⟨B, A, C, sl, fun q hq => tm q (List.mem_cons_of_mem _ hq), h3⟩ hl) q⟩
theorem de_list (hg : Gl X "list") (hm : X.mg "list" = none) (ha : DA X [e] ws) (he : starEach [e] X.env = (false, eval e X.env) :: starEach [] X.env := by rfl) (hpl : (backTo pos (starEach [] X.env)).any (·.1) = false := by rfl) : DE X (.Call (.Name "list" p) [e] [] pos) (dCB gList ws) :=
  de_callTy call_list_of snd_list hg hm (by decide +kernel) ha (by decide) (by decide) he hpl
def gTuple : DRC := fun ss d Ψ => ∃ s z m, ss = [s] ∧ look d s = some z ∧ seqD z = some m ∧ Ψ (.val (.tup m)) d
theorem snd_tuple {K : PySem.W.Frag} : SndC K (fun xs H Q => ∃ p ys, xs = [.ref p] ∧ ((SqL K H p ys ∧ ∀ l, H l = none → Q (.ref l) (upd H l (.tup ys))) ∨ (SqT K H p ys ∧ Q (.ref p) H))) gTuple := fun c d TT T σ H Ψ Q F ⟨s, z, m, e, e1, e2, q⟩ k => by
  obtain ⟨v, rfl⟩ := one_arg' e
  obtain ⟨B, A, C, sl, tm⟩ := F
  have tmT : Tm K c B A T := fun q hq => tm q (List.mem_cons_of_mem _ hq)
  obtain ⟨a, us, h1, h3, h2⟩ := C.lookB (tm _ List.mem_cons_self) e1 e2
  subst h1
  refine ⟨a, us, rfl, ?_⟩
  rcases h2 with ⟨_, h2⟩ | ⟨_, h2, h4⟩
  · refine .inl ⟨.inl (.inl h2), fun l hl => ?_⟩
    obtain ⟨C2, s1⟩ := C.laid (u := .tup us) hl
    exact k _ _ _ _ ⟨_, A, C2, sl.mono s1 fun _ _ e => e, Tm.cons (s := .val (.tup m)) ⟨l, us, rfl, .inl (.inl upd_same), RDs.mono s1 _ _ h3⟩ (tmT.mono s1 fun _ _ e => e)⟩ q
  · exact .inr ⟨h4, k _ _ _ _ ⟨B, A, C, sl, Tm.cons (s := .val (.tup m)) ⟨a, us, rfl, h2, h3⟩ tmT⟩ q⟩
theorem de_tuple (hg : Gl X "tuple") (hm : X.mg "tuple" = none) (ha : DA X [e] ws) (he : starEach [e] X.env = (false, eval e X.env) :: starEach [] X.env := by rfl) (hpl : (backTo pos (starEach [] X.env)).any (·.1) = false := by rfl) : DE X (.Call (.Name "tuple" p) [e] [] pos) (dCB gTuple ws) :=
  de_callTy call_tuple_of snd_tuple hg hm (by decide +kernel) ha (by decide) (by decide) he hpl
/-- all, any of a list of bools -/
def blsD : List D → Option (List Bool)
  | [] => some []
  | .bl b :: l => (blsD l).map (b :: ·)
  | _ => none
theorem RDs.bls {K : PySem.W.Frag} {H : Hp} : ∀ {l : List D} {us : List V} {bs : List Bool}, RDs K H l us → blsD l = some bs → us = bs.map V.bl
  | [], _, bs, h, e => by cases e; exact h
  | .bl b :: l, _, bs, ⟨v, r, h1, h2, h3⟩, e => by
    subst h1
    cases q : blsD l with
    | none => simp [blsD, q] at e
    | some bs' =>
      simp [blsD, q] at e
      subst e
      rw [RDs.bls h3 q, show v = V.bl b from h2]
      rfl
  | .non :: _, _, _, _, e => by cases e
  | .int _ :: _, _, _, _, e => by cases e
  | .str _ :: _, _, _, _, e => by cases e
  | .lst _ :: _, _, _, _, e => by cases e
  | .tup _ :: _, _, _, _, e => by cases e
  | .dic _ :: _, _, _, _, e => by cases e
  | .obj _ _ :: _, _, _, _, e => by cases e
def gBls (f : List Bool → Bool) : DRC := fun ss d Ψ => ∃ s l bs, ss = [s] ∧ look d s = some (.lst l) ∧ blsD l = some bs ∧ Ψ (.val (.bl (f bs))) d
theorem snd_bls {K : PySem.W.Frag} {f : List Bool → Bool} : SndC K (fun vs H Q => ∃ (a : Addr) (bs : List Bool), vs = [V.ref a] ∧ SqL K H a (bs.map V.bl) ∧ Q (.bl (f bs)) H) (gBls f) := fun c d TT T σ H Ψ Q F ⟨s, l, bs, e, e1, e2, q⟩ k => by
  obtain ⟨v, rfl⟩ := one_arg' e
  obtain ⟨a, us, h1, h2, h3⟩ := F.look List.mem_cons_self e1
  subst h1
  refine ⟨a, bs, rfl, ?_, k _ _ _ _ (F.drop.push (x := .bl _) fun _ => rfl) q⟩
  rw [← RDs.bls h3 e2]
  exact .inl (.inl h2)
theorem de_all (hc : X.calm = true) (hg : Gl X "all") (hm : X.mg "all" = none) (ha : DA X [e] ws) (he : starEach [e] X.env = (false, eval e X.env) :: starEach [] X.env := by rfl) (hpl : (backTo pos (starEach [] X.env)).any (·.1) = false := by rfl) : DE X (.Call (.Name "all" p) [e] [] pos) (dCB (gBls fun bs => bs.all id) ws) :=
  de_callB (cr_all hc) snd_bls hg hm (by decide +kernel) ha (by decide) (by decide) he hpl
theorem de_any (hc : X.calm = true) (hg : Gl X "any") (hm : X.mg "any" = none) (ha : DA X [e] ws) (he : starEach [e] X.env = (false, eval e X.env) :: starEach [] X.env := by rfl) (hpl : (backTo pos (starEach [] X.env)).any (·.1) = false := by rfl) : DE X (.Call (.Name "any" p) [e] [] pos) (dCB (gBls fun bs => bs.any id) ws) :=
  de_callB (cr_any hc) snd_bls hg hm (by decide +kernel) ha (by decide) (by decide) he hpl

/-! ### isinstance -/
def tyD : D → Option String
  | .non => some "NoneType"
  | .bl _ => some "bool"
  | .int _ => some "int"
  | .str _ => some "str"
  | .lst _ => some "list"
  | .tup _ => some "tuple"
  | .dic _ => some "dict"
  | .obj _ _ => none
theorem RD.ty {K : PySem.W.Frag} {H : Hp} {z : D} {v : V} {T : String} (h : RD K H z v) (e : tyD z = some T) : TyX K H v (.type T) := by
  cases z with
  | non => cases e; cases (show v = .non from h); exact .base .non
  | bl b => cases e; cases (show v = .bl b from h); exact .base (.bl b)
  | int i => cases e; cases (show v = .int i from h); exact .base (.int i)
  | str x => cases e; cases (show v = .str x from h); exact .base (.str x)
  | lst l => cases e; obtain ⟨a, us, h1, h2, _⟩ := h; subst h1; exact .base (.lst h2)
  | tup l =>
    cases e
    obtain ⟨a, us, h1, h2, _⟩ := h
    subst h1
    rcases h2 with (h2 | ⟨o, h2⟩) | ⟨o, its, n, hk, hc, _⟩
    · exact .base (.tup h2)
    · exact .fTuple h2
    · exact .kTuple hk hc
  | dic l => cases e; obtain ⟨a, us, h1, h2, _⟩ := h; subst h1; exact .base (.dK h2)
  | obj _ _ => cases e
/-- of a built-in type, of one of some -/
def isiD (ns : List String) (T : String) : Bool := ns.any fun n => T == n || (T == "bool" && n == "int")
/-- what isinstance answers, by the table -/
def IsiOk (K : PySem.W.Frag) (ns : List String) : Prop := ∀ T ∈ ["NoneType", "bool", "int", "str", "list", "tuple", "dict"], PySem.W.kitAny K (.type T) (ns.map Value.type) = some (isiD ns T)
theorem tyD_mem {z : D} {T : String} (e : tyD z = some T) : T ∈ ["NoneType", "bool", "int", "str", "list", "tuple", "dict"] := by
  cases z <;> cases e <;> simp
/-- every pair of these types, by the library's table -/
theorem kit_tab {K : PySem.W.Frag} : ∀ T ∈ ["NoneType", "bool", "int", "str", "list", "tuple", "dict"], ∀ n ∈ ["bool", "int", "str", "list", "tuple", "dict"], PySem.W.kitOne K (.type T) (.type n) = some (T == n || (T == "bool" && n == "int")) := by
  intro T hT n hn
  refine kit_ty ?_
  revert n hn
  revert T hT
  decide +kernel
theorem isi_ok {K : PySem.W.Frag} : ∀ {ns : List String}, (∀ n ∈ ns, n ∈ ["bool", "int", "str", "list", "tuple", "dict"]) → IsiOk K ns
  | [], _, T, hT => kitAny_nil
  | n :: ns, h, T, hT => by
    refine kitAny_cons (kit_tab T hT n (h n List.mem_cons_self)) (fun e => ?_) (fun e => ?_)
    · have := isi_ok (K := K) (fun m hm => h m (List.mem_cons_of_mem _ hm)) T hT
      rw [this]
      show some (isiD ns T) = some ((T == n || (T == "bool" && n == "int")) || isiD ns T)
      rw [e]; rfl
    · show ((T == n || (T == "bool" && n == "int")) || isiD ns T) = true
      rw [e]; rfl
def dIsi (ns : List String) (w : DTE) : DTE := fun d Ψ => w d fun s d1 => ∃ z T, look d1 s = some z ∧ tyD z = some T ∧ Ψ (.val (.bl (isiD ns T))) d1
/-- isinstance(e, T) -/
theorem de_isi {n : String} {pT : Pos} {xT : Str} (ha : DE X e we) (hg : Gl X "isinstance") (hm : X.mg "isinstance" = none) (hT : PE X (.Name xT pT) (tC (.ty n))) (hn : n ∈ ["bool", "int", "str", "list", "tuple", "dict"])
    (h1 : starEach [e, .Name xT pT] X.env = (false, eval e X.env) :: starEach [.Name xT pT] X.env := by rfl) (h2 : starEach [.Name xT pT] X.env = (false, eval (.Name xT pT) X.env) :: starEach [] X.env := by rfl) (hpl : (backTo pos (starEach [.Name xT pT] X.env)).any (·.1) = false := by rfl) :
    DE X (.Call (.Name "isinstance" p) [e, .Name xT pT] [] pos) (dIsi [n] we) := by
  obtain ⟨t, a1, a2⟩ := ha
  refine ⟨_, pe_callB call_isi hg hm (by decide +kernel) (pa_cons a1 (pa_cons hT pa_nil h2) h1) (by decide) (by decide) h1 hpl, fun c d T σ H Ψ Q F hw k => a2 c d T σ H _ _ F hw fun s d1 v H1 F1 ⟨z, Tz, e1, e2, w1⟩ => ?_⟩
  have hr := F1.look List.mem_cons_self e1
  refine ⟨v, .ty n, _, .type n, _, rfl, .ty n, hr.ty e2, kit_tab Tz (tyD_mem e2) n hn, k _ _ _ _ (F1.drop.push (x := .bl _) fun _ => rfl) ?_⟩
  have : isiD [n] Tz = (Tz == n || (Tz == "bool" && n == "int")) := by simp [isiD]
  rw [← this]; exact w1
/-- the types' tuple -/
def TyArgs (X : Cx) (ts : List Expr) (ns : List String) : Prop := ∃ t, PA X ts t ∧ ∀ σ H Q, Q (ns.map V.ty) H → t σ H Q
theorem tya_nil : TyArgs X [] [] := ⟨_, pa_nil, fun _ _ _ q => q⟩
theorem tya_cons {n : String} {ns : List String} {xT : Str} {pT : Pos} {ts : List Expr} (hT : PE X (.Name xT pT) (tC (.ty n))) (h : TyArgs X ts ns) (hs : starEach (.Name xT pT :: ts) X.env = (false, eval (.Name xT pT) X.env) :: starEach ts X.env := by rfl) : TyArgs X (.Name xT pT :: ts) (n :: ns) := by
  obtain ⟨t, h1, h2⟩ := h
  exact ⟨_, pa_cons hT h1 hs, fun σ H Q q => h2 σ H _ q⟩
theorem cls_all : ∀ (ns : List String), Paired ClsV (ns.map V.ty) (ns.map Value.type)
  | [] => .nil
  | n :: ns => .cons (.ty n) (cls_all ns)
theorem de_isiT {ns : List String} {ts : List Expr} {k1 : Nat} {pT : Pos} (ha : DE X e we) (hg : Gl X "isinstance") (hm : X.mg "isinstance" = none) (hT : TyArgs X ts ns) (hn : ∀ n ∈ ns, n ∈ ["bool", "int", "str", "list", "tuple", "dict"]) (hl : ns.length ≤ 1000)
    (h1 : starEach [e, .Tuple ts k1 pT] X.env = (false, eval e X.env) :: starEach [.Tuple ts k1 pT] X.env := by rfl) (h2 : starEach [.Tuple ts k1 pT] X.env = (false, eval (.Tuple ts k1 pT) X.env) :: starEach [] X.env := by rfl) (hpl : (backTo pos (starEach [.Tuple ts k1 pT] X.env)).any (·.1) = false := by rfl) :
    DE X (.Call (.Name "isinstance" p) [e, .Tuple ts k1 pT] [] pos) (dIsi ns we) := by
  obtain ⟨t, a1, a2⟩ := ha
  obtain ⟨t', b1, b2⟩ := hT
  refine ⟨_, pe_callB call_isiT hg hm (by decide +kernel) (pa_cons a1 (pa_cons (pe_tup b1) pa_nil h2) h1) (by decide) (by decide) h1 hpl, fun c d T σ H Ψ Q F hw k => a2 c d T σ H _ _ F hw fun s d1 v H1 F1 ⟨z, Tz, e1, e2, w1⟩ => ?_⟩
  refine b2 σ H1 _ ⟨by rw [List.length_map]; exact le_line hl, fun q hq => ?_⟩
  have F2 : Fit X.K c d1 ((v, s) :: T) σ (upd H1 q (.tup (ns.map V.ty))) := by
    obtain ⟨B, A, C, sl, tm⟩ := F1
    obtain ⟨C2, s1⟩ := C.laid (u := .tup (ns.map V.ty)) hq
    exact ⟨_, A, C2, sl.mono s1 fun _ _ e => e, tm.mono s1 fun _ _ e => e⟩
  have hr := F2.look List.mem_cons_self e1
  exact ⟨v, q, ns.map V.ty, _, ns.map Value.type, _, rfl, upd_same, cls_all ns, hr.ty e2, isi_ok hn Tz (tyD_mem e2), k _ _ _ _ (F2.drop.push (x := .bl _) fun _ => rfl) w1⟩
end
end RH

set_option Elab.async false
set_option linter.all false
set_option maxRecDepth 100000
set_option maxHeartbeats 1000000
/-! the data layer, part f: subscripts, slices, in, lists' methods, + and * of lists, stars, zip, enumerate -/
namespace RH
open PySem PySem.Spec PyProof.Rows L2

section
variable {X : Cx} {a b e l : Expr} {es : List Expr} {we wa wb : DTE} {ws : DTA} {p pos : Pos} {x : Str}

/-! ### a[i] -/
def atD (z : D) (i : Int) : Option D := match z with
  | .lst l => atI l i
  | .tup l => atI l i
  | .str x => if x.length ≤ 1000000 then (atI x.cps.toList i).map fun c => .str ⟨#[c]⟩ else none
  | _ => none
def gIx : DR2 := fun sx sy d Ψ => ∃ z i u, look d sx = some z ∧ sy = .val (.int i) ∧ atD z i = some u ∧ Ψ (.val u) d
theorem RDs.atI {K : PySem.W.Frag} {B : Hp} {l : List D} {us : List V} {i : Int} {u : D} (h : RDs K B l us) (e : L2.atI l i = some u) : ∃ v, L2.atI us i = some v ∧ RD K B u v := by
  unfold L2.atI at *
  rw [h.len]
  cases q : ixN l.length i with
  | none => rw [q] at e; cases e
  | some j =>
    rw [q] at e
    exact h.get (i := j) e
theorem snd_ix {K : PySem.W.Frag} : SndR2 K (rIx K) gIx := fun c d T σ H x y sx sy Ψ Q F ⟨z, i, u, e1, e2, e3, q⟩ k => by
  subst e2
  have hy : y = .int i := F.look List.mem_cons_self rfl
  subst hy
  obtain ⟨B, A, C, sl, tm⟩ := F
  have tmT : Tm K c B A T := fun q hq => tm q (List.mem_cons_of_mem _ (List.mem_cons_of_mem _ hq))
  have hx := tm _ (List.mem_cons_of_mem _ List.mem_cons_self)
  have seq : ∀ m, seqD z = some m → L2.atI m i = some u → rIx K x (.int i) H Q := fun m e4 e5 => by
    obtain ⟨a, us, h1, h2, h3⟩ := C.lookB hx e1 e4
    subst h1
    obtain ⟨v, hv, rv⟩ := h2.atI e5
    have fin := k _ _ v H ⟨B, A, C, sl, Tm.cons (s := .val u) rv tmT⟩ q
    rcases h3 with ⟨_, h3⟩ | ⟨_, _, h3⟩
    · exact .inl ⟨a, us, i, v, rfl, rfl, .inl (.inl h3), hv, fin⟩
    · exact .inr (.inl ⟨a, us, i, v, rfl, rfl, h3, hv, fin⟩)
  cases z with
  | lst l => exact seq l rfl e3
  | tup l => exact seq l rfl e3
  | str y =>
    have e4 : (if y.length ≤ 1000000 then (L2.atI y.cps.toList i).map fun c => D.str ⟨#[c]⟩ else none) = some u := e3
    by_cases hl : y.length ≤ 1000000
    · rw [if_pos hl] at e4
      cases f : L2.atI y.cps.toList i with
      | none => rw [f] at e4; cases e4
      | some ch =>
        rw [f] at e4
        cases e4
        have hv : x = .str y := C.look hx e1
        exact .inr (.inr ⟨y, i, ch, hv, rfl, Nat.le_trans hl (show 1000000 ≤ sizeLine by decide), f, k _ _ _ H ⟨B, A, C, sl, Tm.cons (s := .val (.str ⟨#[ch]⟩)) rfl tmT⟩ q⟩)
    · rw [if_neg hl] at e4
      cases e4
  | _ => cases e3
theorem de_ix (ha : DE X a wa) (hb : DE X b wb) (hs : PlainIx b) : DE X (.Subscript a b pos) (dOp gIx wa wb) := by
  obtain ⟨ta, a1, a2⟩ := ha
  obtain ⟨tb, b1, b2⟩ := hb
  exact ⟨_, pe_ix ix_seq a1 b1 hs, sndOp snd_ix a2 b2⟩

/-! ### a[i:j] -/
abbrev DTO := DS → (Option Int → DS → Prop) → Prop
def SndO (K : PySem.W.Frag) (t : TO) (w : DTO) : Prop := ∀ (c : Ctx) (d : DS) (T : List (V × S)) (σ : L2.St) (H : Hp) (Ψ : Option Int → DS → Prop) (Q : Option Int → Hp → Prop), Fit K c d T σ H → w d Ψ → (∀ o d' H', Fit K c d' T σ H' → Ψ o d' → Q o H') → t σ H Q
def DO (X : Cx) (e : Option Expr) (w : DTO) : Prop := ∃ t, PO X e t ∧ SndO X.K t w
def dNo : DTO := fun d Ψ => Ψ none d
def dPart (w : DTE) : DTO := fun d Ψ => w d fun s d1 => ∃ i, s = .val (.int i) ∧ Ψ (some i) d1
theorem do_none : DO X none dNo := ⟨_, po_none, fun c d T σ H Ψ Q F w k => k none d H F w⟩
theorem do_some (h : DE X e we) : DO X (some e) (dPart we) := by
  obtain ⟨t, h1, h2⟩ := h
  refine ⟨_, po_some h1, fun c d T σ H Ψ Q F w k => h2 c d T σ H _ _ F w fun s d1 v H1 F1 ⟨i, e, w1⟩ => ?_⟩
  subst e
  exact ⟨i, F1.look List.mem_cons_self rfl, k _ d1 H1 F1.drop w1⟩
def cutD (l : List D) (lo hi : Option Int) : List D := (l.drop (HT.sIx l.length 0 lo)).take (HT.sIx l.length l.length hi - HT.sIx l.length 0 lo)
theorem RDs.cut {K : PySem.W.Frag} {B : Hp} {l : List D} {us : List V} (lo hi : Option Int) (h : RDs K B l us) : RDs K B (cutD l lo hi) (cutV us lo hi) := by
  unfold cutD cutV
  rw [h.len]
  exact (h.drop _).take _
/-- a slice of a list, of a tuple -/
def rSlA (K : PySem.W.Frag) : V → Option Int → Option Int → Hp → VK → Prop := fun x lo hi H Q => rSlL K x lo hi H Q ∨ (rSlT K x lo hi H Q ∨ ∃ a xs, x = .ref a ∧ SqT K H a xs ∧ HT.sIx xs.length 0 lo = 0 ∧ HT.sIx xs.length xs.length hi = xs.length ∧ Q (.ref a) H)
def gSl (sx : S) (lo hi : Option Int) : DTE := fun d Ψ => (∃ m, look d sx = some (.lst m) ∧ Ψ (.own d.o.length) (d.new (cutD m lo hi))) ∨ ∃ m, look d sx = some (.tup m) ∧ Ψ (.val (.tup (cutD m lo hi))) d
def dSl (w : DTE) (wl wh : DTO) : DTE := fun d Ψ => w d fun s d1 => wl d1 fun lo d2 => wh d2 fun hi d3 => gSl s lo hi d3 Ψ
theorem de_slice {lo hi : Option Expr} {wl wh : DTO} {p2 : Pos} (hall : SlR X (rSlA X.K)) (h : DE X e we) (hl : DO X lo wl) (hh : DO X hi wh) : DE X (.Subscript e (.Slice lo hi none p2) pos) (dSl we wl wh) := by
  obtain ⟨t, h1, h2⟩ := h
  obtain ⟨tl, l1, l2⟩ := hl
  obtain ⟨th, u1, u2⟩ := hh
  refine ⟨_, pe_slice hall h1 l1 u1, fun c d T σ H Ψ Q F hw k => h2 c d T σ H _ _ F hw fun s d1 v H1 F1 w1 => l2 c d1 _ σ H1 _ _ F1 w1 fun lo d2 H2 F2 w2 => u2 c d2 _ σ H2 _ _ F2 w2 fun hi d3 H3 F3 w3 => ?_⟩
  obtain ⟨B, A, C, sl, tm⟩ := F3
  have tmT : Tm X.K c B A T := fun q hq => tm q (List.mem_cons_of_mem _ hq)
  rcases w3 with ⟨m, e1, w3⟩ | ⟨m, e1, w3⟩
  · obtain ⟨a, us, g1, g2, g3⟩ := C.lookB (tm _ List.mem_cons_self) e1 rfl
    subst g1
    rcases g3 with ⟨_, g3⟩ | ⟨g3, _⟩
    · exact .inl ⟨a, us, rfl, .inl (.inl g3), fun q hq => k _ _ _ _ (Fit.new ⟨B, A, C, sl, tmT, g2.cut lo hi⟩ hq) w3⟩
    · cases g3
  · obtain ⟨a, us, g1, g2, g3⟩ := C.lookB (tm _ List.mem_cons_self) e1 rfl
    subst g1
    rcases g3 with ⟨g3, _⟩ | ⟨_, g4, g3⟩
    · cases g3
    · by_cases hw : HT.sIx us.length 0 lo = 0 ∧ HT.sIx us.length us.length hi = us.length
      · refine .inr (.inr ⟨a, us, rfl, g3, hw.1, hw.2, k _ _ _ _ ⟨B, A, C, sl, Tm.cons (s := .val (.tup (cutD m lo hi))) ⟨a, us, rfl, g4, ?_⟩ tmT⟩ w3⟩)
        have : cutD m lo hi = m := by
          unfold cutD
          rw [← g2.len, hw.1, hw.2, List.drop_zero, Nat.sub_zero, g2.len, List.take_length]
        rw [this]; exact g2
      · refine .inr (.inl ⟨a, us, rfl, g3, hw, fun q hq => ?_⟩)
        obtain ⟨C2, s1⟩ := C.laid (u := .tup (cutV us lo hi)) hq
        exact k _ _ _ _ ⟨_, A, C2, sl.mono s1 fun _ _ e => e, Tm.cons (s := .val (.tup (cutD m lo hi))) ⟨q, _, rfl, .inl (.inl upd_same), RDs.mono s1 _ _ (g2.cut lo hi)⟩ (tmT.mono s1 fun _ _ e => e)⟩ w3

/-! ### in, not in -/
/-- an item among those of a list or a tuple -/
def rInA (K : PySem.W.Frag) (f : Bool → Bool) : R2 := fun x y H Q => ∃ d z ds, Dp K H x d ∧ Dp K H y z ∧ (z = .list ds ∨ z = .tuple ds) ∧ SeqAt.shaped d = true ∧ SeqAt.shaped z = true ∧ Q (.bl (f (ds.any fun z => PyData.eqv z d))) H
theorem op_inA (hu : X.A.units + 65 < cLine) : OpR X (compareOp .In) (rInA X.K id) := by
  intro pins s σ H x y v u Q I rx ry h
  obtain ⟨d, z, ds, hd, he, hz, sd, se, q⟩ := h
  obtain ⟨as, r1⟩ := Dp.reads I d x v hd rx
  obtain ⟨bs, r2⟩ := Dp.reads I z y u he ry
  rcases hz with hz | hz
  · subst hz
    exact SeqAt.in_list_reads r2 r1 (SeqAt.canLay_of_shaped se) (SeqAt.canLay_of_shaped sd) (room_in_shaped sd hu) ⟨.bl _, H, I, rfl, q⟩
  · subst hz
    exact SeqAt.in_tuple_reads r2 r1 (SeqAt.canLay_of_shaped se) (SeqAt.canLay_of_shaped sd) (room_in_shaped sd hu) ⟨.bl _, H, I, rfl, q⟩
theorem op_notInA (hu : X.A.units + 65 < cLine) : OpR X (compareOp .NotIn) (rInA X.K (!·)) := by
  intro pins s σ H x y v u Q I rx ry h
  obtain ⟨d, z, ds, hd, he, hz, sd, se, q⟩ := h
  obtain ⟨as, r1⟩ := Dp.reads I d x v hd rx
  obtain ⟨bs, r2⟩ := Dp.reads I z y u he ry
  rcases hz with hz | hz
  · subst hz
    exact SeqAt.notIn_list_reads r2 r1 (SeqAt.canLay_of_shaped se) (SeqAt.canLay_of_shaped sd) (room_in_shaped sd hu) ⟨.bl _, H, I, rfl, q⟩
  · subst hz
    exact SeqAt.notIn_tuple_reads r2 r1 (SeqAt.canLay_of_shaped se) (SeqAt.canLay_of_shaped sd) (room_in_shaped sd hu) ⟨.bl _, H, I, rfl, q⟩
def inD (x : D) (l : List D) : Bool := l.any fun z => PyData.eqv (py z) (py x)
def gIn (f : Bool → Bool) : DR2 := fun sx sy d Ψ => ∃ x z l, look d sx = some x ∧ look d sy = some z ∧ seqD z = some l ∧ Eqs x ∧ Eqs z ∧ Ψ (.val (.bl (f (inD x l)))) d
theorem pys_any {f : PyData → Bool} : ∀ l : List D, (pys l).any f = l.any fun z => f (py z)
  | [] => rfl
  | d :: l => by show (f (py d) || (pys l).any f) = _; rw [pys_any l]; rfl
theorem snd_in {K : PySem.W.Frag} {f : Bool → Bool} : SndR2 K (rInA K f) (gIn f) := fun c d T σ H x y sx sy Ψ Q F ⟨dx, dz, l, e1, e2, e3, p1, p2, q⟩ k => by
  obtain ⟨h1, h2⟩ := two_of F e1 e2
  have fin : Q (.bl (f ((pys l).any fun z => PyData.eqv z (py dx)))) H := by
    rw [pys_any]
    exact k _ _ _ _ (F.drop.drop.push (x := .bl _) fun _ => rfl) q
  refine ⟨py dx, py dz, pys l, RD.dp _ _ h1 p1.1, RD.dp _ _ h2 p2.1, ?_, p1.2, p2.2, fin⟩
  cases dz with
  | lst l' => cases e3; exact .inl rfl
  | tup l' => cases e3; exact .inr rfl
  | _ => cases e3
theorem de_in (hu : X.A.units + 65 < cLine) (ha : DE X a wa) (hb : DE X b wb) (hm : behindInMarks .In b = false) : DE X (.Compare a [.In] [b] pos) (dOp (gIn id) wa wb) := de_cmp (op_inA hu) snd_in ha hb hm
theorem dt_in (hu : X.A.units + 65 < cLine) (ha : DE X a wa) (hb : DE X b wb) (hm : behindInMarks .In b = false) : DT X (.Compare a [.In] [b] pos) (dTest (dOp (gIn id) wa wb)) := dt_cmp (op_inA hu) snd_in ha hb hm
theorem de_notin (hu : X.A.units + 65 < cLine) (ha : DE X a wa) (hb : DE X b wb) (hm : behindInMarks .NotIn b = false) : DE X (.Compare a [.NotIn] [b] pos) (dOp (gIn (!·)) wa wb) := de_cmp (op_notInA hu) snd_in ha hb hm
theorem dt_notin (hu : X.A.units + 65 < cLine) (ha : DE X a wa) (hb : DE X b wb) (hm : behindInMarks .NotIn b = false) : DT X (.Compare a [.NotIn] [b] pos) (dTest (dOp (gIn (!·)) wa wb)) := dt_cmp (op_notInA hu) snd_in ha hb hm
/-- one sign in a text -/
def gInS (f : Bool → Bool) : DR2 := fun sx sy d Ψ => ∃ (c : Nat) (z : Str), sx = .val (.str ⟨#[c]⟩) ∧ sy = .val (.str z) ∧ Ψ (.val (.bl (f (decide (c ∈ z.cps.toList))))) d
theorem de_inS (ha : DE X a wa) (hb : DE X b wb) (hm : behindInMarks .In b = false) : DE X (.Compare a [.In] [b] pos) (dOp (gInS id) wa wb) := de_cmp op_in_sign (fun c d T σ H x y sx sy Ψ Q F ⟨ch, z, e1, e2, q⟩ k => by
  subst e1 e2
  obtain ⟨h1, h2⟩ := two_of F rfl rfl
  exact ⟨ch, z, h1, h2, k _ _ _ _ (F.drop.drop.push (x := .bl _) fun _ => rfl) q⟩) ha hb hm

/-! ### lists: + and * -/
def gCat : DR2 := fun sx sy d Ψ => ∃ l m, look d sx = some (.lst l) ∧ look d sy = some (.lst m) ∧ l.length + m.length ≤ 1000000 ∧ Ψ (.own d.o.length) (d.new (l ++ m))
theorem line6 : (1000000 : Nat) ≤ sizeLine := by decide
theorem snd_cat {K : PySem.W.Frag} : SndR2 K rCat gCat := fun c d T σ H x y sx sy Ψ Q F ⟨l, m, e1, e2, hl, q⟩ k => by
  obtain ⟨B, A, C, sl, tm⟩ := F
  obtain ⟨a, us, g1, g2, g3⟩ := C.lookB (tm _ (List.mem_cons_of_mem _ List.mem_cons_self)) e1 rfl
  obtain ⟨b, ws, f1, f2, f3⟩ := C.lookB (tm _ List.mem_cons_self) e2 rfl
  subst g1 f1
  rcases g3 with ⟨_, g3⟩ | ⟨g3, _⟩
  · rcases f3 with ⟨_, f3⟩ | ⟨f3, _⟩
    · refine ⟨a, b, us, ws, rfl, rfl, g3, f3, by rw [g2.len, f2.len]; exact Nat.le_trans hl line6, fun q' hq => k _ _ _ _ (Fit.new ⟨B, A, C, sl, fun z hz => tm z (List.mem_cons_of_mem _ (List.mem_cons_of_mem _ hz)), g2.app f2⟩ hq) q⟩
    · cases f3
  · cases g3
theorem de_cat (ha : DE X a wa) (hb : DE X b wb) : DE X (.BinOp a .Add b pos) (dOp gCat wa wb) := de_op op_cat snd_cat ha hb
def gRep : DR2 := fun sx sy d Ψ => ∃ l k, look d sx = some (.lst l) ∧ sy = .val (.int k) ∧ 0 ≤ k ∧ k ≤ 1000 ∧ l.length ≤ 1000 ∧ Ψ (.own d.o.length) (d.new (List.replicate k.toNat l).flatten)
theorem RDs.rep {K : PySem.W.Frag} {B : Hp} {l : List D} {us : List V} (h : RDs K B l us) : ∀ n : Nat, RDs K B (List.replicate n l).flatten (List.replicate n us).flatten
  | 0 => rfl
  | n + 1 => by
    rw [List.replicate_succ, List.flatten_cons, List.replicate_succ, List.flatten_cons]
    exact h.app (RDs.rep h n)
theorem snd_rep {K : PySem.W.Frag} : SndR2 K rRep gRep := fun c d T σ H x y sx sy Ψ Q F ⟨l, m, e1, e2, k0, k1, hl, q⟩ k => by
  subst e2
  have hy : y = .int m := F.look List.mem_cons_self rfl
  subst hy
  obtain ⟨B, A, C, sl, tm⟩ := F
  obtain ⟨a, us, g1, g2, g3⟩ := C.lookB (tm _ (List.mem_cons_of_mem _ List.mem_cons_self)) e1 rfl
  subst g1
  rcases g3 with ⟨_, g3⟩ | ⟨g3, _⟩
  · have : l.length * m.toNat ≤ 1000 * 1000 := Nat.mul_le_mul hl (by omega)
    refine ⟨a, m, us, rfl, rfl, g3, by omega, by omega, by rw [g2.len]; exact Nat.le_trans this line6, fun q' hq => k _ _ _ _ (Fit.new ⟨B, A, C, sl, fun z hz => tm z (List.mem_cons_of_mem _ (List.mem_cons_of_mem _ hz)), g2.rep _⟩ hq) q⟩
  · cases g3
theorem de_rep (ha : DE X a wa) (hb : DE X b wb) : DE X (.BinOp a .Mult b pos) (dOp gRep wa wb) := de_op op_rep snd_rep ha hb

/-! ### methods of lists -/
abbrev DRM := S → List S → DTE
def dBM (g : DRM) (wo : DTE) (wa : DTA) : DTE := fun d Ψ => wo d fun s d1 => (∃ m, look d1 s = some (.lst m)) ∧ wa d1 fun ss d2 => g s ss d2 Ψ
def SndM (K : PySem.W.Frag) (r : V → List V → Hp → VK → Prop) (g : DRM) : Prop := ∀ (c : Ctx) (d : DS) (v : V) (s : S) (TT T : List (V × S)) (σ : L2.St) (H : Hp) (Ψ : S → DS → Prop) (Q : VK), Fit K c d (TT ++ (v, s) :: T) σ H → g s (TT.map (·.2)) d Ψ → (∀ s d' v H', Fit K c d' ((v, s) :: T) σ H' → Ψ s d' → Q v H') → r v (TT.map (·.1)) H Q
theorem sndBM {K : PySem.W.Frag} {r : V → List V → Hp → VK → Prop} {g : DRM} {to : TE} {t : TA} (hr : SndM K r g) (ho : SndE K to we) (h : SndA K t ws) : SndE K (tBM K "list" r to t) (dBM g we ws) := fun c d T σ H Ψ Q F w k => ho c d T σ H _ _ F w fun s d1 v H1 F1 ⟨⟨m, e⟩, w1⟩ => by
  have hl : tyV K "list" v H1 := by
    obtain ⟨a, us, h1, h2, h3⟩ := F1.look List.mem_cons_self e
    subst h1
    exact .inl ⟨rfl, us, .inl (.inl h2)⟩
  exact ⟨hl, h c d1 _ σ H1 _ _ F1 w1 fun TT d2 H2 F2 w2 => hr c d2 v s TT T σ H2 Ψ Q F2 w2 k⟩
variable {o : Expr} {apos cpos : Pos}
def gAppend : DRM := fun s ss d Ψ => ∃ k y x d1 l, s = .own k ∧ ss = [y] ∧ fz d y = some (x, d1) ∧ d1.o[k]? = some (true, l) ∧ l.length ≤ 1000000 ∧ Ψ (.val .non) { d1 with o := d1.o.set k (true, l ++ [x]) }
theorem snd_append {K : PySem.W.Frag} : SndM K rAppend gAppend := fun c d v s TT T σ H Ψ Q F ⟨j, y, x, d1, l, e0, e1, e2, e3, hl, q⟩ k => by
  subst e0
  obtain ⟨u, rfl⟩ := one_arg' e1
  obtain ⟨B, A, C, sl, tm⟩ := F.fz e2
  obtain ⟨a, ha, ev⟩ : ∃ p, A[j]? = some p ∧ v = .ref p := tm _ (List.mem_cons_of_mem _ List.mem_cons_self)
  subst ev
  obtain ⟨_, _, us, hu, ru, _⟩ := C.ow j a _ ha e3
  have rx : RD K B x u := tm _ List.mem_cons_self
  refine ⟨a, us, u, rfl, rfl, hu, by rw [ru.len]; exact Nat.lt_of_le_of_lt hl (by decide), k _ { d1 with o := d1.o.set j (true, l ++ [x]) } .non _ ⟨B, A, C.write e3 ha (RDs.app (l' := [x]) ru ⟨u, [], rfl, rx, rfl⟩), sl, Tm.cons (s := .val .non) rfl fun z hz => tm z (List.mem_cons_of_mem _ (List.mem_cons_of_mem _ hz))⟩ q⟩
theorem de_append (ho : DE X o wa) (ha : DA X [e] ws) (hbase : attributeBase o "append" X.env (eval o X.env) = eval o X.env := by rfl)
    (hfew : ((backTo cpos (starEach [e] X.env)).all (fun x => !x.1) && (backToKw cpos (keywordEach [] X.env)).all (fun x => x.1.isSome)
      && decide ([e].length + ([] : List Keyword).length + (if ([] : List Keyword).isEmpty then 0 else 1) < 30)) = true := by rfl)
    (hline : (apos.endLine == cpos.line) = true := by rfl) (hs : starEach [e] X.env = (false, eval e X.env) :: starEach [] X.env := by rfl) (hplain : (backTo cpos (starEach [] X.env)).any (·.1) = false := by rfl) :
    DE X (.Call (.Attribute o "append" apos) [e] [] cpos) (dBM gAppend wa ws) := by
  obtain ⟨t, h1, h2⟩ := ho
  obtain ⟨u, h3, h4⟩ := ha
  exact ⟨_, pe_bm PySem.F.plainAttrs_list PySem.F.slot_list_append PySem.F.type_list_append mt_append h1 h3 hbase hfew hline hs hplain, sndBM snd_append h2 h4⟩
def gExtend : DRM := fun s ss d Ψ => ∃ k y l m, s = .own k ∧ ss = [y] ∧ d.o[k]? = some (true, l) ∧ look d y = some (.lst m) ∧ l.length + m.length ≤ 1000000 ∧ Ψ (.val .non) { d with o := d.o.set k (true, l ++ m) }
theorem snd_extend {K : PySem.W.Frag} : SndM K rExtend gExtend := fun c d v s TT T σ H Ψ Q F ⟨j, y, l, m, e0, e1, e2, e3, hl, q⟩ k => by
  subst e0
  obtain ⟨u, rfl⟩ := one_arg' e1
  obtain ⟨B, A, C, sl, tm⟩ := F
  obtain ⟨a, ha, ev⟩ : ∃ p, A[j]? = some p ∧ v = .ref p := tm _ (List.mem_cons_of_mem _ List.mem_cons_self)
  subst ev
  obtain ⟨_, _, us, hu, ru, _⟩ := C.ow j a _ ha e2
  obtain ⟨b, ws, f1, f2, f3⟩ := C.lookB (tm _ List.mem_cons_self) e3 rfl
  have f1 : u = .ref b := f1
  subst f1
  rcases f3 with ⟨_, f3⟩ | ⟨f3, _⟩
  · refine ⟨a, b, us, ws, rfl, rfl, hu, f3, by rw [ru.len, f2.len]; exact Nat.le_trans hl line6, k _ { d with o := d.o.set j (true, l ++ m) } .non _ ⟨B, A, C.write e2 ha (RDs.app ru f2), sl, Tm.cons (s := .val .non) rfl fun z hz => tm z (List.mem_cons_of_mem _ (List.mem_cons_of_mem _ hz))⟩ q⟩
  · cases f3
theorem de_extend (ho : DE X o wa) (ha : DA X [e] ws) (hbase : attributeBase o "extend" X.env (eval o X.env) = eval o X.env := by rfl)
    (hfew : ((backTo cpos (starEach [e] X.env)).all (fun x => !x.1) && (backToKw cpos (keywordEach [] X.env)).all (fun x => x.1.isSome)
      && decide ([e].length + ([] : List Keyword).length + (if ([] : List Keyword).isEmpty then 0 else 1) < 30)) = true := by rfl)
    (hline : (apos.endLine == cpos.line) = true := by rfl) (hs : starEach [e] X.env = (false, eval e X.env) :: starEach [] X.env := by rfl) (hplain : (backTo cpos (starEach [] X.env)).any (·.1) = false := by rfl) :
    DE X (.Call (.Attribute o "extend" apos) [e] [] cpos) (dBM gExtend wa ws) := by
  obtain ⟨t, h1, h2⟩ := ho
  obtain ⟨u, h3, h4⟩ := ha
  exact ⟨_, pe_bm PySem.F.plainAttrs_list PySem.F.slot_list_extend PySem.F.type_list_extend mt_extend h1 h3 hbase hfew hline hs hplain, sndBM snd_extend h2 h4⟩
/-- xs.pop(i), 0 ≤ i -/
def gPopAt : DRM := fun s ss d Ψ => ∃ k i l x, s = .own k ∧ ss = [.val (.int i)] ∧ d.o[k]? = some (true, l) ∧ 0 ≤ i ∧ i < 1000000 ∧ l[i.toNat]? = some x ∧ Ψ (.val x) { d with o := d.o.set k (true, l.eraseIdx i.toNat) }
theorem snd_popAt {K : PySem.W.Frag} : SndM K rPopAt gPopAt := fun c d v s TT T σ H Ψ Q F ⟨j, i, l, x, e0, e1, e2, i0, i1, e3, q⟩ k => by
  subst e0
  obtain ⟨u, rfl⟩ := one_arg' e1
  have hu' : u = .int i := F.look List.mem_cons_self rfl
  subst hu'
  obtain ⟨B, A, C, sl, tm⟩ := F
  obtain ⟨a, ha, ev⟩ : ∃ p, A[j]? = some p ∧ v = .ref p := tm _ (List.mem_cons_of_mem _ List.mem_cons_self)
  subst ev
  obtain ⟨_, _, us, hu, ru, _⟩ := C.ow j a _ ha e2
  obtain ⟨w, hw, rw'⟩ := RDs.get ru e3
  have hlt : i.toNat < us.length := (List.getElem?_eq_some_iff.mp hw).1
  refine ⟨a, us, i, i.toNat, w, rfl, rfl, hu, by omega, by omega, ?_, hw, k _ { d with o := d.o.set j (true, l.eraseIdx i.toNat) } w _ ⟨B, A, C.write e2 ha (RDs.eraseIdx _ ru), sl, Tm.cons (s := .val x) rw' fun z hz => tm z (List.mem_cons_of_mem _ (List.mem_cons_of_mem _ hz))⟩ q⟩
  unfold seqIndex?
  simp only []
  split <;> simp_all <;> omega
theorem de_popAt (ho : DE X o wa) (ha : DA X [e] ws) (hbase : attributeBase o "pop" X.env (eval o X.env) = eval o X.env := by rfl)
    (hfew : ((backTo cpos (starEach [e] X.env)).all (fun x => !x.1) && (backToKw cpos (keywordEach [] X.env)).all (fun x => x.1.isSome)
      && decide ([e].length + ([] : List Keyword).length + (if ([] : List Keyword).isEmpty then 0 else 1) < 30)) = true := by rfl)
    (hline : (apos.endLine == cpos.line) = true := by rfl) (hs : starEach [e] X.env = (false, eval e X.env) :: starEach [] X.env := by rfl) (hplain : (backTo cpos (starEach [] X.env)).any (·.1) = false := by rfl) :
    DE X (.Call (.Attribute o "pop" apos) [e] [] cpos) (dBM gPopAt wa ws) := by
  obtain ⟨t, h1, h2⟩ := ho
  obtain ⟨u, h3, h4⟩ := ha
  exact ⟨_, pe_bm PySem.F.plainAttrs_list PySem.F.slot_list_pop PySem.F.type_list_pop mt_popAt h1 h3 hbase hfew hline hs hplain, sndBM snd_popAt h2 h4⟩
end
end RH

set_option Elab.async false
set_option linter.all false
set_option maxRecDepth 100000
set_option maxHeartbeats 1000000
/-! the data layer, part g: + and * of several kinds, stars, chains, None, texts of the module, zip, defs by name -/
namespace RH
open PySem PySem.Spec PyProof.Rows L2

section
variable {X : Cx} {a b c e l : Expr} {es : List Expr} {we wa wb wc : DTE} {ws : DTA} {p pos : Pos} {x : Str}

/-! ### several kinds -/
theorem OpR.or {f : Value → Value → Sem Value} {r r' : R2} (h : OpR X f r) (h' : OpR X f r') : OpR X f (fun x y H Q => r x y H Q ∨ r' x y H Q) := by
  intro pins s σ H x y v u Q I rx ry q
  rcases q with q | q
  · exact h pins s σ H x y v u Q I rx ry q
  · exact h' pins s σ H x y v u Q I rx ry q
def gOr (g g' : DR2) : DR2 := fun sx sy d Ψ => g sx sy d Ψ ∨ g' sx sy d Ψ
theorem snd_or {K : PySem.W.Frag} {r r' : R2} {g g' : DR2} (h : SndR2 K r g) (h' : SndR2 K r' g') : SndR2 K (fun x y H Q => r x y H Q ∨ r' x y H Q) (gOr g g') := fun c d T σ H x y sx sy Ψ Q F w k => by
  rcases w with w | w
  · exact .inl (h c d T σ H x y sx sy Ψ Q F w k)
  · exact .inr (h' c d T σ H x y sx sy Ψ Q F w k)
def gCatS : DR2 := fun sx sy d Ψ => ∃ y z : Str, sx = .val (.str y) ∧ sy = .val (.str z) ∧ y.length + z.length ≤ 1000000 ∧ Ψ (.val (.str (y ++ z))) d
theorem snd_catS {K : PySem.W.Frag} : SndR2 K (fun x y H Q => ∃ i j, x = .str i ∧ y = .str j ∧ i.length + j.length ≤ sizeLine ∧ Q (.str (i ++ j)) H) gCatS := fun c d T σ H x y sx sy Ψ Q F ⟨i, j, e1, e2, hl, q⟩ k => by
  subst e1 e2
  obtain ⟨h1, h2⟩ := two_of F rfl rfl
  exact ⟨i, j, h1, h2, Nat.le_trans hl line6, k _ _ _ _ (F.drop.drop.push (x := .str _) fun _ => rfl) q⟩
def gPlus : DR2 := gOr (gI0 fun i j => .int (i + j)) (gOr gCat gCatS)
theorem de_plus (ha : DE X a wa) (hb : DE X b wb) : DE X (.BinOp a .Add b pos) (dOp gPlus wa wb) := de_op (OpR.or op_add (OpR.or op_cat op_add_str)) (snd_or (snd_I0 fun _ _ _ => rfl) (snd_or snd_cat snd_catS)) ha hb
def gTimes : DR2 := gOr (gI CMul fun i j => .int (i * j)) gRep
theorem de_times (ha : DE X a wa) (hb : DE X b wb) : DE X (.BinOp a .Mult b pos) (dOp gTimes wa wb) := de_op (OpR.or op_mul op_rep) (snd_or (snd_I fun _ _ _ => rfl) snd_rep) ha hb
theorem de_mod (ha : DE X a wa) (hb : DE X b wb) : DE X (.BinOp a .Mod b pos) (dOp (gI (fun _ j => 0 < j) fun i j => .int (i % j)) wa wb) := de_op op_mod (snd_I fun _ _ _ => rfl) ha hb
theorem de_fdiv (ha : DE X a wa) (hb : DE X b wb) : DE X (.BinOp a .FloorDiv b pos) (dOp (gI CDiv fun i j => .int (i / j)) wa wb) := de_op op_fdiv (snd_I fun _ _ _ => rfl) ha hb
theorem de_pow (ha : DE X a wa) (hb : DE X b wb) : DE X (.BinOp a .Pow b pos) (dOp (gI CPow fun i j => .int (i ^ j.toNat)) wa wb) := de_op op_pow (snd_I fun _ _ _ => rfl) ha hb
def dNeg (w : DTE) : DTE := fun d Ψ => w d fun s d1 => ∃ i, s = .val (.int i) ∧ Ψ (.val (.int (-i))) d1
theorem de_neg (ha : DE X a wa) : DE X (.UnaryOp .USub a pos) (dNeg wa) := by
  obtain ⟨t, h1, h2⟩ := ha
  refine ⟨_, pe_un un_neg h1, fun c d T σ H Ψ Q F hw k => h2 c d T σ H _ _ F hw fun s d1 v H1 F1 ⟨i, e, w1⟩ => ?_⟩
  subst e
  exact ⟨i, F1.look List.mem_cons_self rfl, k _ d1 _ H1 (F1.drop.push (x := .int (-i)) fun _ => rfl) w1⟩

/-! ### a <= b <= c, ints -/
def dChain (f g : Int → Int → Bool) (wa wb wc : DTE) : DTE := fun d Ψ => wa d fun sa d1 => wb d1 fun sb d2 => ∃ i j, sa = .val (.int i) ∧ sb = .val (.int j) ∧ if f i j = true then wc d2 fun sc d3 => ∃ k, sc = .val (.int k) ∧ Ψ (.val (.bl (g j k))) d3 else Ψ (.val (.bl false)) d2
theorem snd_chain {K : PySem.W.Frag} {f g : Int → Int → Bool} {ta tb tc : TE} (ha : SndE K ta wa) (hb : SndE K tb wb) (hc : SndE K tc wc) : SndE K (tChain (rI0 fun i j => .bl (f i j)) (rI0 fun i j => .bl (g i j)) ta tb tc) (dChain f g wa wb wc) := by
  intro c d T σ H Ψ Q F hw k
  refine ha c d T σ H _ _ F hw fun sa d1 x H1 F1 w1 => hb c d1 _ σ H1 _ _ F1 w1 fun sb d2 y H2 F2 ⟨i, j, e1, e2, w2⟩ => ?_
  subst e1 e2
  obtain ⟨h1, h2⟩ := two_of F2 rfl rfl
  refine ⟨i, j, h1, h2, f i j, rfl, ?_⟩
  by_cases hf : f i j = true
  · rw [if_pos hf] at w2 ⊢
    refine hc c d2 _ σ H2 _ _ F2 w2 fun sc d3 z H3 F3 ⟨m, e3, w3⟩ => ?_
    subst e3
    have hz : z = .int m := F3.look List.mem_cons_self rfl
    exact ⟨j, m, h2, hz, k _ d3 _ H3 (F3.drop.drop.drop.push (x := .bl _) fun _ => rfl) w3⟩
  · rw [if_neg hf] at w2 ⊢
    exact k _ d2 _ H2 (F2.drop.drop.push (x := .bl _) fun _ => rfl) w2
theorem de_chainLe (ha : DE X a wa) (hb : DE X b wb) (hc : DE X c wc) (hm : lastMarks [.LtE, .LtE] [b, c] = false := by with_unfolding_all rfl) : DE X (.Compare a [.LtE, .LtE] [b, c] pos) (dChain (fun i j => decide (i ≤ j)) (fun i j => decide (i ≤ j)) wa wb wc) := by
  obtain ⟨ta, a1, a2⟩ := ha
  obtain ⟨tb, b1, b2⟩ := hb
  obtain ⟨tc, c1, c2⟩ := hc
  exact ⟨_, pe_chain op_le op_le a1 b1 c1 hm, snd_chain a2 b2 c2⟩
theorem dt_chainLe (ha : DE X a wa) (hb : DE X b wb) (hc : DE X c wc) (hm : lastMarks [.LtE, .LtE] [b, c] = false := by with_unfolding_all rfl) : DT X (.Compare a [.LtE, .LtE] [b, c] pos) (dTest (dChain (fun i j => decide (i ≤ j)) (fun i j => decide (i ≤ j)) wa wb wc)) := by
  obtain ⟨ta, a1, a2⟩ := ha
  obtain ⟨tb, b1, b2⟩ := hb
  obtain ⟨tc, c1, c2⟩ := hc
  exact ⟨_, pt_chain op_le op_le a1 b1 c1 hm, sndTest (snd_chain a2 b2 c2)⟩

/-! ### is None, is not None -/
def isNon : D → Bool
  | .non => true
  | _ => false
theorem RD.isNon {K : PySem.W.Frag} {H : Hp} {z : D} {v : V} (h : RD K H z v) : decide (v = .non) = RH.isNon z := by
  cases z with
  | non => cases (show v = .non from h); rfl
  | bl b => cases (show v = .bl b from h); rfl
  | int i => cases (show v = .int i from h); rfl
  | str x => cases (show v = .str x from h); rfl
  | lst l => obtain ⟨a, us, h1, _⟩ := h; subst h1; rfl
  | tup l => obtain ⟨a, us, h1, _⟩ := h; subst h1; rfl
  | dic l => obtain ⟨a, us, h1, _⟩ := h; subst h1; rfl
  | obj C l => obtain ⟨a, dx, us, h1, _⟩ := h; subst h1; rfl
def gIsN (f : Bool → Bool) : DR2 := fun sx sy d Ψ => ∃ z, look d sx = some z ∧ sy = .val .non ∧ Ψ (.val (.bl (f (isNon z)))) d
theorem de_isN (ha : DE X a wa) (hb : DE X b wb) : DE X (.Compare a [.Is] [b] pos) (dOp (gIsN id) wa wb) := de_cmp op_isN (fun c d T σ H x y sx sy Ψ Q F ⟨z, e1, e2, q⟩ k => by
  subst e2
  obtain ⟨h1, h2⟩ := two_of F e1 rfl
  exact ⟨h2, by rw [h1.isNon]; exact k _ _ _ _ (F.drop.drop.push (x := .bl (isNon z)) fun _ => rfl) q⟩) ha hb (nomark _)
theorem de_notN (ha : DE X a wa) (hb : DE X b wb) : DE X (.Compare a [.IsNot] [b] pos) (dOp (gIsN (!·)) wa wb) := de_cmp op_notN (fun c d T σ H x y sx sy Ψ Q F ⟨z, e1, e2, q⟩ k => by
  subst e2
  obtain ⟨h1, h2⟩ := two_of F e1 rfl
  exact ⟨h2, by rw [h1.isNon]; exact k _ _ _ _ (F.drop.drop.push (x := .bl (!isNon z)) fun _ => rfl) q⟩) ha hb (nomark _)
theorem dt_isN (ha : DE X a wa) (hb : DE X b wb) : DT X (.Compare a [.Is] [b] pos) (dTest (dOp (gIsN id) wa wb)) := dt_cmp op_isN (fun c d T σ H x y sx sy Ψ Q F ⟨z, e1, e2, q⟩ k => by
  subst e2
  obtain ⟨h1, h2⟩ := two_of F e1 rfl
  exact ⟨h2, by rw [h1.isNon]; exact k _ _ _ _ (F.drop.drop.push (x := .bl (isNon z)) fun _ => rfl) q⟩) ha hb (nomark _)
theorem dt_notN (ha : DE X a wa) (hb : DE X b wb) : DT X (.Compare a [.IsNot] [b] pos) (dTest (dOp (gIsN (!·)) wa wb)) := dt_cmp op_notN (fun c d T σ H x y sx sy Ψ Q F ⟨z, e1, e2, q⟩ k => by
  subst e2
  obtain ⟨h1, h2⟩ := two_of F e1 rfl
  exact ⟨h2, by rw [h1.isNon]; exact k _ _ _ _ (F.drop.drop.push (x := .bl (!isNon z)) fun _ => rfl) q⟩) ha hb (nomark _)

/-! ### in a list of texts of the module -/
def flatD : D → Option V
  | .non => some .non
  | .bl b => some (.bl b)
  | .int i => some (.int i)
  | .str x => some (.str x)
  | _ => none
def dInG (l : List V) (w : DTE) : DTE := fun d Ψ => w d fun s d1 => ∃ z v, look d1 s = some z ∧ flatD z = some v ∧ Ψ (.val (.bl (inV v l))) d1
theorem RD.flat {K : PySem.W.Frag} {H : Hp} {z : D} {v u : V} (h : RD K H z v) (e : flatD z = some u) : v = u ∧ flatV v = true := by
  cases z <;> first | (cases e; cases h; exact ⟨rfl, rfl⟩) | cases e
theorem de_inG {l : List V} {y : Str} {py : Pos} {q : Addr} (ha : DE X a wa) (hb : PE X (.Name y py) (tC (.ref q))) (hq : ∀ H, SqL X.K H q l ∨ SqT X.K H q l) (hf : l.all flatV = true) (hm : behindInMarks .In (.Name y py) = false := by rfl) : DE X (.Compare a [.In] [.Name y py] pos) (dInG l wa) := by
  obtain ⟨t, h1, h2⟩ := ha
  refine ⟨_, pe_cmpR op_in_seq h1 hb hm, fun c d T σ H Ψ Q F hw k => h2 c d T σ H _ _ F hw fun s d1 v H1 F1 ⟨z, u, e1, e2, w1⟩ => ?_⟩
  obtain ⟨g1, g2⟩ := (F1.look List.mem_cons_self e1).flat e2
  subst g1
  exact ⟨q, l, rfl, hq H1, g2, hf, k _ d1 _ H1 (F1.drop.push (x := .bl _) fun _ => rfl) w1⟩

/-! ### [*xs, e, ..] -/
def dStar (w : DTE) (r : DTA) : DTA := fun d Ψ => w d fun s d1 => ∃ z m, look d1 s = some z ∧ seqD z = some m ∧ m.length ≤ 100000 ∧ r d1 fun ss d2 => Ψ (m.map .val ++ ss) d2
theorem da_star {r : DTA} (h : DE X e wa) (h' : DA X es r) (hs : starEach (.Starred e p :: es) X.env = (true, eval e X.env) :: starEach es X.env := by rfl) : DA X (.Starred e p :: es) (dStar wa r) := by
  obtain ⟨t, h1, h2⟩ := h
  obtain ⟨u, h3, h4⟩ := h'
  refine ⟨_, StX.pa_star h1 h3 hs, fun c d T σ H Ψ Q F hw k => h2 c d T σ H _ _ F hw fun s d1 v H1 F1 ⟨z, m, e1, e2, _, w1⟩ => ?_⟩
  obtain ⟨B, A, C, sl, tm⟩ := F1
  obtain ⟨a, us, g1, g2, g3⟩ := C.lookB (tm _ List.mem_cons_self) e1 e2
  subst g1
  -- the items are on the way
  have F2 : Fit X.K c d1 ((us.zip (m.map S.val)) ++ T) σ H1 := by
    refine ⟨B, A, C, sl, Tm.app ?_ fun q hq => tm q (List.mem_cons_of_mem _ hq)⟩
    have : ∀ (m : List D) (us : List V), RDs X.K B m us → Tm X.K c B A (us.zip (m.map S.val)) := by
      intro m
      induction m with
      | nil => intro us h; cases (show us = [] from h); exact Tm.nil
      | cons d m ih =>
        intro us ⟨v, r, h1, h2, h3⟩
        subst h1
        exact Tm.cons (s := .val d) h2 (ih r h3)
    exact this m us g2
  have l1 : (us.zip (m.map S.val)).map (·.1) = us := by
    rw [List.map_fst_zip]
    rw [List.length_map, g2.len]; exact Nat.le_refl _
  have l2 : (us.zip (m.map S.val)).map (·.2) = m.map S.val := by
    rw [List.map_snd_zip]
    rw [List.length_map, g2.len]; exact Nat.le_refl _
  refine ⟨a, us, rfl, ?_, h4 c d1 _ σ H1 _ _ F2 w1 fun TT d2 H2 F3 w2 => ?_⟩
  · rcases g3 with ⟨_, g3⟩ | ⟨_, _, g3⟩
    · exact .inr (.inl (.inl g3))
    · exact .inl g3
  · have := k ((us.zip (m.map S.val)) ++ TT) d2 H2 (F3.sub fun q hq => by
      rcases List.mem_append.mp hq with z1 | z1
      · rcases List.mem_append.mp z1 with z2 | z2
        · exact List.mem_append_right _ (List.mem_append_left _ z2)
        · exact List.mem_append_left _ z2
      · exact List.mem_append_right _ (List.mem_append_right _ z1)) (by rw [List.map_append, l2]; exact w2)
    rw [List.map_append, l1] at this
    exact this

/-! ### zip -/
theorem itz_ok {K : PySem.W.Frag} {c : Ctx} {q q' : Addr} {l m : List D} : ItOk K c (Itz K q q') [(.ref q, .val (.lst l)), (.ref q', .val (.lst m))] ((l.zip m).map fun p => .tup [p.1, p.2]) := by
  have base : ∀ (d : DS) (T : List (V × S)) (σ : L2.St) (H : Hp), Fit K c d T σ H → (∀ p ∈ [(V.ref q, S.val (.lst l)), (V.ref q', S.val (.lst m))], p ∈ T) → ∃ B A us ws, Core K c d.o d.n B A H ∧ Sl K c B A d.r σ ∧ Tm K c B A T ∧ B q = some (.lst us) ∧ RDs K B l us ∧ B q' = some (.lst ws) ∧ RDs K B m ws := fun d T σ H F hp => by
    obtain ⟨B, A, C, sl, tm⟩ := F
    obtain ⟨a, us, r1, r2, r3⟩ : RD K B (.lst l) (.ref q) := tm _ (hp _ List.mem_cons_self)
    obtain ⟨b, ws, t1, t2, t3⟩ : RD K B (.lst m) (.ref q') := tm _ (hp _ (List.mem_cons_of_mem _ List.mem_cons_self))
    cases r1
    cases t1
    exact ⟨B, A, us, ws, C, sl, tm, r2, r3, t2, t3⟩
  refine ⟨fun d T σ H i x F hp hx => ?_, fun d T σ H i F hp hi => ?_⟩
  · obtain ⟨B, A, us, ws, C, sl, tm, b1, b2, b3, b4⟩ := base d T σ H F hp
    rw [List.getElem?_map] at hx
    cases hz : (l.zip m)[i]? with
    | none => rw [hz] at hx; cases hx
    | some p =>
      rw [hz] at hx
      cases hx
      obtain ⟨hx1, hx2⟩ := List.getElem?_zip_eq_some.mp hz
      obtain ⟨u, hu, ru⟩ := b2.get hx1
      obtain ⟨w, hw, rw'⟩ := b4.get hx2
      refine ⟨⟨us, ws, u, w, .inl (.inl (C.bh _ _ b1)), .inl (.inl (C.bh _ _ b3)), hu, hw⟩, fun v H' y => ?_⟩
      obtain ⟨t, u', w', e1, e2, e3, e4, e5⟩ := y
      subst e1 e3
      have := e4 us (.inl (.inl (C.bh _ _ b1)))
      rw [hu] at this; cases this
      have := e5 ws (.inl (.inl (C.bh _ _ b3)))
      rw [hw] at this; cases this
      obtain ⟨C2, s1⟩ := C.laid (u := .tup [u, w]) e2
      exact ⟨_, A, C2, sl.mono s1 fun _ _ e => e, Tm.cons (s := .val (.tup [p.1, p.2])) ⟨t, _, rfl, .inl (.inl upd_same), ⟨u, [w], rfl, RD.mono s1 _ _ ru, w, [], rfl, RD.mono s1 _ _ rw', rfl⟩⟩ (tm.mono s1 fun _ _ e => e)⟩
  · obtain ⟨B, A, us, ws, C, sl, tm, b1, b2, b3, b4⟩ := base d T σ H F hp
    rw [List.length_map, List.length_zip] at hi
    exact ⟨us, ws, .inl (.inl (C.bh _ _ b1)), .inl (.inl (C.bh _ _ b3)), by rw [b2.len, b4.len]; omega⟩
theorem itzT_ok {K : PySem.W.Frag} {c : Ctx} {q q' : Addr} {l m : List D} : ItOk K c (RZ.ItzT K q q') [(.ref q, .val (.tup l)), (.ref q', .val (.tup m))] ((l.zip m).map fun p => .tup [p.1, p.2]) := by
  have base : ∀ (d : DS) (T : List (V × S)) (σ : L2.St) (H : Hp), Fit K c d T σ H → (∀ p ∈ [(V.ref q, S.val (.tup l)), (V.ref q', S.val (.tup m))], p ∈ T) → ∃ B A us ws, Core K c d.o d.n B A H ∧ Sl K c B A d.r σ ∧ Tm K c B A T ∧ SqT K B q us ∧ RDs K B l us ∧ SqT K B q' ws ∧ RDs K B m ws := fun d T σ H F hp => by
    obtain ⟨B, A, C, sl, tm⟩ := F
    obtain ⟨a, us, r1, r2, r3⟩ : RD K B (.tup l) (.ref q) := tm _ (hp _ List.mem_cons_self)
    obtain ⟨b, ws, t1, t2, t3⟩ : RD K B (.tup m) (.ref q') := tm _ (hp _ (List.mem_cons_of_mem _ List.mem_cons_self))
    cases r1
    cases t1
    exact ⟨B, A, us, ws, C, sl, tm, r2, r3, t2, t3⟩
  refine ⟨fun d T σ H i x F hp hx => ?_, fun d T σ H i F hp hi => ?_⟩
  · obtain ⟨B, A, us, ws, C, sl, tm, b1, b2, b3, b4⟩ := base d T σ H F hp
    rw [List.getElem?_map] at hx
    cases hz : (l.zip m)[i]? with
    | none => rw [hz] at hx; cases hx
    | some p =>
      rw [hz] at hx
      cases hx
      obtain ⟨hx1, hx2⟩ := List.getElem?_zip_eq_some.mp hz
      obtain ⟨u, hu, ru⟩ := b2.get hx1
      obtain ⟨w, hw, rw'⟩ := b4.get hx2
      refine ⟨⟨us, ws, u, w, sameT C.bh b1, sameT C.bh b3, hu, hw⟩, fun v H' y => ?_⟩
      obtain ⟨t, u', w', e1, e2, e3, e4, e5⟩ := y
      subst e1 e3
      have := e4 us (sameT C.bh b1)
      rw [hu] at this; cases this
      have := e5 ws (sameT C.bh b3)
      rw [hw] at this; cases this
      obtain ⟨C2, s1⟩ := C.laid (u := .tup [u, w]) e2
      exact ⟨_, A, C2, sl.mono s1 fun _ _ e => e, Tm.cons (s := .val (.tup [p.1, p.2])) ⟨t, _, rfl, .inl (.inl upd_same), ⟨u, [w], rfl, RD.mono s1 _ _ ru, w, [], rfl, RD.mono s1 _ _ rw', rfl⟩⟩ (tm.mono s1 fun _ _ e => e)⟩
  · obtain ⟨B, A, us, ws, C, sl, tm, b1, b2, b3, b4⟩ := base d T σ H F hp
    rw [List.length_map, List.length_zip] at hi
    exact ⟨us, ws, sameT C.bh b1, sameT C.bh b3, by rw [b2.len, b4.len]; omega⟩
/-- zip(xs, ys), both lists or both tuples -/
def diZip (w : DTA) : DTI := fun d Ψ => w d fun ss d1 => ∃ s s' x y d2 d3 l m, ss = [s, s'] ∧ fz d1 s = some (x, d2) ∧ fz d2 s' = some (y, d3) ∧ ((x = .lst l ∧ y = .lst m) ∨ (x = .tup l ∧ y = .tup m)) ∧ Ψ ((l.zip m).map fun p => .tup [p.1, p.2]) d3
theorem di_zip {tpos : Pos} {elts : List Expr} {kk : Nat} (hg : Gl X "zip") (hm : X.mg "zip" = none) (ha : DA X [e, l] ws)
    (hs : starEach [e, l] X.env = (false, eval e X.env) :: starEach [l] X.env := by rfl) (hpl : (backTo pos (starEach [l] X.env)).any (·.1) = false := by rfl) : DI X (.Tuple elts kk tpos) (.Call (.Name "zip" p) [e, l] [] pos) (diZip ws) := by
  obtain ⟨t, h1, h2⟩ := ha
  refine ⟨_, RZ.pi_zipA hg hm h1 hs hpl, fun c d T σ H Ψ R F hw k => h2 c d T σ H _ _ F hw fun TT d1 H1 F1 ⟨s, s', x, y, d2, d3, l, m, e, e1, e2, e3, w1⟩ => ?_⟩
  obtain ⟨v, v', rfl⟩ := two_arg e
  have F2 := F1.fz e1
  have F3 := (F2.sub (T' := (v', s') :: (v, .val x) :: T) fun q hq => by
    rcases List.mem_cons.mp hq with z | z
    · subst z; exact List.mem_cons_of_mem _ List.mem_cons_self
    · rcases List.mem_cons.mp z with z | z
      · subst z; exact List.mem_cons_self
      · exact List.mem_cons_of_mem _ (List.mem_cons_of_mem _ z)).fz e2
  have F4 : Fit X.K c d3 ([(v, S.val x), (v', S.val y)] ++ T) σ H1 := F3.sub fun q hq => by
    rcases List.mem_cons.mp hq with z | z
    · subst z; exact List.mem_cons_of_mem _ List.mem_cons_self
    · rcases List.mem_cons.mp z with z | z
      · subst z; exact List.mem_cons_self
      · exact List.mem_cons_of_mem _ (List.mem_cons_of_mem _ z)
  rcases e3 with ⟨e3, e4⟩ | ⟨e3, e4⟩
  · subst e3 e4
    obtain ⟨a, us, r1, r2, r3⟩ := F4.look (x := .lst l) List.mem_cons_self rfl
    obtain ⟨b, ws, t1, t2, t3⟩ := F4.look (x := .lst m) (List.mem_cons_of_mem _ List.mem_cons_self) rfl
    subst r1 t1
    exact ⟨a, b, us, ws, rfl, .inl ⟨.inl (.inl r2), .inl (.inl t2), k _ d3 _ _ H1 F4 itz_ok w1⟩⟩
  · subst e3 e4
    obtain ⟨a, us, r1, r2, r3⟩ := F4.look (x := .tup l) List.mem_cons_self rfl
    obtain ⟨b, ws, t1, t2, t3⟩ := F4.look (x := .tup m) (List.mem_cons_of_mem _ List.mem_cons_self) rfl
    subst r1 t1
    exact ⟨a, b, us, ws, rfl, .inr ⟨r2, t2, k _ d3 _ _ H1 F4 itzT_ok w1⟩⟩
end
end RH

set_option Elab.async false
set_option linter.all false
set_option maxRecDepth 100000
set_option maxHeartbeats 1000000
/-! the data layer, part h: slices' rule, sorted, defs by name -/
namespace RH
open PySem PySem.Spec PyProof.Rows L2

theorem sl_any {X : Cx} : SlR X (RH.rSlA X.K) := by
  intro pins s σ H x v vl vu lo hi sl Q I rx hs pl pu h
  rcases h with h | h | ⟨a, xs, e, h1, h2, h3, q⟩
  · exact sl_list pins s σ H x v vl vu lo hi sl Q I rx hs pl pu h
  · exact sl_tup pins s σ H x v vl vu lo hi sl Q I rx hs pl pu h
  · exact sl_tupA pins s σ H x v vl vu lo hi sl Q I rx hs pl pu ⟨a, xs, e, h1, fun _ => q, fun n => absurd ⟨h2, h3⟩ n⟩

/-! ### sorted of alike data -/
abbrev PD := V × D
def leD (x y : D) : Bool := PySem.W.dataLe false (fun d : D => py d) x y
def encP (b : PD) : PyData := py b.2
/-- sorted(xs), a list or a tuple of alike data -/
def rSortD (K : PySem.W.Frag) : List V → Hp → VK → Prop := fun vs H Q => ∃ (a : Addr) (bs : List PD), vs = [.ref a] ∧ (SqL K H a (bs.map (·.1)) ∨ SqT K H a (bs.map (·.1))) ∧ (∀ b ∈ bs, RD K H b.2 b.1 ∧ plain b.2 = true ∧ (py b.2).depth ≤ 40) ∧
  PySem.W.AllAlike (bs.map encP) ∧ PySem.W.Sortable (bs.map encP) ∧ ∀ p, H p = none → Q (.ref p) (upd H p (.lst ((bs.mergeSort (PySem.W.dataLe false encP)).map (·.1))))
theorem each_vals {bs : List PD} : ∀ {out : List Value}, PySem.W.EachIs (fun v (b : PD) => RelV b.1 v) out bs → Vals (bs.map (·.1)) out := by
  intro out h
  induction h with
  | nil => exact .nil
  | cons h _ ih => exact .cons h ih
theorem vals_each : ∀ {bs : List PD} {out : List Value}, Vals (bs.map (·.1)) out → PySem.W.EachIs (fun v (b : PD) => RelV b.1 v) out bs
  | [], _, h => by cases h; exact .nil
  | b :: bs, _, h => by cases h with | cons h1 h2 => exact .cons h1 (vals_each h2)
section
open PySem.W PySem.Calls
variable {prog : Program} {w : World} {A : Around} {E : Value → Shared → Prop} {s : Shared}
/-- sorted(xs), whatever xs (a list, a tuple): the new list is the one that collect's items are laid in -/
theorem sorted_seq {l : Addr} {T : String} {o : Obj} {items : Array Value} {n : Nat} {κ : PyProof.Rows.KeyKind} {Q : Value → Shared → Prop} (hT : T = "list" ∨ T = "tuple") (ho : s.heap.get? l = some o) (hc : o.cls = .type T) (hd : o.data = .seq items n) (hL : items.size ≤ sizeLine)
    (S : ∀ h' : Heap, (∀ b o, s.heap.get? b = some o → h'.get? b = some o) → SortsAt prog w A.in1.in1 { s with heap := h' } κ items.toList)
    (h : ∀ h1 h' : Heap, (∀ b o, s.heap.get? b = some o → h1.get? b = some o) → (∀ b o, h1.get? b = some o → h'.get? b = some o) → (∃ e, h'.get? h1.objs.size = some (seqObj "list" (sortVals κ false items.toList items.toList).toArray e)) → Q (.ref h1.objs.size) { s with heap := h' }) :
    wpAny (model prog w) A (call (.builtin "sorted") [.ref l]) Q E s := by
  refine call_function_entry_kw kind_sorted plain_sorted entry_sorted (args_sorted1 _) ?_
  unfold Builtin.«sorted»
  refine wpAny_bind (m := checkCount "sorted" 1 1 _) (wpAny_pure ?_)
  refine wpAny_bind (wpAny_collect_seq l hT ho hc hd (fun h1 hk => ?_) hL)
  refine wpAny_bind (wpAny_newList ?_ (by simpa using hL))
  have hp : (h1.push (seqObj "list" items.toList.toArray 0)).get? h1.objs.size = some (seqObj "list" items.toList.toArray 0) := Heap.get?_push_size _ rfl
  have keep : ∀ b o, s.heap.get? b = some o → (h1.push (seqObj "list" items.toList.toArray 0)).get? b = some o := fun b o e => Heap.get?_push_of_some _ (hk b o e)
  show wpAny _ _ _ _ _ { s with heap := h1.push (seqObj "list" items.toList.toArray 0) }
  refine wpAny_bind (wpAny_holding (wpAny_call_entry_kw slot_list_sort ⟨_, hp, rfl⟩ entry_list_sort ?body (args_list_sort _)))
  case body =>
    show wpAny (model prog w) A.in1.in1 (Builtin.«list.sort» ⟨[.ref h1.objs.size], []⟩) _ _ _
    have hne1 : ∀ b o, h1.get? b = some o → b ≠ h1.objs.size := fun b o e => Nat.ne_of_lt (Heap.lt_size e)
    have hne : ∀ b o, s.heap.get? b = some o → b ≠ h1.objs.size := fun b o e => hne1 b o (hk b o e)
    have keep1 : ∀ b o, h1.get? b = some o → (h1.push (seqObj "list" items.toList.toArray 0)).get? b = some o := fun b o e => Heap.get?_push_of_some _ e
    refine wpAny_mono (list_sort_vals (κ := κ) (s := { s with heap := h1.push (seqObj "list" items.toList.toArray 0) }) (P := fun f s' => f = .done (.ret .none) ∧ Q (.ref h1.objs.size) s') (E := E) hp
      (S _ fun b o e => sortingHeap_old (hne b o e) (keep b o e)) (by simpa using hL) ⟨rfl, h h1 _ hk (fun b o e => ?_) (sortedHeap_at hp)⟩) (fun f s' hf => ?_) fun _ _ e => e
    · rw [sortedHeap_old (hne1 b o e) (Heap.lt_size (keep1 b o e))]
      exact keep1 b o e
    · obtain ⟨rfl, hq⟩ := hf
      exact ⟨_, rfl, wpAny_pure ⟨_, rfl, hq⟩⟩
end
theorem call_sortD {X : Cx} (hu : X.A.units + 64 < cLine) : CallR X (.builtin "sorted") (rSortD X.K) := by
  intro pins s σ H vs us Q I r h
  obtain ⟨a, bs, rfl, hq, hb, hal, hk, q⟩ := h
  obtain ⟨u, rfl, rx⟩ := vals1 r
  cases rx
  have main : ∀ (T : String) (o : Obj) (its : List Value) (n : Nat), (T = "list" ∨ T = "tuple") → s.heap.get? a = some o → o.cls = .type T → o.data = .seq its.toArray n → Vals (bs.map (·.1)) its → (bs.map (·.1)).length ≤ sizeLine → wpAny (model X.prog X.w) X.A (call (.builtin "sorted") [.ref a]) (EP X pins σ Q) X.xe s := fun T o its n hT ho hc hd rv hz => by
    have e1 := vals_each rv
    have er : PySem.W.EachIs (fun v (b : PD) => ∃ as, Reads s.heap v (encP b) as) its bs := (PySem.W.each_mem e1).mono fun v b ⟨r, hm⟩ => by
      obtain ⟨h1, h2, _⟩ := hb b hm
      exact Dp.reads I _ _ _ (RD.dp _ _ h1 h2) r
    have hlen := rv.length
    refine sorted_seq (κ := PySem.W.dataKind s.heap (bs.map encP)) hT ho hc hd (by rw [List.size_toArray, ← hlen]; exact hz) (fun h' hk' => ?_) fun h1 h' hk1 hkeep hat => ?_
    · have er' : PySem.W.EachIs (fun v (b : PD) => ∃ as, Reads h' v (encP b) as) its bs := er.mono fun _ _ ⟨as, r⟩ => ⟨as, PyProof.Rows.Reads.keeps hk' r⟩
      have S := PySem.W.SortsAt.data (prog := X.prog) (w := X.w) (A := X.A.in1.in1) (s := { s with heap := h' }) (PySem.W.each_map (R := fun v d => ∃ as, Reads h' v d as) encP er') hal hk (PySem.W.bound_map fun b hbm => by
        have := (hb b hbm).2.2
        show X.A.units + 1 + 1 + (encP b).depth < cLine
        unfold encP
        omega)
      exact ⟨fun v hv => by
        obtain ⟨b, hbm, as, rr⟩ := er.left v hv
        exact ⟨_, PySem.W.dataKind_some hal (List.mem_map.mpr ⟨b, hbm, rfl⟩) rr⟩, by
        obtain ⟨kd, l1, l2⟩ := S.kind
        refine ⟨kd, fun E x y ka kb Q hx hy hq => ?_, l2⟩
        obtain ⟨d1, as1, m1, r1, k1⟩ := PySem.W.dataKind_inv hx
        obtain ⟨d2, as2, m2, r2, k2⟩ := PySem.W.dataKind_inv hy
        subst k1 k2
        exact l1 E x y _ _ (PySem.W.dataKind_some hal m1 (PyProof.Rows.Reads.keeps hk' r1)) (PySem.W.dataKind_some hal m2 (PyProof.Rows.Reads.keeps hk' r2)) hq⟩
    · obtain ⟨e, he⟩ := hat
      have eo := PySem.W.sortVals_data false e1 er hal
      rw [List.toList_toArray] at he
      have hv := each_vals eo
      have I1 : Inv X pins σ H { s with heap := h1 } := I.kept (t' := s.toks) hk1
      refine ⟨.ref h1.objs.size, _, I1.laid (t' := s.toks) hkeep (Nat.le_refl _) ?_, rfl, q _ (I1.hok.fresh (Nat.le_refl _))⟩
      refine ⟨?_, _, e, hv, he⟩
      rw [List.length_map, List.length_mergeSort]
      rw [List.length_map] at hz
      exact hz
  rcases hq with hq | hq
  · obtain ⟨its, rv, pl, hz⟩ := I.list hq
    obtain ⟨o, ho, hc, n, hd⟩ := pl.isList
    exact main "list" o its n (.inl rfl) ho hc hd rv hz
  · obtain ⟨its, rv, pl, hz⟩ := I.tuple hq
    obtain ⟨o, ho, hc, n, hd⟩ := pl
    exact main "tuple" o its n (.inr rfl) ho hc hd rv hz
/-- data that can be sorted -/
structure Sorts (l : List D) : Prop where
  each : ∀ x ∈ l, plain x = true ∧ (py x).depth ≤ 40
  alike : PySem.W.AllAlike (l.map py)
  kind : PySem.W.Sortable (l.map py)
def gSorted : DRC := fun ss d Ψ => ∃ s z l, ss = [s] ∧ look d s = some z ∧ seqD z = some l ∧ Sorts l ∧ Ψ (.own d.o.length) (d.new (l.mergeSort leD))
theorem RDs.zip {K : PySem.W.Frag} {H : Hp} : ∀ {l : List D} {us : List V}, RDs K H l us → ∃ bs : List PD, bs.map (·.1) = us ∧ bs.map (·.2) = l ∧ ∀ b ∈ bs, RD K H b.2 b.1
  | [], _, h => by cases (show _ = [] from h); exact ⟨[], rfl, rfl, fun b hb => by cases hb⟩
  | d :: l, _, ⟨v, r, h1, h2, h3⟩ => by
    subst h1
    obtain ⟨bs, e1, e2, e3⟩ := RDs.zip h3
    refine ⟨(v, d) :: bs, by rw [List.map_cons, e1], by rw [List.map_cons, e2], fun b hb => ?_⟩
    rcases List.mem_cons.mp hb with z | z
    · subst z; exact h2
    · exact e3 b z
theorem RDs.unzip {K : PySem.W.Frag} {B : Hp} : ∀ {bs : List PD}, (∀ b ∈ bs, RD K B b.2 b.1) → RDs K B (bs.map (·.2)) (bs.map (·.1))
  | [], _ => rfl
  | b :: bs, h => ⟨b.1, bs.map (·.1), rfl, h b List.mem_cons_self, RDs.unzip fun x hx => h x (List.mem_cons_of_mem _ hx)⟩
theorem snd_sorted {K : PySem.W.Frag} : SndC K (rSortD K) gSorted := fun c d TT T σ H Ψ Q F ⟨s, z, l, e, e1, e2, hs, q⟩ k => by
  obtain ⟨v, rfl⟩ := one_arg' e
  obtain ⟨B, A, C, sl, tm⟩ := F
  obtain ⟨a, us, g1, g2, g3⟩ := C.lookB (tm _ List.mem_cons_self) e1 e2
  subst g1
  obtain ⟨bs, e3, e4, e5⟩ := g2.zip
  subst e3 e4
  have em : (bs.map encP) = (bs.map (·.2)).map py := by rw [List.map_map]; rfl
  refine ⟨a, bs, rfl, lstT g3, fun b hb => ?_, by rw [em]; exact hs.alike, by rw [em]; exact hs.kind, fun p hp => ?_⟩
  · obtain ⟨p1, p2⟩ := hs.each b.2 (List.mem_map.mpr ⟨b, hb, rfl⟩)
    exact ⟨RD.mono C.bh _ _ (e5 b hb), p1, p2⟩
  · refine k _ _ _ _ (Fit.new ⟨B, A, C, sl, fun q hq => tm q (List.mem_cons_of_mem _ hq), ?_⟩ hp) q
    have e6 : (bs.mergeSort (PySem.W.dataLe false encP)).map (·.2) = (bs.map (·.2)).mergeSort leD := List.map_mergeSort fun x _ y _ => rfl
    rw [← e6]
    exact RDs.unzip fun b hb => e5 b ((List.mergeSort_perm _ _).mem_iff.mp hb)
theorem de_sorted {X : Cx} {e : Expr} {ws : DTA} {p pos : Pos} (hu : X.A.units + 64 < cLine) (hg : Gl X "sorted") (hm : X.mg "sorted" = none) (ha : DA X [e] ws) (he : starEach [e] X.env = (false, eval e X.env) :: starEach [] X.env := by rfl) (hpl : (backTo pos (starEach [] X.env)).any (·.1) = false := by rfl) : DE X (.Call (.Name "sorted" p) [e] [] pos) (dCB gSorted ws) :=
  de_callB (call_sortD hu) snd_sorted hg hm (by decide +kernel) ha (by decide) (by decide) he hpl

/-! ### a def of the module by its name -/
structure DefOk (P : Program) (w : World) (K : PySem.W.Frag) (mg : Str → Option Value) (base : Heap) (x : Str) (ps : List Str) (k : Nat) (hs : Bool) (ar : Nat) (m : FM) (f : Addr) (fd : FuncData) : Prop where
  gl : mg x = some (.ref f)
  kp : PySem.W.keepIn K (.ref f) = true
  bd : Binds K fd ps []
  ok : FnOk P w K mg base CX0 k f fd ps (spF K hs ar m)
theorem de_callD {X : Cx} {x : Str} {ps : List Str} {k : Nat} {hs : Bool} {ar : Nat} {m : FM} {f : Addr} {fd : FuncData} {p pos : Pos} {e : Expr} {es : List Expr} {wa : DTA} (D : DefOk X.prog X.w X.K X.mg X.base x ps k hs ar m f fd) (hr : Room k X.A) (hg : Gl X x) (ha : DA X (e :: es) wa)
    (hdb : (x == ("__debug__" : Str)) = false := by decide) (he : starEach (e :: es) X.env = (false, eval e X.env) :: starEach es X.env := by rfl) (hpl : (backTo pos (starEach es X.env)).any (·.1) = false := by rfl) : DE X (.Call (.Name x p) (e :: es) [] pos) (dCall hs ar m wa) :=
  de_call D.ok hr hg D.gl D.kp D.bd ha hdb he hpl
end RH

set_option Elab.async false
set_option linter.all false
set_option maxRecDepth 100000
set_option maxHeartbeats 2000000
/-! the data layer, part i: enumerate of a list or a tuple -/
namespace RH
open PySem PySem.Spec PyProof.Rows L2

section
set_option maxHeartbeats 2000000 in
theorem meets_enumB1 {v : Value} {o : Obj} {H : Heap → Prop} (B : Begins v o H) :
    Meets (Builtin.«enumerate.__new__» ⟨[.type "enumerate", v], []⟩) (fun _ R s => H s.heap ∧
      R (.ok (.ret (.ref (s.heap.push o).objs.size))) { s with heap := (s.heap.push o).push { cls := .type "enumerate", data := .fields #[.none, .bool false, .ref s.heap.objs.size, rawInt 0, .none, .none] } }) :=
  .of_wp fun prog w A R s h => by
    obtain ⟨hp, g, d, tk, os⟩ := s; obtain ⟨h1, h⟩ := h
    have hsub := sub_enumerate
    have q1 : ∀ {A' : Around} {E : Value → Shared → Prop} {Q : Value → Shared → Prop}, Q (.ref hp.objs.size) ⟨hp.push o, g, d, tk, os⟩ → wpAny (model prog w) A' (pyIter v) Q E ⟨hp, g, d, tk, os⟩ :=
      fun q => B.iter prog w _ _ ⟨hp, g, d, tk, os⟩ _ h1 q
    wp_walk using q1
    refine wpAny_stack_any fun st => wpAny_pure ?_
    split
    · rename_i c _ _ _ _ _
      cases (c == Value.type "enumerate")
      · wp_walk using q1
        exact ⟨_, rfl, h⟩
      · wp_walk using q1
        exact ⟨_, rfl, h⟩
    · wp_walk using q1
      exact ⟨_, rfl, h⟩
theorem call_enumB1 {prog : Program} {w : World} {A : Around} {E : Value → Shared → Prop} {s : Shared} {v : Value} {o : Obj} {H : Heap → Prop} {Q : Value → Shared → Prop} (B : Begins v o H) (h1 : H s.heap)
    (h : ∀ h', IsEnum h' (s.heap.objs.size + 1) s.heap.objs.size 0 .none → h'.get? s.heap.objs.size = some o → h'.objs.size = s.heap.objs.size + 2 →
      (∀ b o, s.heap.get? b = some o → h'.get? b = some o) → Q (.ref (s.heap.objs.size + 1)) { s with heap := h' }) :
    wpAny (model prog w) A (call (.type "enumerate") [v]) Q E s := by
  refine callType_new F.called_enumerate (by decide) (F.typeCall_enumerate_1 _) (F.newCall_enumerate_1 _) (fun obj => F.args_object_init_2 obj _) F.entry_enumerate_new
    (meets_enumB1 B) ⟨h1, ?_⟩
  have hz : (s.heap.push o).objs.size = s.heap.objs.size + 1 := Heap.size_push ..
  show _ ∧ _
  rw [hz]
  have he : IsEnum ((s.heap.push o).push { cls := .type "enumerate", data := .fields #[.none, .bool false, .ref s.heap.objs.size, rawInt 0, .none, .none] }) (s.heap.objs.size + 1) s.heap.objs.size 0 .none := by
    have := Heap.get?_push_size (s.heap.push o) (o := { cls := .type "enumerate", data := .fields #[.none, .bool false, .ref s.heap.objs.size, rawInt 0, .none, .none] }) rfl
    rw [hz] at this; exact this
  refine ⟨⟨_, he, rfl⟩, h _ he (Heap.get?_push_of_some _ (Heap.get?_push_size _ B.free)) (by rw [Heap.size_push, hz]) fun b o x => Heap.get?_push_of_some _ (Heap.get?_push_of_some _ x)⟩
end

/-- the tuple at a, each item in a new pair with its place -/
def IteT (K : PySem.W.Frag) (a : Addr) : It :=
  ⟨fun i H => ∃ (xs : List V) (x : V), SqT K H a xs ∧ xs[i]? = some x, fun i H v H' => ∃ T x, v = .ref T ∧ H T = none ∧ H' = upd H T (.tup [.int (i : Nat), x]) ∧ ∀ xs, SqT K H a xs → xs[i]? = some x, fun i H => ∃ xs : List V, SqT K H a xs ∧ xs.length ≤ i⟩
theorem turn_enumT {P : Program} {w : World} {K : PySem.W.Frag} {elts : List Expr} {kk : Nat} {tpos : Pos} (a e it : Addr) :
    Turn P w K (.Tuple elts kk tpos) (IteT K a) [e, it] e (fun i h => (∃ old, IsEnum h e it ((i : Nat) : Int) old) ∧ h.IsTupleIter it a i ∧ e ≠ it) where
  mem := by simp
  obj := fun i h st b hb => by
    obtain ⟨⟨old, he⟩, ⟨o, ho, hc, hd⟩, _⟩ := st
    have e' : b = e ∨ b = it := by simpa using hb
    rcases e' with z | z
    · rw [z]; exact ⟨_, he, fun v q => nomatch q⟩
    · rw [z]; exact ⟨o, ho, fun v q => by rw [hd] at q; cases q⟩
  keep := fun i h h' st k => let ⟨⟨old, he⟩, hi, hne⟩ := st; ⟨⟨old, k e (by simp) _ he⟩, hi.at fun o q => k it (by simp) o q, hne⟩
  item := by
    intro X hP hw hK hc i pins s σ H E I hf st hg
    subst hP hw hK
    obtain ⟨⟨old, he⟩, hit, hne⟩ := st
    obtain ⟨xs, x, hq, hx⟩ := hg
    obtain ⟨its, rv, p, hz⟩ := I.tuple hq
    obtain ⟨u, hu, ru⟩ := rv.get hx
    have hel : e < s.heap.objs.size := Heap.lt_size he
    have hil : it < s.heap.objs.size := by obtain ⟨_, q, _⟩ := hit; exact Heap.lt_size q
    have hia : a ≠ it := fun z => by
      obtain ⟨o1, q1, c1, _⟩ := hit
      obtain ⟨o2, q2, c2, _⟩ := p
      rw [z, q1] at q2
      cases q2
      rw [c1] at c2
      exact absurd c2 (by decide +kernel)
    have hea : e ≠ a := fun z => by
      obtain ⟨o2, q2, c2, _⟩ := p
      have he' : s.heap.get? e = some _ := he
      rw [z, q2] at he'
      cases he'
      exact absurd (show Value.type "enumerate" = Value.type "tuple" from c2) (by decide +kernel)
    have Dr := Draws.tuple (prog := X.prog) (w := X.w) (A := X.A.in1) (show X.A.in1.handled = none from I.ok.hd hc) it a hia its.toArray
    have hlt : i < its.toArray.size := by
      rw [List.size_toArray]
      exact (List.getElem?_eq_some_iff.mp hu).1
    refine wpAny_pyNext_enum_itemD Dr he ⟨hit, p⟩ hlt hne (by simp; exact ⟨hne, hea⟩) fun x' h' tk hP' ho st' hT hsz hk => ?_
    have hx' : its.toArray[i]? = some x' := hP'
    have : x' = u := by
      have : its[i]? = some x' := by simpa using hx'
      rw [hu] at this
      exact (Option.some.inj this).symm
    subst this
    obtain ⟨hit', _⟩ := st'
    refine ⟨_, rfl, wpAny_letOwnedTupleGo_enum (s := { s with heap := h', toks := tk + 1 }) ho fun h'' he' sb => ?_⟩
    have hT2 : h''.get? s.heap.objs.size = some { cls := .type "tuple", data := .seq #[.int i tk, x'] } := (sb.2 _ (Nat.ne_of_gt hel)).trans hT
    have new : ObjOk X.prog X.w (upd H s.heap.objs.size (.tup [.int (i : Nat), x])) h'' s.heap.objs.size (.tup [.int (i : Nat), x]) :=
      ⟨by show 2 ≤ sizeLine; decide, [.int i tk, x'], .cons ⟨_, rfl⟩ (.cons ru .nil), ⟨_, hT2, rfl, _, rfl⟩⟩
    have I1 : Inv X pins σ (upd H s.heap.objs.size (.tup [.int (i : Nat), x])) { s with heap := h'', toks := tk + 1 } :=
      I.turnedNew (ch := [e, it]) (fun b ob hb q => (sb.2 b (fun z => hb (by simp [z]))).trans (hk b ob (fun z => hb (by simp [z])) (fun z => hb (by simp [z])) q)) hf (Nat.le_refl _) new
    refine ⟨.ref s.heap.objs.size, _, I1, rfl, ⟨_, x, rfl, I.hok.fresh (Nat.le_refl _), rfl, fun ys hy => by rw [I.tuple_inj hy hq]; exact hx⟩, ⟨⟨x', ?_⟩, hit'.at fun o q => (sb.2 it (Ne.symm hne)).trans q, hne⟩, fun b hb => ?_⟩
    · have e1 : ((i + 1 : Nat) : Int) = (i : Int) + 1 := by omega
      rw [e1]; exact he'
    · have hb' : b < s.heap.objs.size := by
        have e' : b = e ∨ b = it := by simpa using hb
        rcases e' with z | z
        · rw [z]; exact hel
        · rw [z]; exact hil
      rw [upd_ne (Nat.ne_of_lt hb')]
      exact (hf b hb).1
  done := by
    intro X hP hw hK hc i pins s σ H E I hf st hg
    subst hP hw hK
    obtain ⟨⟨old, he⟩, hit, hne⟩ := st
    obtain ⟨xs, hq, hx⟩ := hg
    obtain ⟨its, rv, p, hz⟩ := I.tuple hq
    obtain ⟨f0, f1, f2, f3, f4, f5⟩ := hf it (by simp)
    have hl := rv.length
    have hT : s.TypeIs (.ref e) "enumerate" := ⟨_, he, rfl⟩
    unfold pyNext
    refine wpAny_bind (wpAny_attempt (wpAny_callSpecial?_slot (name := Str.ofString "__next__") hT F.slot_enumerate_next
      (wpAny_call_entry F.slot_enumerate_next hT F.entry_enumerate_next ?_ (F.args_enumerate_next_1 _))))
    show wpAny _ _ (field (.ref e) 2 >>= _) _ _ _
    refine wpAny_bind (wpAny_field he rfl (x := .ref it) rfl ?_)
    refine wpAny_bind (wpAny_nextOf_tuple_end (show X.A.in1.handled = none from I.ok.hd hc) hit p (by simp; omega) fun h' x he' hx' => ?_)
    obtain ⟨o, ho, hcx⟩ := hx'
    refine wpAny_bind (wpAny_isInstance (T := "StopIteration") (b := true) ⟨o, ho, hcx⟩ isSubtype_stop ?_)
    exact wpAny_pure ⟨rfl, I.turned (t' := s.toks) (fun b o hb q => he' b o hb q) f0 f1 f3 f4 f5⟩
  self := fun A i s Q E st h => let ⟨⟨_, he⟩, _⟩ := st; wpAny_pyIter_enum he h
def iEnumA (K : PySem.W.Frag) (ta : TA) : TI := fun σ H R => ta σ H fun vs H1 => ∃ a, vs = [.ref a] ∧ (((∃ xs, SqL K H1 a xs) ∧ R (Ite K a) H1) ∨ ((∃ xs, SqT K H1 a xs) ∧ R (IteT K a) H1))
theorem pi_enumA {X : Cx} {e : Expr} {ta : TA} {p pos tpos : Pos} {elts : List Expr} {kk : Nat} (hg : Gl X "enumerate") (hm : X.mg "enumerate" = none) (ha : PA X [e] ta) (hs : starEach [e] X.env = [(false, eval e X.env)] := by rfl) :
    PI X (.Tuple elts kk tpos) (.Call (.Name "enumerate" p) [e] [] pos) (iEnumA X.K ta) := by
  refine ⟨fun pins s σ H R I h => ?_⟩
  refine Call_ (ld_blt I hg hm boot_enumerate (PyProof.Rows.callWith_type1 (thn (ha.run pos pins s σ H _ I h) fun us s1 ⟨vs, H1, I1, r1, q1⟩ => ?_) hs rfl))
  obtain ⟨a, ex, q⟩ := q1
  subst ex
  cases r1 with
  | cons r rr =>
    cases rr
    cases r
    have fp : ∀ b ∈ [s1.heap.objs.size + 1, s1.heap.objs.size], FpOk X pins H1 b := fun b hb => by
      have e' : b = s1.heap.objs.size + 1 ∨ b = s1.heap.objs.size := by simpa using hb
      have hle : s1.heap.objs.size ≤ b := by
        rcases e' with z | z
        · rw [z]; exact Nat.le_add_right _ _
        · rw [z]; exact Nat.le_refl _
      exact I1.fpOk hle (I1.hok.fresh hle)
    rcases q with ⟨⟨xs, hq⟩, q⟩ | ⟨⟨xs, hq⟩, q⟩
    · obtain ⟨its, rv, p', hz⟩ := I1.list hq
      refine call_enumB1 (begins_list a its.toArray) p'.isList fun h' he hit hsz hk => wpAny_pyIter_enum he ?_
      have I2 : Inv X pins σ H1 { s1 with heap := h' } := I1.kept (t' := s1.toks) hk
      exact ⟨s1.heap.objs.size + 1, [s1.heap.objs.size + 1, s1.heap.objs.size], _, _, H1, rfl, I2, turn_enum a (s1.heap.objs.size + 1) s1.heap.objs.size, ⟨⟨.none, he⟩, ⟨_, hit, rfl, rfl⟩, Nat.succ_ne_self _⟩, fp, q⟩
    · obtain ⟨its, rv, p', hz⟩ := I1.tuple hq
      refine call_enumB1 (begins_tuple a its.toArray) p' fun h' he hit hsz hk => wpAny_pyIter_enum he ?_
      have I2 : Inv X pins σ H1 { s1 with heap := h' } := I1.kept (t' := s1.toks) hk
      exact ⟨s1.heap.objs.size + 1, [s1.heap.objs.size + 1, s1.heap.objs.size], _, _, H1, rfl, I2, turn_enumT a (s1.heap.objs.size + 1) s1.heap.objs.size, ⟨⟨.none, he⟩, ⟨_, hit, rfl, rfl⟩, Nat.succ_ne_self _⟩, fp, q⟩

/-! ### over data -/
def enumD (l : List D) : List D := (l.zipIdx).map fun p => .tup [.int (p.2 : Nat), p.1]
theorem enumD_get {l : List D} {i : Nat} {x : D} (h : (enumD l)[i]? = some x) : ∃ d, l[i]? = some d ∧ x = .tup [.int (i : Nat), d] := by
  unfold enumD at h
  rw [List.getElem?_map, List.getElem?_zipIdx] at h
  cases e : l[i]? with
  | none => rw [e] at h; cases h
  | some d => rw [e] at h; cases h; exact ⟨d, rfl, by simp⟩
theorem enumD_len {l : List D} : (enumD l).length = l.length := by simp [enumD]
theorem ite_ok {K : PySem.W.Frag} {c : Ctx} {q : Addr} {l : List D} : ItOk K c (Ite K q) [(.ref q, .val (.lst l))] (enumD l) := by
  refine ⟨fun d T σ H i x F hp hx => ?_, fun d T σ H i F hp hi => ?_⟩
  · obtain ⟨B, A, C, sl, tm⟩ := F
    obtain ⟨a, us, r1, r2, r3⟩ : RD K B (.lst l) (.ref q) := tm _ (hp _ List.mem_cons_self)
    cases r1
    obtain ⟨y, hy, ex⟩ := enumD_get hx
    subst ex
    obtain ⟨u, hu, ru⟩ := RDs.get r3 hy
    refine ⟨⟨us, u, .inl (.inl (C.bh _ _ r2)), hu⟩, fun v H' z => ?_⟩
    obtain ⟨t, u', e1, e2, e3, e4⟩ := z
    subst e1 e3
    have := e4 us (.inl (.inl (C.bh _ _ r2)))
    rw [hu] at this; cases this
    obtain ⟨C2, s1⟩ := C.laid (u := .tup [.int (i : Nat), u]) e2
    exact ⟨_, A, C2, sl.mono s1 fun _ _ e => e, Tm.cons (s := .val (.tup [.int (i : Nat), y])) ⟨t, _, rfl, .inl (.inl upd_same), ⟨_, _, rfl, rfl, u, [], rfl, RD.mono s1 _ _ ru, rfl⟩⟩ (tm.mono s1 fun _ _ e => e)⟩
  · obtain ⟨B, A, C, sl, tm⟩ := F
    obtain ⟨a, us, r1, r2, r3⟩ : RD K B (.lst l) (.ref q) := tm _ (hp _ List.mem_cons_self)
    cases r1
    rw [enumD_len] at hi
    exact ⟨us, .inl (.inl (C.bh _ _ r2)), by rw [r3.len]; exact hi⟩
theorem iteT_ok {K : PySem.W.Frag} {c : Ctx} {q : Addr} {l : List D} : ItOk K c (IteT K q) [(.ref q, .val (.tup l))] (enumD l) := by
  refine ⟨fun d T σ H i x F hp hx => ?_, fun d T σ H i F hp hi => ?_⟩
  · obtain ⟨B, A, C, sl, tm⟩ := F
    obtain ⟨a, us, r1, r2, r3⟩ : RD K B (.tup l) (.ref q) := tm _ (hp _ List.mem_cons_self)
    cases r1
    obtain ⟨y, hy, ex⟩ := enumD_get hx
    subst ex
    obtain ⟨u, hu, ru⟩ := RDs.get r3 hy
    refine ⟨⟨us, u, sameT C.bh r2, hu⟩, fun v H' z => ?_⟩
    obtain ⟨t, u', e1, e2, e3, e4⟩ := z
    subst e1 e3
    have := e4 us (sameT C.bh r2)
    rw [hu] at this; cases this
    obtain ⟨C2, s1⟩ := C.laid (u := .tup [.int (i : Nat), u]) e2
    exact ⟨_, A, C2, sl.mono s1 fun _ _ e => e, Tm.cons (s := .val (.tup [.int (i : Nat), y])) ⟨t, _, rfl, .inl (.inl upd_same), ⟨_, _, rfl, rfl, u, [], rfl, RD.mono s1 _ _ ru, rfl⟩⟩ (tm.mono s1 fun _ _ e => e)⟩
  · obtain ⟨B, A, C, sl, tm⟩ := F
    obtain ⟨a, us, r1, r2, r3⟩ : RD K B (.tup l) (.ref q) := tm _ (hp _ List.mem_cons_self)
    cases r1
    rw [enumD_len] at hi
    exact ⟨us, sameT C.bh r2, by rw [r3.len]; exact hi⟩
def diEnum (w : DTA) : DTI := fun d Ψ => w d fun ss d1 => ∃ s x d2 l, ss = [s] ∧ fz d1 s = some (x, d2) ∧ seqD x = some l ∧ Ψ (enumD l) d2
theorem di_enum {X : Cx} {e : Expr} {ws : DTA} {p pos tpos : Pos} {elts : List Expr} {kk : Nat} (hg : Gl X "enumerate") (hm : X.mg "enumerate" = none) (ha : DA X [e] ws) (hs : starEach [e] X.env = [(false, eval e X.env)] := by rfl) :
    DI X (.Tuple elts kk tpos) (.Call (.Name "enumerate" p) [e] [] pos) (diEnum ws) := by
  obtain ⟨t, h1, h2⟩ := ha
  refine ⟨_, pi_enumA hg hm h1 hs, fun c d T σ H Ψ R F hw k => h2 c d T σ H _ _ F hw fun TT d1 H1 F1 ⟨s, x, d2, l, e, e1, e2, w1⟩ => ?_⟩
  obtain ⟨v, rfl⟩ := one_arg' e
  have F2 := F1.fz e1
  cases x with
  | lst l' =>
    cases e2
    obtain ⟨a, us, r1, r2, r3⟩ := F2.look (x := .lst l) List.mem_cons_self rfl
    subst r1
    exact ⟨a, rfl, .inl ⟨⟨us, .inl (.inl r2)⟩, k _ d2 _ [(.ref a, .val (.lst l))] H1 F2 ite_ok w1⟩⟩
  | tup l' =>
    cases e2
    obtain ⟨a, us, r1, r2, r3⟩ := F2.look (x := .tup l) List.mem_cons_self rfl
    subst r1
    exact ⟨a, rfl, .inr ⟨⟨us, r2⟩, k _ d2 _ [(.ref a, .val (.tup l))] H1 F2 iteT_ok w1⟩⟩
  | _ => cases e2
end RH

set_option Elab.async false
set_option linter.all false
set_option maxRecDepth 100000
set_option maxHeartbeats 1000000
/-! the data layer, part j: borrowing, lists as targets, defs that change a list they get, clear, keywords -/
namespace RH
open PySem PySem.Spec PyProof.Rows L2

/-! ### small things -/
theorem hu64 {k : Nat} {A : Around} (r : Room k A) : A.units + 64 < cLine := r.units
theorem hu65 {k : Nat} {A : Around} (r : Room k A) : A.units + 65 < cLine := by have := r.un; omega
section
variable {X : Cx} {e a : Expr} {es : List Expr} {ts : List Stmt} {we wa : DTE} {ws : DTA} {w : DTT} {p pos : Pos} {x : Str}
/-- statements that are never come to -/
theorem dss_never : DSs X ts (fun _ _ => False) := ⟨fun _ _ _ => False, ⟨fun _ _ _ _ _ _ h => h.elim⟩, fun _ _ _ _ _ _ _ _ h _ => h.elim⟩
theorem dts_one (h : DT X e w) : DTs X [e] w := by
  obtain ⟨t, h1, h2⟩ := h
  exact ⟨_, pts_one h1, h2⟩

/-! ### a list or a tuple as a target -/
theorem PG.or {tg : Expr} {t u : TG} (h : PG X tg t) (h' : PG X tg u) : PG X tg (fun v σ H Q => t v σ H Q ∨ u v σ H Q) := ⟨fun pins s σ H v w Q I r q => q.elim (h.run pins s σ H v w Q I r) (h'.run pins s σ H v w Q I r)⟩
def dgSeq (n : Nat) (g : DTGs) : DTG := fun s d Ψ => ∃ z l, s = .val z ∧ seqD z = some l ∧ l.length = n ∧ g l d Ψ
theorem dg_seq {k : Nat} {g : DTGs} {n : Nat} {vs : List Nat} (hc : X.calm = true) (h : DGs X es vs g) (hn : (assignEach es X.env).length = n := by rfl) (hst : (assignEach es X.env).findIdx? (·.1) = none := by rfl) : DG X (.Tuple es k pos) vs (dgSeq n g) := by
  obtain ⟨t, h1, h2⟩ := h
  refine ⟨_, PG.or (pg_tup hc h1 hn hst) (pg_unl hc h1 hn hst), fun c d T σ H v s Ψ Q F ⟨z, l, e, e2, hl, hw⟩ k => ?_⟩
  subst e
  obtain ⟨B, A, C, sl, tm⟩ := F
  have tmT : Tm X.K c B A T := fun p hp => tm p (List.mem_cons_of_mem _ hp)
  cases z with
  | tup l' =>
    cases e2
    obtain ⟨a, us, e1, q, r⟩ : ∃ a us, v = .ref a ∧ SqT X.K B a us ∧ RDs X.K B l us := tm _ List.mem_cons_self
    subst e1
    exact .inl ⟨a, us, rfl, sameT C.bh q, by rw [r.len, hl], h2 c d T σ H us l Ψ Q B A C sl tmT r hw k⟩
  | lst l' =>
    cases e2
    obtain ⟨a, us, e1, q, r⟩ : ∃ a us, v = .ref a ∧ B a = some (.lst us) ∧ RDs X.K B l us := tm _ List.mem_cons_self
    subst e1
    exact .inr ⟨a, us, rfl, .inl (.inl (C.bh _ _ q)), by rw [r.len, hl], h2 c d T σ H us l Ψ Q B A C sl tmT r hw k⟩
  | _ => cases e2
end

/-! ### borrowing: what is owned is handed on as data, and is owned again behind, when the answer holds no address -/
theorem StrmOk.live {z : Option (Addr × Addr)} {B H : Hp} {n : Nat} (h : StrmOk z B H n) {a : Addr} (m : mutA z a) : H a ≠ none ∧ B a = none := by
  unfold StrmOk at h
  unfold mutA at m
  cases z with
  | none => exact m.elim
  | some qq =>
    obtain ⟨q, q'⟩ := qq
    obtain ⟨_, h1, h2, _, _, _, _, e1, e2, _⟩ := h
    rcases m with z | z
    · rw [z]; exact ⟨by rw [e1]; exact fun h => (by cases h), h1⟩
    · rw [z]; exact ⟨by rw [e2]; exact fun h => (by cases h), h2⟩
def iceS (o : List (Bool × List D)) : S → S
  | .own k => match o[k]? with
    | some e => .val (.lst e.2)
    | none => .un
  | s => s
def DS.ice (d : DS) : DS := ⟨d.r.map (iceS d.o), [], d.n⟩
mutual
/-- no list, dict, object within: nothing that can be changed -/
def hard : D → Bool
  | .non => true
  | .bl _ => true
  | .int _ => true
  | .str _ => true
  | .tup l => hards l
  | .lst _ => false
  | .dic _ => false
  | .obj _ _ => false
def hards : List D → Bool
  | [] => true
  | x :: l => hard x && hards l
end
theorem hards_iff : ∀ {l : List D}, hards l = true ↔ ∀ x ∈ l, hard x = true
  | [] => by simp [hards]
  | x :: l => by simp [hards, hards_iff (l := l)]
mutual
theorem RD.hardB {K : PySem.W.Frag} {B B' : Hp} (e : ∀ a xs, SqT K B a xs → SqT K B' a xs) : ∀ (x : D) (v : V), RD K B x v → hard x = true → RD K B' x v
  | .non, _, h, _ => h
  | .bl _, _, h, _ => h
  | .int _, _, h, _ => h
  | .str _, _, h, _ => h
  | .tup l, _, ⟨a, vs, h1, h2, h3⟩, p => ⟨a, vs, h1, e _ _ h2, RDs.hardB e l vs h3 p⟩
  | .lst _, _, _, p => by cases p
  | .dic _, _, _, p => by cases p
  | .obj _ _, _, _, p => by cases p
theorem RDs.hardB {K : PySem.W.Frag} {B B' : Hp} (e : ∀ a xs, SqT K B a xs → SqT K B' a xs) : ∀ (l : List D) (vs : List V), RDs K B l vs → hards l = true → RDs K B' l vs
  | [], _, h, _ => h
  | x :: l, _, ⟨v, r, h1, h2, h3⟩, p => by
    have p' : (hard x && hards l) = true := p
    rw [Bool.and_eq_true] at p'
    exact ⟨v, r, h1, RD.hardB e x v h2 p'.1, RDs.hardB e l r h3 p'.2⟩
end
def dBorrow (w : DTE) : DTE := fun d Ψ => w d.ice fun s d1 => (∃ x, s = .val x ∧ hard x = true ∧ Ψ (.val x) { d with n := d1.n }) ∨ ∃ j l, s = .own j ∧ d1.o[j]? = some (true, l) ∧ hards l = true ∧ Ψ (.own d.o.length) (({ d with n := d1.n } : DS).new l)
theorem snd_borrow {K : PySem.W.Frag} {t : TE} {w : DTE} (h : SndE K t w) : SndE K t (dBorrow w) := by
  intro c d T σ H Ψ Q F hw k
  obtain ⟨B, A, C, sl, tm⟩ := F
  have live : ∀ a, mutA c.z a → H a ≠ none ∧ B a = none := fun a m => C.sm.live m
  have ownd : ∀ (i : Nat) (p : Addr), A[i]? = some p → ∃ e vs, d.o[i]? = some e ∧ c.H0 p = none ∧ H p = some (.lst vs) ∧ RDs K B e.2 vs := fun i p hp => by
    have hlt : i < d.o.length := by rw [← C.al]; exact (List.getElem?_eq_some_iff.mp hp).1
    obtain ⟨a1, _, vs, a3, a4, _⟩ := C.ow i p _ hp (List.getElem?_eq_getElem hlt)
    exact ⟨_, vs, List.getElem?_eq_getElem hlt, a1, a3, a4⟩
  let B1 : Hp := fun a => match B a with
    | some u => some u
    | none => if a ∈ A then H a else none
  have s01 : Same B B1 := fun a u e => by show (match B a with | some u => some u | none => if a ∈ A then H a else none) = some u; rw [e]
  have s1H : Same B1 H := fun a u e => by
    have e : (match B a with | some u => some u | none => if a ∈ A then H a else none) = some u := e
    cases q : B a with
    | some w => rw [q] at e; rw [← e]; exact C.bh _ _ q
    | none =>
      rw [q] at e
      by_cases ha : a ∈ A
      · simpa [ha] using e
      · simp [ha] at e
  have own1 : ∀ p ∈ A, B1 p = H p := fun p hp => by
    show (match B p with | some u => some u | none => if p ∈ A then H p else none) = H p
    cases q : B p with
    | some w => exact (C.bh _ _ q).symm
    | none => simp [hp]
  have m1 : ∀ a, mutA c.z a → B1 a = none := fun a m => by
    obtain ⟨_, q⟩ := live a m
    have ha : a ∉ A := fun ha => by
      obtain ⟨i, hi⟩ := List.getElem?_of_mem ha
      obtain ⟨_, _, _, z, _⟩ := ownd i a hi
      exact c.out a m z
    show (match B a with | some u => some u | none => if a ∈ A then H a else none) = none
    rw [q]
    simp [ha]
  let c' : Ctx := ⟨c.z, H, B1, fun a m => (live a m).1⟩
  have C' : Core K c' [] d.n B1 [] H := ⟨fun _ _ e => e, s1H, fun a _ h => h, fun a u e _ => e, rfl, fun i j p h => by simp at h, fun i p e h => by simp at h, C.sm.keep (fun a m _ => m1 a m) fun _ _ _ e => e⟩
  have sl' : Sl K c' B1 [] d.ice.r σ := by
    refine ⟨by simp [DS.ice, sl.1], fun i s v h1 h2 => ?_⟩
    have h1 : (d.r.map (iceS d.o))[i]? = some s := h1
    rw [List.getElem?_map] at h1
    cases q : d.r[i]? with
    | none => rw [q] at h1; cases h1
    | some s0 =>
      rw [q] at h1
      have h1 : iceS d.o s0 = s := Option.some.inj h1
      have h0 := sl.2 i s0 v q h2
      cases s0 with
      | un => subst h1; trivial
      | val x =>
        subst h1
        cases v with
        | none => exact h0
        | some v => exact RD.mono s01 _ _ h0
      | strm =>
        subst h1
        cases v with
        | none => exact h0
        | some v => exact h0
      | own j =>
        cases v with
        | none => exact h0.elim
        | some v =>
          obtain ⟨p, hp, ev⟩ : ∃ p, A[j]? = some p ∧ v = .ref p := h0
          obtain ⟨e, vs, he, _, hv, hr⟩ := ownd j p hp
          have : iceS d.o (.own j) = .val (.lst e.2) := by simp [iceS, he]
          rw [this] at h1
          subst h1
          exact ⟨p, vs, ev, by rw [own1 p (List.mem_of_getElem? hp)]; exact hv, RDs.mono s01 _ _ hr⟩
  refine h c' d.ice [] σ H _ _ ⟨B1, [], C', sl', Tm.nil⟩ hw fun s d1 v H1 F1 q => ?_
  obtain ⟨B2, A2, C2, _, tm2⟩ := F1
  have r2 : SR K c' B2 A2 s v := tm2 _ List.mem_cons_self
  have sH : ∀ a u, H a = some u → ¬ mutA c.z a → H1 a = some u := fun a u e m => C2.fr a u e m
  let B3 : Hp := fun a => if a ∈ A then B a else B2 a
  have in3 : ∀ a, a ∈ A → B3 a = B a := fun a h => if_pos h
  have out3 : ∀ a, a ∉ A → B3 a = B2 a := fun a h => if_neg h
  have s02 : Same B B2 := fun a u e => C2.b0 _ _ (s01 _ _ e)
  have s03 : Same B B3 := fun a u e => by
    by_cases ha : a ∈ A
    · rw [in3 a ha]; exact e
    · rw [out3 a ha]; exact s02 _ _ e
  have s31 : Same B3 H1 := fun a u e => by
    by_cases ha : a ∈ A
    · rw [in3 a ha] at e; exact C2.bh _ _ (s02 _ _ e)
    · rw [out3 a ha] at e; exact C2.bh _ _ e
  have m3 : ∀ a, mutA c.z a → B3 a = none := fun a m => by
    by_cases ha : a ∈ A
    · rw [in3 a ha]; exact (live a m).2
    · rw [out3 a ha]
      exact (C2.sm.live m).2
  have tup3 : ∀ a xs, SqT K B2 a xs → SqT K B3 a xs := fun a xs h => by
    by_cases ha : a ∈ A
    · obtain ⟨i, hi⟩ := List.getElem?_of_mem ha
      obtain ⟨_, vs, _, _, hv, _⟩ := ownd i a hi
      have : B2 a = some (.lst vs) := C2.b0 _ _ (by show B1 a = _; rw [own1 a ha]; exact hv)
      rcases h with (h | ⟨o, h⟩) | h
      · rw [this] at h; cases h
      · rw [this] at h; cases h
      · exact .inr h
    · rcases h with (h | ⟨o, h⟩) | h
      · exact .inl (.inl (by rw [out3 a ha]; exact h))
      · exact .inl (.inr ⟨o, by rw [out3 a ha]; exact h⟩)
      · exact .inr h
  have C3 : Core K c d.o d1.n B3 A H1 := ⟨C.b0.trans s03, s31, fun a h1 h2 => by
      have ha : a ∉ A := fun ha => by
        obtain ⟨i, hi⟩ := List.getElem?_of_mem ha
        obtain ⟨_, _, _, z, _⟩ := ownd i a hi
        exact h1 z
      rw [out3 a ha]
      have hB : B a = none := C.bf a h1 h2
      refine C2.bf a ?_ ?_
      · show H a ≠ none
        by_cases hm : mutA c.z a
        · exact (live a hm).1
        · cases e : c.H0 a with
          | none => exact absurd e h1
          | some u => rw [C.fr a u e hm]; exact fun h => by cases h
      · show (match B a with | some u => some u | none => if a ∈ A then H a else none) = none
        rw [hB]
        simp [ha], fun a u e m => sH a u (C.fr a u e m) m, C.al, C.nd, fun i p e h1 h2 => by
      obtain ⟨a1, a2, vs, a3, a4, a5⟩ := C.ow i p e h1 h2
      have hp := List.mem_of_getElem? h1
      exact ⟨a1, fun z => by rw [in3 p hp]; exact a2 z, vs, sH p _ a3 fun m => c.out p m a1, RDs.mono s03 _ _ a4, fun z => by rw [in3 p hp]; exact a5 z⟩, C2.sm.keep (fun a m _ => m3 a m) fun _ _ _ e => e⟩
  have sl3 : Sl K c B3 A d.r σ := sl.mono s03 fun _ _ e => e
  have tm3 : Tm K c B3 A T := tm.mono s03 fun _ _ e => e
  rcases q with ⟨x, e, hx, q⟩ | ⟨j, l, e, hj, hl, q⟩
  · subst e
    exact k _ { d with n := d1.n } v H1 ⟨B3, A, C3, sl3, Tm.cons (s := .val x) (RD.hardB tup3 x v r2 hx) tm3⟩ q
  · subst e
    obtain ⟨p, hp, ev⟩ : ∃ p, A2[j]? = some p ∧ v = .ref p := r2
    subst ev
    obtain ⟨f1, f2, us, f3, f4, _⟩ := C2.ow j p _ hp hj
    have f1 : H p = none := f1
    have f2 : B2 p = none := f2 rfl
    have hpA : p ∉ A := fun ha => by
      obtain ⟨i, hi⟩ := List.getElem?_of_mem ha
      obtain ⟨_, vs, _, _, hv, _⟩ := ownd i p hi
      rw [f1] at hv; cases hv
    obtain ⟨g1, g2, g3, g4⟩ := C.free f1
    have last : (A ++ [p])[d.o.length]? = some p := by rw [← C.al]; simp
    have old : ∀ (k : Nat) (q : Addr), A[k]? = some q → (A ++ [p])[k]? = some q := fun k q e => by
      rw [List.getElem?_append_left (List.getElem?_eq_some_iff.mp e).1]; exact e
    have spl : ∀ (k : Nat) (q : Addr), (A ++ [p])[k]? = some q → A[k]? = some q ∨ (k = d.o.length ∧ q = p) := fun k q e => by
      by_cases h : k < A.length
      · rw [List.getElem?_append_left h] at e; exact .inl e
      · have h2 : k < (A ++ [p]).length := (List.getElem?_eq_some_iff.mp e).1
        have h3 : k = d.o.length := by rw [List.length_append, List.length_singleton] at h2; rw [← C.al]; omega
        refine .inr ⟨h3, ?_⟩
        rw [h3, last] at e; exact (Option.some.inj e).symm
    refine k (.own d.o.length) (({ d with n := d1.n } : DS).new l) _ H1 ⟨B3, A ++ [p], ⟨C3.b0, C3.bh, C3.bf, C3.fr, by simp [DS.new, C.al], fun i j' q h1 h2 => ?_, fun i q e h1 h2 => ?_, C3.sm⟩, sl3.mono (fun _ _ e => e) old, Tm.cons (s := .own d.o.length) ⟨p, last, rfl⟩ (tm3.mono (fun _ _ e => e) old)⟩ q
    · rcases spl i q h1 with a1 | ⟨a1, a2⟩
      · rcases spl j' q h2 with b1 | ⟨b1, b2⟩
        · exact C.nd i j' q a1 b1
        · subst b2; exact absurd a1 (g3 i)
      · rcases spl j' q h2 with b1 | ⟨b1, b2⟩
        · subst a2; exact absurd b1 (g3 j')
        · rw [a1, b1]
    · rcases spl i q h1 with a1 | ⟨a1, a2⟩
      · have hk : i < d.o.length := by rw [← C.al]; exact (List.getElem?_eq_some_iff.mp a1).1
        have h2' : (d.o ++ [(true, l)])[i]? = some e := h2
        rw [List.getElem?_append_left hk] at h2'
        exact C3.ow i q e a1 h2'
      · subst a1; subst a2
        have h2' : (d.o ++ [(true, l)])[d.o.length]? = some e := h2
        rw [List.getElem?_append_right (Nat.le_refl _)] at h2'
        simp at h2'; subst h2'
        exact ⟨g2, fun _ => by rw [out3 q hpA]; exact f2, us, f3, RDs.hardB tup3 l us f4 hl, fun z => by cases z⟩
theorem de_borrow {X : Cx} {e : Expr} {w : DTE} (h : DE X e w) : DE X e (dBorrow w) := by
  obtain ⟨t, h1, h2⟩ := h
  exact ⟨t, h1, snd_borrow h2⟩

/-! ### a def that changes the list it gets last -/
abbrev OM := List D → List D → Nat → (D → List D → Nat → Prop) → Prop
def spO (K : PySem.W.Frag) (hs : Bool) (ar : Nat) (m : OM) : Sp := fun vs H Q _ => ∃ (z : Option (Addr × Addr)) (B : Hp) (ds : List D) (ws : List V) (n : Nat) (Ψ : D → List D → Nat → Prop) (p : Addr) (l : List D) (us : List V),
  z.isSome = hs ∧ vs = zv z ++ ws ++ [.ref p] ∧ RDs K B ds ws ∧ ds.length = ar ∧ Same B H ∧ StrmOk z B H n ∧ B p = none ∧ ¬ mutA z p ∧ H p = some (.lst us) ∧ RDs K B l us ∧ m ds l n Ψ ∧
  ∀ (x : D) (l' : List D) (n' : Nat) (v : V) (H' B' : Hp) (us' : List V), Ψ x l' n' → Same B B' → Same B' H' → (∀ a, H a ≠ none → B a = none → B' a = none) → (∀ a u, H a = some u → ¬ mutA z a → a ≠ p → H' a = some u) → StrmOk z B' H' n' → H' p = some (.lst us') → RDs K B' l' us' → RD K B' x v → Q v H'
theorem spO.len {K : PySem.W.Frag} {hs : Bool} {ar : Nat} {m : OM} {vs : List V} {H : Hp} {Q : VK} {E : XK} (h : spO K hs ar m vs H Q E) : vs.length = (if hs then 1 else 0) + ar + 1 := by
  obtain ⟨z, B, ds, ws, n, Ψ, p, l, us, h1, h2, h3, h4, _⟩ := h
  subst h2
  rw [List.length_append, List.length_append, h3.len, h4]
  cases z with
  | none => subst h1; rfl
  | some q => subst h1; rfl
def fnEndsO (Ψ : D → List D → Nat → Prop) : DEnds := { nx := fun d => ∃ l', d.o[0]? = some (true, l') ∧ Ψ .non l' d.n, rt := fun s d => ∃ x l', s = .val x ∧ d.o[0]? = some (true, l') ∧ Ψ x l' d.n }
def fnStartO (hs : Bool) (ds : List D) (l : List D) (k n : Nat) : DS := ⟨(if hs then [S.strm] else []) ++ ds.map .val ++ [.own 0] ++ List.replicate k .un, [(true, l)], n⟩
theorem DSs.fnO {X : Cx} {body : List Stmt} {w : DTS} {hs : Bool} {ar k : Nat} {m : OM} {vs : List V} {H : Hp} {Q : VK} {E : XK} {N : List Str} (h : DSs X body w) (hsp : spO X.K hs ar m vs H Q E) (hN : N.length = (if hs then 1 else 0) + ar + 1 + k)
    (hw : ∀ ds l n Ψ, ds.length = ar → m ds l n Ψ → w (fnStartO hs ds l k n) (fnEndsO Ψ)) : ∃ t, PSs X body t ∧ t { nx := fun _ H' => Q .non H', rt := Q } (L2.start N vs) H := by
  obtain ⟨t, h1, h2⟩ := h
  have hl := hsp.len
  obtain ⟨z, B, ds, ws, n, Ψ, p, l, us, e1, e2, e3, e4, e5, e6, e7, e8, e9, e10, e11, e12⟩ := hsp
  let H0 : Hp := fun a => if a = p then none else H a
  have hne : ∀ a, a ≠ p → H0 a = H a := fun a h => if_neg h
  have hp : H0 p = none := if_pos rfl
  have hout : ∀ a, mutA z a → H0 a ≠ none := fun a m => by
    have : a ≠ p := fun h => by subst h; exact e8 m
    rw [hne a this]
    exact (e6.live m).1
  let c : Ctx := ⟨z, H0, B, hout⟩
  have one : ∀ (i : Nat) (q : Addr), [p][i]? = some q → i = 0 ∧ q = p := fun i q h => by
    cases i with
    | zero => exact ⟨rfl, (Option.some.inj h).symm⟩
    | succ i => simp at h
  have C : Core X.K c [(true, l)] n B [p] H := ⟨fun _ _ e => e, e5, fun a h1 h2 => h2, fun a u e m => by
      have : a ≠ p := fun h => by subst h; rw [show c.H0 a = none from hp] at e; cases e
      rw [← hne a this]; exact e, rfl, fun i j q h1 h2 => by rw [(one i q h1).1, (one j q h2).1], fun i q e h1 h2 => by
      obtain ⟨a1, a2⟩ := one i q h1
      subst a1 a2
      have h2 : some (true, l) = some e := h2
      cases h2
      exact ⟨hp, fun _ => e7, us, e9, e10, fun z => by cases z⟩, e6⟩
  have sl : Sl X.K c B [p] (fnStartO hs ds l k n).r (L2.start N vs) := by
    refine ⟨?_, fun i s o a1 a2 => ?_⟩
    · unfold fnStartO L2.start
      simp only [List.length_append, List.length_map, List.length_replicate, List.length_singleton, hl, hN, e4]
      cases hs <;> simp <;> omega
    · unfold fnStartO at a1
      unfold L2.start at a2
      subst e2
      have split : ∀ (l : List D) (us : List V) (q : Nat), RDs X.K B l us → ∀ (i : Nat), (l.map S.val ++ ([S.own 0] ++ List.replicate k S.un))[i]? = some s → (us.map some ++ ([some (.ref p)] ++ List.replicate q none))[i]? = some o → SRo X.K c B [p] s o := by
        intro l
        induction l with
        | nil =>
          intro us q hu i b1 b2
          cases (show us = [] from hu)
          simp only [List.map_nil, List.nil_append] at b1 b2
          cases i with
          | zero =>
            simp at b1 b2
            subst b1 b2
            exact ⟨p, rfl, rfl⟩
          | succ i =>
            simp only [List.singleton_append, List.getElem?_cons_succ] at b1
            obtain ⟨_, e⟩ := List.getElem?_eq_some_iff.mp b1
            rw [List.getElem_replicate] at e
            subst e
            trivial
        | cons x l ih =>
          intro us q hu i b1 b2
          obtain ⟨v, us', rfl, r1, r2⟩ := hu
          cases i with
          | zero =>
            simp at b1 b2
            subst b1 b2
            exact r1
          | succ i => exact ih us' q r2 i (by simpa using b1) (by simpa using b2)
      cases z with
      | none =>
        cases hs with
        | true => cases e1
        | false => exact split ds ws _ e3 i (by simpa using a1) (by simpa [zv] using a2)
      | some qq =>
        obtain ⟨q, q'⟩ := qq
        cases hs with
        | false => cases e1
        | true =>
          cases i with
          | zero =>
            simp [zv] at a1 a2
            subst a1 a2
            exact ⟨q, q', rfl, rfl⟩
          | succ i => exact split ds ws _ e3 i (by simpa using a1) (by simpa [zv] using a2)
  have fin : ∀ (d : DS) (T : List (V × S)) (σ : L2.St) (H' : Hp) (x : D) (l' : List D) (v : V), Fit X.K c d ((v, .val x) :: T) σ H' → (V.ref p, S.own 0) ∈ T → d.o[0]? = some (true, l') → Ψ x l' d.n → Q v H' := fun d T σ H' x l' v F hT ho q => by
    obtain ⟨B', A, C', _, tm⟩ := F
    obtain ⟨p', hp', ep⟩ : ∃ p', A[0]? = some p' ∧ V.ref p = .ref p' := tm _ (List.mem_cons_of_mem _ hT)
    cases ep
    obtain ⟨b1, b2, us', b3, b4, _⟩ := C'.ow 0 p _ hp' ho
    refine e12 x l' d.n v H' B' us' q C'.b0 C'.bh (fun a h1 h2 => ?_) (fun a u e m n => C'.fr a u (by rw [← e]; exact hne a n) m) C'.sm b3 b4 (tm _ List.mem_cons_self)
    by_cases ha : a = p
    · subst ha; exact b2 rfl
    · exact C'.bf a (by rw [show c.H0 a = H a from hne a ha]; exact h1) h2
  refine ⟨t, h1, h2 c _ [(.ref p, .own 0)] (L2.start N vs) H (fnEndsO Ψ) _ ⟨B, [p], C, sl, Tm.cons (s := .own 0) ⟨p, rfl, rfl⟩ Tm.nil⟩ (hw ds l n Ψ e4 e11) ⟨fun d σ H' F q => ?_, fun s d v σ H' F q => ?_, fun _ _ _ _ q => q.elim, fun _ _ _ _ q => q.elim⟩⟩
  · obtain ⟨l', ho, q⟩ := q
    exact fin d _ σ H' .non l' .non (F.push (x := .non) fun _ => rfl) List.mem_cons_self ho q
  · obtain ⟨x, l', e, ho, q⟩ := q
    subst e
    exact fin d _ σ H' x l' v F List.mem_cons_self ho q
/-- the call: the last argument is an owned list -/
def dCallO (hs : Bool) (ar : Nat) (m : OM) (wa : DTA) : DTE := fun d Ψ => wa d fun ss d1 => ∃ rest k ds d2 l, fzs d1 rest = some (ds, d2) ∧ ds.length = ar ∧ d2.o[k]? = some (true, l) ∧ match hs with
  | true => ss = [S.strm] ++ rest ++ [.own k] ∧ m ds l d2.n fun x l' n' => Ψ (.val x) { d2 with o := d2.o.set k (true, l'), n := n' }
  | false => ss = [] ++ rest ++ [.own k] ∧ m ds l 0 fun x l' _ => Ψ (.val x) { d2 with o := d2.o.set k (true, l') }
theorem split_map {α β : Type} {f : α → β} : ∀ {l : List α} {a b : List β}, l.map f = a ++ b → ∃ u v, l = u ++ v ∧ u.map f = a ∧ v.map f = b
  | l, [], b, h => ⟨[], l, rfl, rfl, h⟩
  | [], x :: a, b, h => by cases h
  | y :: l, x :: a, b, h => by
    simp only [List.map_cons, List.cons_append, List.cons.injEq] at h
    obtain ⟨u, v, h1, h2, h3⟩ := split_map h.2
    exact ⟨y :: u, v, by rw [h1]; rfl, by rw [List.map_cons, h.1, h2], h3⟩
theorem snd_callO {K : PySem.W.Frag} {hs : Bool} {ar : Nat} {m : OM} {ta : TA} {wa : DTA} {E : XK} (h : SndA K ta wa) : SndE K (tCall (spO K hs ar m) [] E ta) (dCallO hs ar m wa) := by
  intro c d T σ H Ψ Q F hw k
  refine h c d T σ H _ _ F hw fun TT d1 H1 F1 ⟨rest, j, ds, d2, l, e1, e2, e3, w1⟩ => ?_
  show spO K hs ar m (TT.map (·.1) ++ []) H1 Q E
  rw [List.append_nil]
  have e0 : ∃ st : List S, (hs = true → st = [S.strm]) ∧ (hs = false → st = []) ∧ TT.map (·.2) = st ++ rest ++ [.own j] := by
    cases hs with
    | true => exact ⟨_, fun _ => rfl, fun h => (by cases h), w1.1⟩
    | false => exact ⟨_, fun h => (by cases h), fun _ => rfl, w1.1⟩
  obtain ⟨st, est, esf, e0⟩ := e0
  obtain ⟨B, A, C, sl, tm⟩ := F1
  have tmT : Tm K c B A T := fun q hq => tm q (List.mem_append_right _ hq)
  obtain ⟨U, W, eT, eU, eW⟩ := split_map e0
  obtain ⟨U0, U1, eU0, eU1, eU2⟩ := split_map eU
  obtain ⟨pv, rfl⟩ : ∃ pv, W = [(pv, .own j)] := one_arg' eW
  subst eT eU0
  obtain ⟨p, hp, ep⟩ : ∃ p, A[j]? = some p ∧ pv = .ref p := tm (pv, .own j) (List.mem_append_left _ (List.mem_append_right _ List.mem_cons_self))
  subst ep
  have pr : Paired (fun s v => SR K c B A s v) (U1.map (·.2)) (U1.map (·.1)) := Tm.paired (T := []) fun q hq => by
    rw [List.append_nil] at hq
    exact tm q (List.mem_append_left _ (List.mem_append_left _ (List.mem_append_right _ hq)))
  rw [eU2] at pr
  obtain ⟨B1, C1, s1, r1, q1⟩ := C.fzs pr e1
  obtain ⟨f1, f2, us, f3, f4, _⟩ := C1.ow j p _ hp e3
  have f2 := f2 rfl
  have npm : ¬ mutA c.z p := fun m => c.out p m f1
  have hlt : j < d2.o.length := (List.getElem?_eq_some_iff.mp e3).1
  have fin : ∀ (z : Option (Addr × Addr)) (x : D) (l' : List D) (n' : Nat) (v : V) (H' B' : Hp) (us' : List V), (z = none ∨ z = c.z) → Ψ (.val x) { d2 with o := d2.o.set j (true, l'), n := n' } → Same B1 B' → Same B' H' → (∀ a, H1 a ≠ none → B1 a = none → B' a = none) → (∀ a u, H1 a = some u → ¬ mutA z a → a ≠ p → H' a = some u) → StrmOk c.z B' H' n' → H' p = some (.lst us') → RDs K B' l' us' → RD K B' x v → Q v H' := fun z x l' n' v H' B' us' hz q s2 s3 fb ff sm hu rl rx => by
    have nm : ∀ a, ¬ mutA c.z a → ¬ mutA z a := fun a h => by
      rcases hz with e | e
      · subst e; exact id
      · subst e; exact h
    have live : ∀ a, c.H0 a ≠ none → H1 a ≠ none := fun a ha => by
      by_cases hm : mutA c.z a
      · exact (C1.sm.live hm).1
      · cases e : c.H0 a with
        | none => exact absurd e ha
        | some u => rw [C1.fr a u e hm]; exact fun h => by cases h
    refine k _ { d2 with o := d2.o.set j (true, l'), n := n' } v H' ⟨B', A, ⟨C1.b0.trans s2, s3, fun a h1 h2 => fb a (live a h1) (C1.bf a h1 h2), fun a u e m => ff a u (C1.fr a u e m) (nm a m) fun h => (by subst h; rw [f1] at e; cases e), by rw [List.length_set]; exact C1.al, C1.nd, fun i q e h1 h2 => ?_, sm⟩, by show Sl K c B' A d2.r σ; rw [q1]; exact sl.mono (s1.trans s2) fun _ _ e => e, Tm.cons (s := .val x) rx (tmT.mono (s1.trans s2) fun _ _ e => e)⟩ q
    by_cases hi : j = i
    · subst hi
      rw [hp] at h1; cases h1
      rw [List.getElem?_set_self hlt] at h2; cases h2
      exact ⟨f1, fun _ => fb p (by rw [f3]; exact fun h => by cases h) f2, us', hu, rl, fun z => by cases z⟩
    · rw [List.getElem?_set_ne hi] at h2
      obtain ⟨b1, b2, ws, b3, b4, b5⟩ := C1.ow i q e h1 h2
      have hqp : q ≠ p := fun z => by subst z; exact hi (C1.nd j i _ hp h1)
      exact ⟨b1, fun z => fb q (by rw [b3]; exact fun h => by cases h) (b2 z), ws, ff q _ b3 (nm q fun m => c.out q m b1) hqp, RDs.mono s2 _ _ b4, fun z => s2 _ _ (b5 z)⟩
  cases hs with
  | false =>
    have est := esf rfl
    subst est
    have : U0 = [] := by cases U0 with | nil => rfl | cons _ _ => cases eU1
    subst this
    refine ⟨none, B1, ds, U1.map (·.1), 0, _, p, l, us, rfl, by simp [zv], r1, e2, C1.bh, trivial, f2, id, f3, f4, w1.2, fun x l' n' v H' B' us' q s2 s3 fb ff _ hu rl rx => ?_⟩
    refine fin none x l' d2.n v H' B' us' (.inl rfl) q s2 s3 fb ff (C1.sm.keep (fun a m e => fb a (C1.sm.live m).1 e) fun a u m e => ff a u e id fun h => npm (by subst h; exact m)) hu rl rx
  | true =>
    have est := est rfl
    subst est
    obtain ⟨v0, rfl⟩ : ∃ v0, U0 = [(v0, .strm)] := one_arg' eU1
    obtain ⟨q, q', ez, ev⟩ : ∃ q q', c.z = some (q, q') ∧ v0 = .ref q := tm (v0, .strm) (List.mem_append_left _ (List.mem_append_left _ (List.mem_append_left _ List.mem_cons_self)))
    refine ⟨c.z, B1, ds, U1.map (·.1), d2.n, _, p, l, us, by rw [ez]; rfl, by simp [ez, ev, zv], r1, e2, C1.bh, C1.sm, f2, npm, f3, f4, w1.2, fun x l' n' v H' B' us' q s2 s3 fb ff sm hu rl rx => ?_⟩
    exact fin c.z x l' n' v H' B' us' (.inr rfl) q s2 s3 fb ff sm hu rl rx

/-! ### clear -/
section
variable {X : Cx} {o : Expr} {wo : DTE} {apos cpos : Pos}
def gClear : DRM := fun s ss d Ψ => ∃ k l, s = .own k ∧ ss = [] ∧ d.o[k]? = some (true, l) ∧ Ψ (.val .non) { d with o := d.o.set k (true, []) }
theorem snd_clear {K : PySem.W.Frag} : SndM K rClear gClear := fun c d v s TT T σ H Ψ Q F ⟨j, l, e0, e1, e2, q⟩ k => by
  subst e0
  have : TT = [] := by cases TT with | nil => rfl | cons _ _ => cases e1
  subst this
  obtain ⟨B, A, C, sl, tm⟩ := F
  obtain ⟨a, ha, ev⟩ : ∃ p, A[j]? = some p ∧ v = .ref p := tm _ List.mem_cons_self
  subst ev
  obtain ⟨_, _, us, hu, ru, _⟩ := C.ow j a _ ha e2
  exact ⟨a, us, rfl, rfl, hu, k _ { d with o := d.o.set j (true, []) } .non _ ⟨B, A, C.write e2 ha (l' := []) rfl, sl, Tm.cons (s := .val .non) rfl fun z hz => tm z (List.mem_cons_of_mem _ hz)⟩ q⟩
theorem de_clear (ho : DE X o wo) (hbase : attributeBase o "clear" X.env (eval o X.env) = eval o X.env := by rfl) (hline : (apos.endLine == cpos.line) = true := by rfl) : DE X (.Call (.Attribute o "clear" apos) [] [] cpos) (dBM gClear wo dNil) := by
  obtain ⟨t, h1, h2⟩ := ho
  refine ⟨_, pe_bm0 PySem.F.plainAttrs_list PySem.F.slot_list_clear PySem.F.type_list_clear mt_clear h1 hbase hline, ?_⟩
  have h4 : SndA X.K (fun σ H Q => Q [] H) dNil := fun c d T σ H Ψ Q F w k => k [] d H F w
  exact sndBM snd_clear h2 h4
end

/-! ### calls with keywords -/
def kG {α : Type} (nu nk : Nat) (perm : List Nat) (us ws : List α) : List α := if us.length = nu ∧ ws.length = nk then perm.filterMap fun i => (us ++ ws)[i]? else []
theorem kG_rel {nu nk : Nat} {perm : List Nat} {vs zs : List V} {us ws : List Value} (r : Vals vs us) (rz : Vals zs ws) : Vals (kG nu nk perm vs zs) (kG nu nk perm us ws) := by
  unfold kG
  rw [r.length, rz.length]
  by_cases h : us.length = nu ∧ ws.length = nk
  · rw [if_pos h, if_pos h]
    have ra : Vals (vs ++ zs) (us ++ ws) := r.append rz
    clear h
    induction perm with
    | nil => exact .nil
    | cons i perm ih =>
      rw [List.filterMap_cons, List.filterMap_cons]
      cases e : (vs ++ zs)[i]? with
      | some v =>
        obtain ⟨u, hu, ru⟩ := ra.get e
        rw [hu]
        exact .cons ru ih
      | none =>
        have : (us ++ ws)[i]? = none := by
          rw [List.getElem?_eq_none_iff] at e ⊢
          rw [← ra.length]; exact e
        rw [this]
        exact ih
  · rw [if_neg h, if_neg h]; exact .nil
theorem kG_map {α β : Type} {f : α → β} {nu nk : Nat} {perm : List Nat} {us ws : List α} : (kG nu nk perm us ws).map f = kG nu nk perm (us.map f) (ws.map f) := by
  unfold kG
  rw [List.length_map, List.length_map]
  by_cases h : us.length = nu ∧ ws.length = nk
  · rw [if_pos h, if_pos h, List.map_filterMap]
    congr 1
    funext i
    rw [← List.map_append, List.getElem?_map]
  · rw [if_neg h, if_neg h]; rfl
theorem kG_mem {α : Type} {nu nk : Nat} {perm : List Nat} {us ws : List α} {x : α} (h : x ∈ kG nu nk perm us ws) : x ∈ us ++ ws := by
  unfold kG at h
  split at h
  · obtain ⟨i, _, e⟩ := List.mem_filterMap.mp h
    exact List.mem_of_getElem? e
  · cases h
/-- how keywords bind -/
def KB (K : PySem.W.Frag) (fd : FuncData) (ps ks : List Str) (nu nk : Nat) (perm : List Nat) : Prop := ∀ (s : Shared) (us ws : List Value), K.In s.heap → us.length = nu → ws.length = nk → BindsTo s fd ⟨us, ks.zip ws⟩ (ps.zip (kG nu nk perm us ws))
theorem KB.kb {K : PySem.W.Frag} {fd : FuncData} {ps ks : List Str} {nu nk : Nat} {perm : List Nat} (h : KB K fd ps ks nu nk perm) (hp : ps ≠ []) : KBinds K fd ps ks (kG nu nk perm) (kG nu nk perm) := by
  refine ⟨fun s us ws hk hl => ?_, fun r rz => kG_rel r rz⟩
  by_cases h' : us.length = nu ∧ ws.length = nk
  · exact h s us ws hk h'.1 h'.2
  · unfold kG at hl
    rw [if_neg h'] at hl
    match ps, hp, hl with
    | [], hp, _ => exact absurd rfl hp
    | _ :: _, _, hl => cases hl
def DK (X : Cx) (kws : List Keyword) (w : DTA) : Prop := ∃ t, PK X kws t ∧ SndA X.K t w
section
variable {X : Cx} {e : Expr} {es : List Expr} {kws : List Keyword} {wa wk : DTA} {we : DTE} {nm : Option Str} {kpos p pos : Pos} {x : Str}
theorem dk_nil : DK X [] dNil := ⟨_, pk_nil, fun c d T σ H Ψ Q F hw k => k [] d H F hw⟩
theorem snd_cons {K : PySem.W.Frag} {t : TE} {u : TA} {r : DTA} (h2 : SndE K t we) (h4 : SndA K u r) : SndA K (tCons t u) (dCons we r) := fun c d T σ H Ψ Q F hw k => h2 c d T σ H _ _ F hw fun s d1 v H1 F1 w1 => h4 c d1 _ σ H1 _ _ F1 w1 fun TT d2 H2 F2 w2 => by
  refine k ((v, s) :: TT) d2 H2 (F2.sub fun p hp => ?_) w2
  rcases List.mem_cons.mp hp with z | z
  · subst z; exact List.mem_append_right _ List.mem_cons_self
  · rcases List.mem_append.mp z with z | z
    · exact List.mem_append_left _ z
    · exact List.mem_append_right _ (List.mem_cons_of_mem _ z)
theorem dk_cons {r : DTA} (h : DE X e we) (h' : DK X kws r) : DK X (⟨nm, e, kpos⟩ :: kws) (dCons we r) := by
  obtain ⟨t, h1, h2⟩ := h
  obtain ⟨u, h3, h4⟩ := h'
  exact ⟨_, pk_cons h1 h3, snd_cons h2 h4⟩
def dCallK (hs : Bool) (ar : Nat) (m : FM) (nu nk : Nat) (perm : List Nat) (wa wk : DTA) : DTE := fun d Ψ => wa d fun ss d1 => wk d1 fun sk d2 => gCall hs ar m (kG nu nk perm ss sk) d2 Ψ
theorem snd_callK {K : PySem.W.Frag} {hs : Bool} {ar : Nat} {m : FM} {ta tk : TA} {nu nk : Nat} {perm : List Nat} {E : XK} (h : SndA K ta wa) (h' : SndA K tk wk) : SndE K (tCallK (spF K hs ar m) (kG nu nk perm) E ta tk) (dCallK hs ar m nu nk perm wa wk) := by
  intro c d T σ H Ψ Q F hw k
  refine h c d T σ H _ _ F hw fun TT d1 H1 F1 w1 => h' c d1 _ σ H1 _ _ F1 w1 fun TK d2 H2 F2 w2 => ?_
  rw [← kG_map (f := fun p : V × S => p.1)]
  rw [← kG_map (f := fun p : V × S => p.2)] at w2
  refine core_call (T := T) (F2.sub fun q hq => ?_) w2 k
  rcases List.mem_append.mp hq with z | z
  · rcases List.mem_append.mp (kG_mem z) with z | z
    · exact List.mem_append_right _ (List.mem_append_left _ z)
    · exact List.mem_append_left _ z
  · exact List.mem_append_right _ (List.mem_append_right _ z)
theorem pe_callK0 {CX : CXT} {k : Nat} {f : Addr} {fd : FuncData} {ps ks : List Str} {sp : Sp} {E : XK} {tk : TA} {g : List Value → List Value → List Value} {gV : List V → List V → List V} (F : FnOk X.prog X.w X.K X.mg X.base CX k f fd ps sp) (hr : Room k X.A) (hg : Gl X x) (hm : X.mg x = some (.ref f)) (hk : PySem.W.keepIn X.K (.ref f) = true) (hb : KBinds X.K fd ps ks g gV) (hx : Passes CX X E)
    (hkw : PK X kws tk) (hall : (backToKw pos (keywordEach kws X.env)).all (·.1.isSome) = true := by rfl) (hks : (backToKw pos (keywordEach kws X.env)).filterMap (·.1) = ks := by rfl)
    (hdb : (x == ("__debug__" : Str)) = false := by decide)
    (hpl : ((backTo pos (starEach [] X.env)).any (·.1) || (backToKw pos (keywordEach kws X.env)).any (·.1.isNone)) = false := by rfl) :
    PE X (.Call (.Name x p) [] kws pos) (tCallK sp gV E tNil tk) := by
  refine ⟨fun pins s σ H Q I h => ?_⟩
  refine wpAny_Call_Name_kw (ld_glob I hg hm ?_ hdb)
  refine PySem.W.callWith_KW0 (h₀ := X.base) I.ok.mod.kin hk hall (thn (hkw.run pos pins s σ H _ I h) fun ws s2 ⟨zs, H2, I2, rz, q2⟩ => ⟨I2.kIn, ?_⟩) hpl
  rw [hks]
  exact run_fnk (us := []) (vs := []) F hr hb hx I2 .nil rz q2
theorem de_callK0 {ps ks : List Str} {k : Nat} {hs : Bool} {ar : Nat} {m : FM} {f : Addr} {fd : FuncData} {nk : Nat} {perm : List Nat} (D : DefOk X.prog X.w X.K X.mg X.base x ps k hs ar m f fd) (hr : Room k X.A) (hg : Gl X x) (hb : KB X.K fd ps ks 0 nk perm) (hk : DK X kws wk) (hp : ps ≠ [] := by decide)
    (hall : (backToKw pos (keywordEach kws X.env)).all (·.1.isSome) = true := by rfl) (hks : (backToKw pos (keywordEach kws X.env)).filterMap (·.1) = ks := by rfl)
    (hdb : (x == ("__debug__" : Str)) = false := by decide)
    (hpl : ((backTo pos (starEach [] X.env)).any (·.1) || (backToKw pos (keywordEach kws X.env)).any (·.1.isNone)) = false := by rfl) : DE X (.Call (.Name x p) [] kws pos) (dCallK hs ar m 0 nk perm dNil wk) := by
  obtain ⟨u, h3, h4⟩ := hk
  exact ⟨_, pe_callK0 D.ok hr hg D.gl D.kp (hb.kb hp) pass0 h3 hall hks hdb hpl, snd_callK (fun c d T σ H Ψ Q F hw k => k [] d H F hw) h4⟩
theorem de_callK {ps ks : List Str} {k : Nat} {hs : Bool} {ar : Nat} {m : FM} {f : Addr} {fd : FuncData} {nu nk : Nat} {perm : List Nat} (D : DefOk X.prog X.w X.K X.mg X.base x ps k hs ar m f fd) (hr : Room k X.A) (hg : Gl X x) (hb : KB X.K fd ps ks nu nk perm) (ha : DA X (e :: es) wa) (hk : DK X kws wk) (hp : ps ≠ [] := by decide)
    (hall : (backToKw pos (keywordEach kws X.env)).all (·.1.isSome) = true := by rfl) (hks : (backToKw pos (keywordEach kws X.env)).filterMap (·.1) = ks := by rfl)
    (hdb : (x == ("__debug__" : Str)) = false := by decide) (he : starEach (e :: es) X.env = (false, eval e X.env) :: starEach es X.env := by rfl)
    (hpl : ((backTo pos (starEach (e :: es) X.env)).any (·.1) || (backToKw pos (keywordEach kws X.env)).any (·.1.isNone)) = false := by rfl) : DE X (.Call (.Name x p) (e :: es) kws pos) (dCallK hs ar m nu nk perm wa wk) := by
  obtain ⟨t, h1, h2⟩ := ha
  obtain ⟨u, h3, h4⟩ := hk
  exact ⟨_, pe_callK D.ok hr hg D.gl D.kp (hb.kb hp) pass0 h1 h3 hall hks hdb he hpl, snd_callK h2 h4⟩

/-! ### the call of a def that changes its last argument -/
structure DefOO (P : Program) (w : World) (K : PySem.W.Frag) (mg : Str → Option Value) (base : Heap) (x : Str) (ps : List Str) (k : Nat) (hs : Bool) (ar : Nat) (m : OM) (f : Addr) (fd : FuncData) : Prop where
  gl : mg x = some (.ref f)
  kp : PySem.W.keepIn K (.ref f) = true
  bd : Binds K fd ps []
  ok : FnOk P w K mg base CX0 k f fd ps (spO K hs ar m)
theorem de_callO {ps : List Str} {k : Nat} {hs : Bool} {ar : Nat} {m : OM} {f : Addr} {fd : FuncData} (D : DefOO X.prog X.w X.K X.mg X.base x ps k hs ar m f fd) (hr : Room k X.A) (hg : Gl X x) (ha : DA X (e :: es) wa)
    (hdb : (x == ("__debug__" : Str)) = false := by decide) (he : starEach (e :: es) X.env = (false, eval e X.env) :: starEach es X.env := by rfl) (hpl : (backTo pos (starEach es X.env)).any (·.1) = false := by rfl) : DE X (.Call (.Name x p) (e :: es) [] pos) (dCallO hs ar m wa) := by
  obtain ⟨t, h1, h2⟩ := ha
  exact ⟨_, pe_call D.ok hr hg D.gl D.kp D.bd .nil pass0 h1 hdb he hpl, snd_callO h2⟩
end
end RH

set_option Elab.async false
set_option linter.all false
set_option maxRecDepth 100000
set_option maxHeartbeats 1000000
/-! the data layer, part k: names = a tuple display, where names are cells -/
namespace RH
open PySem PySem.Spec PyProof.Rows L2

def tNames : List Nat → TGs
  | [] => gNil
  | i :: is => gCons (gName i) (tNames is)
def DNs (X : Cx) (ts : List Expr) (is : List Nat) : Prop := PGs X ts (tNames is)
section
variable {X : Cx} {es : List Expr} {e : Expr} {wa : DTA} {pos : Pos}
theorem dn_nil : DNs X [] [] := pgs_nil
theorem dn_cons {i : Nat} {x : Str} {p : Pos} {is : List Nat} (hN : X.N.Nodup) (hi : X.N[i]? = some x) (hx : Loc X.env.scope x) (h : DNs X es is)
    (hs : (assignEach (.Name x p :: es) X.env).map (·.2) = assign (.Name x p) X.env :: (assignEach es X.env).map (·.2) := by rfl) (hf : X.fn x = true ∨ X.env.scope.names.lookup x = some .local := by first | exact .inl rfl | exact .inr rfl | assumption) : DNs X (.Name x p :: es) (i :: is) :=
  pgs_cons (pg_name hN hi hx hf) h hs
def putAll : DS → List Nat → List S → DS
  | d, i :: is, s :: ss => putAll (d.put i s) is ss
  | d, _, _ => d
theorem names_run {K : PySem.W.Frag} {c : Ctx} {T : List (V × S)} {H : Hp} {Q : L2.St → Hp → Prop} : ∀ (is : List Nat) (TT : List (V × S)) (d : DS) (σ : L2.St), Fit K c d (TT ++ T) σ H → is.length = TT.length → (∀ σ', Fit K c (putAll d is (TT.map (·.2))) T σ' H → Q σ' H) → tNames is (TT.map (·.1)) σ H Q
  | [], [], d, σ, F, _, k => ⟨rfl, k σ F⟩
  | i :: is, p :: TT, d, σ, F, hl, k => ⟨p.1, TT.map (·.1), rfl, names_run is TT (d.put i p.2) (σ.set i (some p.1)) (Fit.put (i := i) (v := p.1) (s := p.2) (T := TT ++ T) F) (by simpa using hl) k⟩
  | [], _ :: _, _, _, _, hl, _ => by cases hl
  | _ :: _, [], _, _, _, hl, _ => by cases hl
def dParT (is : List Nat) (wa : DTA) : DTS := fun d Φ => wa d fun ss d1 => ss.length = is.length ∧ is.length ≤ 1000 ∧ Φ.nx (putAll d1 is ss)
theorem ds_parT {ts : List Expr} {k k2 : Nat} {pt pt2 : Pos} {is : List Nat} {n : Nat} (hc : X.calm = true) (ha : DA X es wa) (hg : DNs X ts is) (hn : (assignEach ts X.env).length = n := by rfl) (hst : (assignEach ts X.env).findIdx? (·.1) = none := by rfl) (hni : is.length = n := by rfl)
    (hs : swapsWithSole [.Tuple ts k pt] (.Tuple es k2 pt2) pos.line X.env = pure false := by rfl) (hw : swappedStores [.Tuple ts k pt] (.Tuple es k2 pt2) X.env = pure none := by rfl)
    (h1 : (assignEach [.Tuple ts k pt] X.env).map (·.2) = [assign (.Tuple ts k pt) X.env] := by rfl) : DSt X (.Assign [.Tuple ts k pt] (.Tuple es k2 pt2) pos) (dParT is wa) := by
  obtain ⟨t, a1, a2⟩ := ha
  refine ⟨_, ps_asg (pe_tup a1) (pg_tup hc hg hn hst) hs hw h1, fun c d T σ H Φ E F hw C => a2 c d T σ H _ _ F hw fun TT d1 H1 F1 ⟨hl, hl2, w1⟩ => ?_⟩
  have e : TT.length = is.length := by simpa using hl
  refine ⟨by rw [List.length_map, e]; exact le_line hl2, fun p hp => ?_⟩
  obtain ⟨B, A, C1, sl, tm⟩ := F1
  obtain ⟨C2, s1⟩ := C1.laid (u := .tup (TT.map (·.1))) hp
  refine ⟨p, TT.map (·.1), rfl, .inl (.inl upd_same), by rw [List.length_map, e, hni], ?_⟩
  exact names_run is TT d1 σ ⟨_, A, C2, sl.mono s1 fun _ _ e => e, tm.mono s1 fun _ _ e => e⟩ e.symm fun σ' F' => C.nx _ _ _ F' w1
end
end RH

set_option Elab.async false
set_option linter.all false
set_option maxRecDepth 100000
set_option maxHeartbeats 1000000
/-! the data layer, part l: a law's stream of draws -/
namespace RH
open PySem PySem.Spec PyProof.Rows L2

/-- a draw: any number below the one that is asked -/
def m__law_draw : FM := fun ds n Ψ => ∃ k : Int, ds = [.int k] ∧ 0 < k ∧ k < 1000000 ∧ n < 1000000 ∧ ∀ i : Int, 0 ≤ i → i < k → Ψ (.val (.int i)) (n + 1)

section
variable (K : PySem.W.Frag)
def zIx (i : Int) : TE := tOp (rIx K) (tVar 0) (tC (.int i))
def zSt (i : Int) (t : TE) : TS := tAsg t (gSub (tVar 0) (tC (.int i)) rSetL)
def zAdd := tOp (rI0 fun i j => V.int (i + j))
def zMul := tOp (rI CMul fun i j => V.int (i * j))
def zMod := tOp (rI (fun _ j => 0 < j) fun i j => V.int (i % j))
def zPow := tOp (rI CPow fun i j => V.int (i ^ j.toNat))
def zDiv := tOp (rI CDiv fun i j => V.int (i / j))
def zInt (t : TE) : TE := tCB (fun xs H Q => (∃ i, xs = [.int i] ∧ Q (.int i) H) ∨ ∃ k, xs = [.bl k] ∧ Q (.int (if k then 1 else 0)) H) (tCons t tNil)
def zAbs (t : TE) : TE := tCB (fun xs H Q => ∃ i, xs = [V.int i] ∧ Q (.int (if i < 0 then -i else i)) H) (tCons t tNil)
def zCmp (f : Int → Int → Bool) (a b : TE) : TT := tTest (tOp (rI0 fun i j => .bl (f i j)) a b)
def zC (i : Int) : TE := tC (.int i)
def drawT : TS :=
  tSeq (zSt 2 (zAdd (zIx K 2) (zC 1)))
  (tSeq (tWhile (tAnd (tTest (tOp rEq (zIx K 1) (zC 0))) (tTest (tOp (rNeD K) (zIx K 0) (tLst tNil))))
    (tSeq (tAsg (zAbs (tBM K "list" rPopAt (zIx K 0) (tCons (zC 0) tNil))) (gName 2))
    (tSeq (zSt 3 (zMod (zInt (zAdd (zAdd (zMul (zIx K 3) (zC 8191)) (tVar 2)) (zC 3))) (zC 2147483647)))
      (zSt 1 (tIf (zCmp (fun i j => decide (j ≤ i)) (tVar 2) (zPow (zC 10) (zC 18))) (tVar 2) (zC 0))))))
  (tSeq (tIfS (zCmp (fun i j => decide (j < i)) (zIx K 1) (zC 0))
      (tSeq (tAsg (zMod (zInt (zIx K 1)) (tVar 1)) (gName 3)) (tSeq (zSt 1 (zDiv (zIx K 1) (tVar 1))) (tRet (tVar 3))))
      tNext)
  (tSeq (tAsg (zMod (zInt (zPow (zAdd (zAdd (zIx K 3) (zMul (zC 7919) (zIx K 2))) (zC 104729)) (zC 5))) (zC 2147483629)) (gName 4))
    (tRet (zMod (zMod (zInt (zPow (zAdd (zAdd (zMul (tVar 4) (zC 48271)) (zMul (zC 30011) (zIx K 2))) (zC 29)) (zC 3))) (zC 1000000007)) (tVar 1))))))
end
section
variable {K : PySem.W.Frag} {H0 H : Hp} {q q' : Addr} {k : Int} {σ : L2.St} {cells : List Int} {cur cnt acc : Int}
structure DrI (H0 : Hp) (q q' : Addr) (k : Int) (σ : L2.St) (H : Hp) (cells : List Int) (cur cnt acc : Int) : Prop where
  hq : H q = some (.lst [.ref q', .int cur, .int cnt, .int acc])
  hc : H q' = some (.lst (cells.map .int))
  ne : q ≠ q'
  fr : ∀ a u, H0 a = some u → a ≠ q → a ≠ q' → H a = some u
  s0 : σ[0]? = some (some (.ref q))
  s1 : σ[1]? = some (some (.int k))
  sl : σ.length = 5
theorem DrI.at (h : DrI H0 q q' k σ H cells cur cnt acc) {i : Int} {v : V} {Q : VK} (e : atI [V.ref q', .int cur, .int cnt, .int acc] i = some v) (hQ : Q v H) : zIx K i σ H Q :=
  ⟨_, h.s0, .inl ⟨q, _, i, v, rfl, rfl, .inl (.inl h.hq), e, hQ⟩⟩
theorem DrI.set (h : DrI H0 q q' k σ H cells cur cnt acc) {i : Int} {j : Nat} {v : V} {Q : L2.St → Hp → Prop} (e : ixN 4 i = some j) (hQ : Q σ (upd H q (.lst ([V.ref q', .int cur, .int cnt, .int acc].set j v)))) : gSub (tVar 0) (tC (.int i)) rSetL v σ H Q :=
  ⟨_, h.s0, q, _, i, j, rfl, rfl, h.hq, e, hQ⟩
theorem DrI.put (h : DrI H0 q q' k σ H cells cur cnt acc) {cur' cnt' acc' : Int} : DrI H0 q q' k σ (upd H q (.lst [V.ref q', .int cur', .int cnt', .int acc'])) cells cur' cnt' acc' :=
  ⟨upd_same, by rw [upd_ne (Ne.symm h.ne)]; exact h.hc, h.ne, fun a u e h1 h2 => by rw [upd_ne h1]; exact h.fr a u e h1 h2, h.s0, h.s1, h.sl⟩
theorem DrI.name (h : DrI H0 q q' k σ H cells cur cnt acc) {i : Nat} {v : V} (hi : 2 ≤ i) : DrI H0 q q' k (σ.set i (some v)) H cells cur cnt acc :=
  ⟨h.hq, h.hc, h.ne, h.fr, by rw [List.getElem?_set_ne (by omega)]; exact h.s0, by rw [List.getElem?_set_ne (by omega)]; exact h.s1, by rw [List.length_set]; exact h.sl⟩
theorem DrI.rest (h : DrI H0 q q' k σ H cells cur cnt acc) {cells' : List Int} : DrI H0 q q' k σ (upd H q' (.lst (cells'.map .int))) cells' cur cnt acc :=
  ⟨by rw [upd_ne h.ne]; exact h.hq, upd_same, h.ne, fun a u e h1 h2 => by rw [upd_ne h2]; exact h.fr a u e h1 h2, h.s0, h.s1, h.sl⟩
theorem DrI.junk (h : DrI H0 q q' k σ H cells cur cnt acc) {p : Addr} {u : HO} (hp : H p = none) : DrI H0 q q' k σ (upd H p u) cells cur cnt acc :=
  ⟨by rw [upd_ne (ne_of_none h.hq hp)]; exact h.hq, by rw [upd_ne (ne_of_none h.hc hp)]; exact h.hc, h.ne, fun a w e h1 h2 => by rw [upd_ne (ne_of_none (h.fr a w e h1 h2) hp)]; exact h.fr a w e h1 h2, h.s0, h.s1, h.sl⟩
theorem dp_cells : ∀ {cells : List Int}, DpAll K H (cells.map V.int) (cells.map PyData.int)
  | [] => .nil
  | c :: r => .cons (.int c) dp_cells
theorem canAll_cells : ∀ cells : List Int, PyData.canLayAll0 (cells.map PyData.int) = true
  | [] => by simp [PyData.canLayAll0]
  | c :: r => by
    have := canAll_cells r
    simp [PyData.canLayAll0, PyData.canLay0, this]
theorem depthAll_cells : ∀ cells : List Int, PyData.depthAll (cells.map PyData.int) = 0
  | [] => by simp [PyData.depthAll]
  | c :: r => by
    have := depthAll_cells r
    simp [PyData.depthAll, PyData.depth, this]
theorem shaped_cells (cells : List Int) : SeqAt.shaped (.list (cells.map PyData.int)) = true := by
  have h1 := canAll_cells cells
  have h2 := depthAll_cells cells
  simp [SeqAt.shaped, PyData.canLay0, PyData.depth, h1, h2]
theorem eqv_cells (cells : List Int) : PyData.eqv (.list (cells.map PyData.int)) (.list []) = decide (cells = []) := by
  cases cells with
  | nil => simp [PyData.eqv, PyData.eqvAll]
  | cons c r => simp [PyData.eqv, PyData.eqvAll]
theorem drawT_run {vs : List V} {Q : VK} {E : XK} (h : spF K true 1 m__law_draw vs H Q E) : drawT K { nx := fun _ H' => Q .non H', rt := Q } (L2.start ["_law_stream_here", "_law_many", "_law_cell", "_law_digit", "_law_mixed_here"] vs) H := by
  obtain ⟨z, B, ds, ws, n, Ψ, e1, e2, e3, e4, e5, e6, e7, e8⟩ := h
  cases z with
  | none => cases e1
  | some qq =>
  obtain ⟨q, q'⟩ := qq
  obtain ⟨k, ed, k0, k1, hn, hk⟩ := e7
  subst ed
  obtain ⟨v, r, ew, ev, er⟩ := e3
  have ev : v = .int k := ev
  have er : r = [] := er
  subst ew ev er e2
  obtain ⟨hne, hb1, hb2, cells, cur, cnt, acc, hq, hc, hl, c0, t0, tn, a0, a1⟩ := e6
  have I0 : DrI H q q' k (L2.start ["_law_stream_here", "_law_many", "_law_cell", "_law_digit", "_law_mixed_here"] (zv (some (q, q')) ++ [V.int k])) H cells cur cnt acc := ⟨hq, hc, hne, fun a u e _ _ => e, rfl, rfl, rfl⟩
  generalize L2.start ["_law_stream_here", "_law_many", "_law_cell", "_law_digit", "_law_mixed_here"] (zv (some (q, q')) ++ [V.int k]) = σ at I0 ⊢
  -- the end
  have fin : ∀ {σ' : L2.St} {H' : Hp} {cells' : List Int} {cur' cnt' acc' : Int} {i : Int}, DrI H q q' k σ' H' cells' cur' cnt' acc' → cells'.length ≤ 63 → 0 ≤ cur' → 0 ≤ cnt' → cnt' ≤ (n + 1 : Nat) → 0 ≤ acc' → acc' < 2147483647 → 0 ≤ i → i < k → Q (.int i) H' := fun {σ' H' cells' cur' cnt' acc' i} I g1 g2 g3 g4 g5 g6 i0 i1 => by
    refine e8 _ (n + 1) _ H' B (hk i i0 i1) (fun _ _ e => e) (fun a u e => ?_) (fun a _ e => e) (fun a u e m => ?_) ⟨hne, hb1, hb2, cells', cur', cnt', acc', I.hq, I.hc, g1, g2, g3, g4, g5, g6⟩ rfl
    · exact I.fr a u (e5 a u e) (fun h => by subst h; rw [hb1] at e; cases e) (fun h => by subst h; rw [hb2] at e; cases e)
    · exact I.fr a u e (fun h => m (.inl h)) (fun h => m (.inr h))
  unfold drawT
  -- st[2] = st[2] + 1
  refine I0.at rfl ⟨cnt, 1, rfl, rfl, I0.set rfl ?_⟩
  have I1 := I0.put (cur' := cur) (cnt' := cnt + 1) (acc' := acc)
  -- the while
  refine ⟨fun m σ' H' => ∃ cells' cur' acc', m = cells'.length ∧ DrI H q q' k σ' H' cells' cur' (cnt + 1) acc' ∧ cells'.length ≤ 63 ∧ 0 ≤ cur' ∧ 0 ≤ acc' ∧ acc' < 2147483647, ⟨_, cells, cur, acc, rfl, I1, hl, c0, a0, a1⟩, ?_⟩
  rintro m σ2 H2 ⟨cells2, cur2, acc2, rfl, I2, l2, c2, a2, b2⟩
  -- behind the while
  have out : ∀ H3 : Hp, DrI H q q' k σ2 H3 cells2 cur2 (cnt + 1) acc2 → (tSeq (tIfS (zCmp (fun i j => decide (j < i)) (zIx K 1) (zC 0))
      (tSeq (tAsg (zMod (zInt (zIx K 1)) (tVar 1)) (gName 3)) (tSeq (zSt 1 (zDiv (zIx K 1) (tVar 1))) (tRet (tVar 3))))
      tNext)
    (tSeq (tAsg (zMod (zInt (zPow (zAdd (zAdd (zIx K 3) (zMul (zC 7919) (zIx K 2))) (zC 104729)) (zC 5))) (zC 2147483629)) (gName 4))
      (tRet (zMod (zMod (zInt (zPow (zAdd (zAdd (zMul (tVar 4) (zC 48271)) (zMul (zC 30011) (zIx K 2))) (zC 29)) (zC 3))) (zC 1000000007)) (tVar 1))))) { nx := fun _ H' => Q .non H', rt := Q } σ2 H3 := fun H3 I3 => by
    refine I3.at rfl ⟨cur2, 0, rfl, rfl, _, rfl, ?_⟩
    have hk1 : k < 1073741824 := Int.lt_trans k1 (by decide)
    dsimp only
    by_cases hp : 0 < cur2
    · rw [if_pos (decide_eq_true hp)]
      refine I3.at rfl (.inl ⟨cur2, rfl, _, I3.s1, cur2, k, rfl, rfl, k0, ?_⟩)
      have I4 := I3.name (i := 3) (v := .int (cur2 % k)) (by decide)
      refine I4.at rfl ⟨_, I4.s1, cur2, k, rfl, rfl, ⟨k0, hk1⟩, I4.set rfl ?_⟩
      have I5 := I4.put (cur' := cur2 / k) (cnt' := cnt + 1) (acc' := acc2)
      refine ⟨_, by rw [List.getElem?_set_self (by rw [I3.sl]; decide)], ?_⟩
      exact fin I5 l2 (Int.ediv_nonneg c2 (Int.le_of_lt k0)) (by omega) (by omega) a2 b2 (Int.emod_nonneg _ (Int.ne_of_gt k0)) (Int.emod_lt_of_pos _ k0)
    · rw [if_neg (by rw [decide_eq_true_eq]; exact hp)]
      have small : ∀ x : Int, 0 ≤ x → x < 18446744073709551616 → x.natAbs < 2 ^ 64 := fun x h1 h2 => by
        have : (2 : Nat) ^ 64 = 18446744073709551616 := by decide
        omega
      refine I3.at rfl (I3.at rfl ⟨7919, cnt + 1, rfl, rfl, .inl (by decide), acc2, 7919 * (cnt + 1), rfl, rfl, _, 104729, rfl, rfl, acc2 + 7919 * (cnt + 1) + 104729, 5, rfl, rfl, ⟨by decide, by decide, small _ (by omega) (by omega)⟩, .inl ⟨_, rfl, _, 2147483629, rfl, rfl, (show (0 : Int) < 2147483629 by decide), ?_⟩⟩)
      dsimp only
      generalize hM : ((acc2 + 7919 * (cnt + 1) + 104729) ^ (Int.toNat 5)) % 2147483629 = M
      have m0 : 0 ≤ M := by rw [← hM]; exact Int.emod_nonneg _ (by decide)
      have m1 : M < 2147483629 := by rw [← hM]; exact Int.emod_lt_of_pos _ (by decide)
      have I4 := I3.name (i := 4) (v := .int M) (by decide)
      refine ⟨_, by rw [List.getElem?_set_self (by rw [I3.sl]; decide)], M, 48271, rfl, rfl, .inr (by decide), ?_⟩
      refine I4.at rfl ⟨30011, cnt + 1, rfl, rfl, .inl (by decide), M * 48271, 30011 * (cnt + 1), rfl, rfl, _, 29, rfl, rfl, M * 48271 + 30011 * (cnt + 1) + 29, 3, rfl, rfl, ⟨by decide, by decide, small _ (by omega) (by omega)⟩, .inl ⟨_, rfl, _, 1000000007, rfl, rfl, (show (0 : Int) < 1000000007 by decide), _, I4.s1, _, k, rfl, rfl, k0, ?_⟩⟩
      exact fin I4 l2 c2 (by omega) (by omega) a2 b2 (Int.emod_nonneg _ (Int.ne_of_gt k0)) (Int.emod_lt_of_pos _ k0)
  refine I2.at rfl ⟨rfl, _, rfl, ?_⟩
  dsimp only
  by_cases hz : cur2 = 0
  · subst hz
    rw [if_pos (decide_eq_true rfl)]
    refine I2.at rfl ⟨Nat.zero_le _, fun p hp => ?_⟩
    have I3 := I2.junk (u := .lst []) hp
    refine ⟨_, .list [], .lst (.inl (.inl I3.hc)) dp_cells, .lst (.inl (.inl upd_same)) .nil, shaped_cells cells2, shaped_cells [], _, rfl, ?_⟩
    rw [eqv_cells]
    dsimp only
    cases cells2 with
    | nil => rw [if_neg (by simp)]; exact out _ I3
    | cons x cells3 =>
      rw [if_pos (by simp)]
      refine ⟨fun σ' H' => ∃ cur' acc', DrI H q q' k σ' H' cells3 cur' (cnt + 1) acc' ∧ 0 ≤ cur' ∧ 0 ≤ acc' ∧ acc' < 2147483647, fun σ' H' ⟨cur', acc', I, g1, g2, g3⟩ => ⟨cells3.length, Nat.lt_succ_self _, cells3, cur', acc', rfl, I, by simp at l2; omega, g1, g2, g3⟩, ?_⟩
      refine I3.at rfl ⟨.inl ⟨rfl, _, .inl (.inl I3.hc)⟩, q', _, 0, 0, .int x, rfl, rfl, I3.hc, by decide, by decide, ?_, rfl, ?_⟩
      · simp [seqIndex?]
      have I4 := I3.rest (cells' := cells3)
      refine ⟨x, rfl, ?_⟩
      generalize hX : (if x < 0 then -x else x) = X
      have x0 : 0 ≤ X := by rw [← hX]; split <;> omega
      have I5 := I4.name (i := 2) (v := .int X) (by decide)
      have g5 : (σ2.set 2 (some (.int X)))[2]? = some (some (.int X)) := by rw [List.getElem?_set_self (by rw [I2.sl]; decide)]
      refine I5.at rfl ⟨acc2, 8191, rfl, rfl, .inr (by decide), _, g5, acc2 * 8191, X, rfl, rfl, _, 3, rfl, rfl, .inl ⟨_, rfl, _, 2147483647, rfl, rfl, (show (0 : Int) < 2147483647 by decide), I5.set rfl ?_⟩⟩
      dsimp only [List.set]
      generalize hM : (acc2 * 8191 + X + 3) % 2147483647 = M
      have m0 : 0 ≤ M := by rw [← hM]; exact Int.emod_nonneg _ (by decide)
      have m1 : M < 2147483647 := by rw [← hM]; exact Int.emod_lt_of_pos _ (by decide)
      have I6 := I5.put (cur' := 0) (cnt' := cnt + 1) (acc' := M)
      refine ⟨_, g5, 10, 18, rfl, rfl, ⟨by decide, by decide, by decide⟩, X, _, rfl, rfl, _, rfl, ?_⟩
      dsimp only
      by_cases hg : (10 : Int) ^ (Int.toNat 18) ≤ X
      · rw [if_pos (decide_eq_true hg)]
        refine ⟨_, g5, I6.set rfl ?_⟩
        exact ⟨X, M, I6.put, x0, m0, m1⟩
      · rw [if_neg (by simp only [decide_eq_true_eq]; exact hg)]
        exact I6.set (i := 1) (j := 1) (v := .int 0) (Q := fun σ' H' => ∃ cur' acc', DrI H q q' k σ' H' cells3 cur' (cnt + 1) acc' ∧ 0 ≤ cur' ∧ 0 ≤ acc' ∧ acc' < 2147483647) rfl ⟨0, M, I6.put, Int.le_refl _, m0, m1⟩
  · rw [if_neg (by rw [decide_eq_true_eq]; exact fun h => hz (V.int.inj h))]
    exact out _ I2
end
end RH

set_option Elab.async false
set_option linter.all false
set_option maxRecDepth 100000
set_option maxHeartbeats 1000000
/-! the data layer, part m: loops over an owned list; one of two readings; repr, with no repr going on around; law -/
namespace RH
open PySem PySem.Spec PyProof.Rows L2

section
variable {X : Cx} {e a b : Expr} {es : List Expr} {st : Stmt} {w w' we wa wb : DTE} {ws : DTA} {u u' : DTS} {p pos : Pos} {x : Str}

/-! ### one of two readings -/
theorem PE.or {t t' : TE} (h : PE X e t) (h' : PE X e t') : PE X e (fun σ H Q => t σ H Q ∨ t' σ H Q) := ⟨fun pins s σ H Q I q => q.elim (h.run pins s σ H Q I) (h'.run pins s σ H Q I)⟩
def dOr2 (w w' : DTE) : DTE := fun d Ψ => w d Ψ ∨ w' d Ψ
theorem de_or2 (h : DE X e w) (h' : DE X e w') : DE X e (dOr2 w w') := by
  obtain ⟨t, h1, h2⟩ := h
  obtain ⟨t', h3, h4⟩ := h'
  exact ⟨_, PE.or h1 h3, fun c d T σ H Ψ Q F hw k => hw.elim (fun hw => .inl (h2 c d T σ H Ψ Q F hw k)) fun hw => .inr (h4 c d T σ H Ψ Q F hw k)⟩

/-! ### in as a test -/
theorem dt_inS (ha : DE X a wa) (hb : DE X b wb) (hm : behindInMarks .In b = false) : DT X (.Compare a [.In] [b] pos) (dTest (dOp (gInS id) wa wb)) := dt_cmp op_in_sign (fun c d T σ H x y sx sy Ψ Q F ⟨ch, z, e1, e2, q⟩ k => by
  subst e1 e2
  obtain ⟨h1, h2⟩ := two_of F rfl rfl
  exact ⟨ch, z, h1, h2, k _ _ _ _ (F.drop.drop.push (x := .bl _) fun _ => rfl) q⟩) ha hb hm
theorem dt_inG {l : List V} {y : Str} {py : Pos} {q : Addr} (ha : DE X a wa) (hb : PE X (.Name y py) (tC (.ref q))) (hq : ∀ H, SqL X.K H q l ∨ SqT X.K H q l) (hf : l.all flatV = true) (hm : behindInMarks .In (.Name y py) = false := by rfl) : DT X (.Compare a [.In] [.Name y py] pos) (dTest (dInG l wa)) := by
  obtain ⟨t, h1, h2⟩ := ha
  refine ⟨_, pt_cmpR op_in_seq h1 hb hm, fun c d T σ H Ψ Q F hw k => h2 c d T σ H _ _ F hw fun s d1 v H1 F1 ⟨z, u, e1, e2, b, eb, w1⟩ => ?_⟩
  obtain ⟨g1, g2⟩ := (F1.look List.mem_cons_self e1).flat e2
  subst g1
  exact ⟨q, l, rfl, hq H1, g2, hf, inV v l, rfl, by cases eb; exact k _ d1 H1 F1.drop w1⟩

/-! ### != of texts of any kind -/
def gNeS : DR2 := fun sx sy d Ψ => ∃ y z : Str, sx = .val (.str y) ∧ sy = .val (.str z) ∧ Ψ (.val (.bl (!decide (y = z)))) d
theorem dt_neS (ha : DE X a wa) (hb : DE X b wb) : DT X (.Compare a [.NotEq] [b] pos) (dTest (dOp gNeS wa wb)) := dt_cmp op_ne (fun c d T σ H x y sx sy Ψ Q F ⟨i, j, e1, e2, q⟩ k => by
  subst e1 e2
  obtain ⟨h1, h2⟩ := two_of F rfl rfl
  have h1 : x = .str i := h1
  have h2 : y = .str j := h2
  subst h1 h2
  refine ⟨rfl, ?_⟩
  have : (!decide (V.str i = V.str j)) = (!decide (i = j)) := by simp
  rw [this]
  exact k _ _ _ _ (F.drop.drop.push (x := .bl _) fun _ => rfl) q) ha hb (nomark _)

/-! ### for x in an owned list that stays as it is -/
def dForO (we : DTE) (g : DTG) (wb : DTS) : DTS := fun d Φ => we d fun s d1 => ∃ k l, s = .own k ∧ ∃ W : Nat → DS → Prop, W 0 d1 ∧ (∀ i d, W i d → d.o[k]? = some (true, l)) ∧ (∀ i x d, l[i]? = some x → W i d → g (.val x) d fun d2 => wb d2 { Φ with nx := fun d3 => W (i + 1) (d3.trim d1.o.length), ct := fun d3 => W (i + 1) (d3.trim d1.o.length), bk := Φ.nx }) ∧ ∀ d, W l.length d → Φ.nx d
theorem ds_forO {tg iter : Expr} {body : List Stmt} {g : DTG} {wb : DTS} {vs : List Nat} (hp : PassesOwn (model X.prog X.w) X.A X.env X.xe) (hc : X.calm = true) (hi : DE X iter we) (hg : DG X tg vs g) (hb : DSs X body wb)
    (hs : ∀ x, foldedSetIterable iter X.env x = pure x := by intro _; rfl) : DSt X (.For tg iter body [] pos) (dForO we g wb) := by
  obtain ⟨ti, i1, i2⟩ := hi
  obtain ⟨tg', g1, g2⟩ := hg
  obtain ⟨tb, b1, b2⟩ := hb
  refine ⟨_, ps_for hp hc (pi_seq i1) g1 b1 hs, fun c d T σ H Φ E F hw C => i2 c d T σ H _ _ F hw fun s d1 v H1 F1 w1 => ?_⟩
  obtain ⟨j, l, es, W, w0, same, step, fin⟩ := w1
  subst es
  obtain ⟨a, ev⟩ : ∃ a, v = .ref a := by
    obtain ⟨B, A, C, sl, tm⟩ := F1
    obtain ⟨a, _, ev⟩ : ∃ p, A[j]? = some p ∧ v = .ref p := tm _ List.mem_cons_self
    exact ⟨a, ev⟩
  subst ev
  have look : ∀ (i : Nat) (d' : DS) (σ' : L2.St) (H' : Hp), Fit X.K c d' ((.ref a, .own j) :: T) σ' H' → W i d' → ∃ us, H' a = some (.lst us) ∧ us.length = l.length ∧ ∀ (i : Nat) (x : D) (v : V), l[i]? = some x → us[i]? = some v → Fit X.K c d' ((v, .val x) :: (.ref a, .own j) :: T) σ' H' := fun i d' σ' H' F' wi => by
    obtain ⟨B, A, C, sl, tm⟩ := F'
    obtain ⟨q, hq, ev⟩ : ∃ p, A[j]? = some p ∧ V.ref a = .ref p := tm _ List.mem_cons_self
    cases ev
    obtain ⟨_, _, us, hu, ru, _⟩ := C.ow j a _ hq (same i d' wi)
    refine ⟨us, hu, ru.len, fun i x v hx hv => ?_⟩
    obtain ⟨v', hv', rv⟩ := ru.get hx
    rw [hv] at hv'
    cases hv'
    exact ⟨B, A, C, sl, Tm.cons (s := .val x) rv tm⟩
  obtain ⟨us0, hu0, _, _⟩ := look 0 d1 σ H1 F1 w0
  refine .inr ⟨a, rfl, .inl ⟨⟨us0, .inl (.inl hu0)⟩, ?_⟩⟩
  refine ⟨fun i m σ' H' => m + i = l.length ∧ ∃ d', Fit X.K c d' ((.ref a, .own j) :: T) σ' H' ∧ W i d', ⟨l.length, by omega, d1, F1, w0⟩, fun i m σ' H' hW => ?_⟩
  obtain ⟨em, d', F', wi'⟩ := hW
  obtain ⟨us, hu, hul, hit⟩ := look i d' σ' H' F' wi'
  by_cases hlt : i < l.length
  · have hx := List.getElem?_eq_getElem hlt
    have hv := List.getElem?_eq_getElem (show i < us.length by omega)
    refine .inr ⟨⟨us, _, .inl (.inl hu), hv⟩, fun σ'' H'' => ∃ d'', Fit X.K c d'' ((.ref a, .own j) :: T) σ'' H'' ∧ W (i + 1) d'', fun σ'' H'' ⟨d'', F'', w''⟩ => ⟨m - 1, by omega, by omega, d'', F'', w''⟩, fun v H'' y => ?_⟩
    obtain ⟨e, y⟩ := y
    subst e
    have hv' := y us (.inl (.inl hu))
    refine g2 c d' _ σ' H'' v _ _ _ (hit i _ v hx hv') (step i _ d' hx wi') fun d2 σ2 H2 F2 _ w2 => ?_
    refine b2 c d2 _ σ2 H2 _ _ F2 w2 ⟨fun d3 σ3 H3 F3 w3 => ⟨d3.trim d1.o.length, F3.trim fun p hp k e => F1.idx hp e, w3⟩, fun s d3 v3 σ3 H3 F3 w3 => C.rt s d3 v3 σ3 H3 (F3.sub fun p hp => ?_) w3, fun d3 σ3 H3 F3 w3 => C.nx d3 σ3 H3 F3.drop w3, fun d3 σ3 H3 F3 w3 => ⟨d3.trim d1.o.length, F3.trim fun p hp k e => F1.idx hp e, w3⟩⟩
    rcases List.mem_cons.mp hp with z | z
    · subst z; exact List.mem_cons_self
    · exact List.mem_cons_of_mem _ (List.mem_cons_of_mem _ z)
  · have e : i = l.length := by omega
    subst e
    exact .inl ⟨⟨us, .inl (.inl hu), by omega⟩, C.nx d' σ' H' F'.drop (fin d' wi')⟩

/-! ### repr -/
def gRepr : DRC := fun ss d Ψ => ∃ s z, ss = [s] ∧ look d s = some z ∧ (∃ l, z = .lst l ∨ z = .tup l) ∧ plain z = true ∧ (py z).showable = true ∧ (py z).hasDict = false ∧ (py z).depth ≤ 40 ∧ (py z).shown.length ≤ sizeLine ∧ Ψ (.val (.str (py z).shown)) d
theorem call_reprD (hg : X.A.guards = some []) (hu : X.A.units + 64 < cLine) : CallR X (.builtin "repr") (fun vs H Q => ∃ a d, vs = [.ref a] ∧ Dp X.K H (.ref a) d ∧ d.showable = true ∧ d.hasDict = false ∧ d.depth ≤ 40 ∧ d.shown.length ≤ sizeLine ∧ Q (.str d.shown) H) := by
  intro pins s σ H vs us Q I r h
  obtain ⟨a, d, rfl, hd, h1, h2, h3, h4, q⟩ := h
  obtain ⟨u, rfl, rx⟩ := vals1 r
  obtain ⟨as, rd⟩ := Dp.reads I d _ u hd rx
  cases rx
  exact PySem.repr_of_reads' rd h1 (fun z => by rw [h2] at z; cases z) hg (by omega) (fun _ _ e => e) (fun h' u tk hk => ⟨.str d.shown, H, I.kept (t' := tk) hk, ⟨_, rfl⟩, q⟩) h4
theorem snd_repr {K : PySem.W.Frag} : SndC K (fun vs H Q => ∃ a d, vs = [.ref a] ∧ Dp K H (.ref a) d ∧ d.showable = true ∧ d.hasDict = false ∧ d.depth ≤ 40 ∧ d.shown.length ≤ sizeLine ∧ Q (.str d.shown) H) gRepr := fun c d TT T σ H Ψ Q F ⟨s, z, e, e1, ⟨l, hz⟩, h1, h2, h3, h4, h5, q⟩ k => by
  obtain ⟨v, rfl⟩ := one_arg' e
  have hr := F.look List.mem_cons_self e1
  have hd := RD.dp _ _ hr h1
  have fin : Q (.str (py z).shown) H := k _ _ _ _ (F.drop.push (x := .str (py z).shown) fun _ => rfl) q
  rcases hz with rfl | rfl
  · obtain ⟨a, us, g1, _⟩ := hr
    subst g1
    exact ⟨a, _, rfl, hd, h2, h3, h4, h5, fin⟩
  · obtain ⟨a, us, g1, _⟩ := hr
    subst g1
    exact ⟨a, _, rfl, hd, h2, h3, h4, h5, fin⟩
theorem de_repr (hG : X.A.guards = some []) (hu : X.A.units + 64 < cLine) (hg : Gl X "repr") (hm : X.mg "repr" = none) (ha : DA X [e] ws) (he : starEach [e] X.env = (false, eval e X.env) :: starEach [] X.env := by rfl) (hpl : (backTo pos (starEach [] X.env)).any (·.1) = false := by rfl) : DE X (.Call (.Name "repr" p) [e] [] pos) (dCB gRepr ws) :=
  de_callB (call_reprD hG hu) snd_repr hg hm (by decide +kernel) ha (by decide) (by decide) he hpl
end

/-! ### defs called with no repr going on around -/
structure FnG (P : Program) (w : World) (K : PySem.W.Frag) (mg : Str → Option Value) (base : Heap) (CX : CXT) (k : Nat) (f : Addr) (fd : FuncData) (ps : List Str) (sp : Sp) : Prop where
  len : ∀ vs H Q E, sp vs H Q E → vs.length = ps.length
  run : ∀ (A : Around) (outer : List Env) (s : Shared) (H : Hp) (args : Args) (us : List Value) (vs : List V) (Q : VK) (E : XK), Room k A → A.guards = some [] → Env0 P w K mg base A outer s H → BindsTo s fd args (ps.zip us) → Vals vs us → sp vs H Q E →
    codeAny (model P w) A (.call (.ref f) args) (CR CX outer P w H s Q E) s
theorem fn_ofG {CX : CXT} {P : Program} {w : World} {K : PySem.W.Frag} {mg : Str → Option Value} {base : Heap} {k : Nat} {f : Addr} {name qual : Str} {params : Arguments} {body : List Stmt} {scope : Scope} {dV kV doc pm cdv ct oc : Value} {an od : Option Addr}
    {osl : Array (Option Value)} {N ps : List Str} {sp : Sp} (lk : K.lookup f = some ⟨oc, od, .func (PySem.W.fnOf name qual params body scope dV kV doc pm an cdv ct), osl⟩) (hcd : PySem.W.codeIn K cdv qual = true) (S : FnScope N ps scope)
    (len : ∀ vs H Q E, sp vs H Q E → vs.length = ps.length)
    (hbody : ∀ (A : Around) (outer : List Env) (s : Shared) (H : Hp) (vs : List V) (Q : VK) (E : XK), Room k (A.deeper (envOfC qual scope s.heap.objs.size f cdv)) → A.guards = some [] → sp vs H Q E →
      ∃ t, PSs (cxOf CX P w K mg base N qual scope f cdv A outer s H E) body t ∧ t { nx := fun _ H' => Q .non H', rt := Q } (L2.start N vs) H) :
    FnG P w K mg base CX (k + 1) f (PySem.W.fnOf name qual params body scope dV kV doc pm an cdv ct) ps sp := by
  refine ⟨len, fun A outer s H args us vs Q E hr hG e0 hb r hsp => ?_⟩
  have hl := len _ _ _ _ hsp
  have KX : K.In s.heap := e0.mod.kin.keeps fun b o e => (e0.bs b o e).1
  have lim : s.heap.NoLimit := e0.mod.nolimit.keeps fun b o e => (e0.bs b o e).1
  have hkind : ∀ y ∈ ps.zip us, scope.names.lookup y.1 = some .local ∨ (scope.names.lookup y.1 = some .cell ∧ ((cellsFrom (s.heap.objs.size + 1) scope.names []).lookup y.1).isSome = true) := fun ⟨n, v⟩ hy => by
    rcases S.par n (List.of_mem_zip hy).1 with q | q
    · exact .inl q
    · exact .inr ⟨q, PySem.W.cellsFrom_some _ _ _ (.inl q)⟩
  refine codeAny_call_function hr.depth (KX _ _ lk) rfl S.co S.gen rfl (PySem.W.codeRec_of KX hcd) (hb _ _ _ _ ?_)
  refine wpAny_newFunctionEnv_cells S.kind hkind fun env he s1 x => ?_
  subst he
  refine ⟨lim.keeps x.toInCall.keep, codeAny_func ?_⟩
  obtain ⟨t, ht, hq⟩ := hbody A outer s H vs Q E (hr.deeper _) hG hsp
  have I : Inv (cxOf CX P w K mg base N qual scope f cdv A outer s H E) [] (L2.start N vs) H s1 := inv_start S hr.hd e0 hl r x
  refine wpAny_mono (ht.run [] s1 (L2.start N vs) H _ I hq) (fun fl s' hs => ?_) fun e s' hs => hs
  have fin : ∀ {σ' : L2.St} {H' : Hp} {v : V} {u : Value}, Inv (cxOf CX P w K mg base N qual scope f cdv A outer s H E) [] σ' H' s' → L2.RelV v u → Q v H' → CE outer P w H s Q u s' :=
    fun {σ' H' v u} J rv q => ⟨v, H', J.os, J.bare, J.base, J.hok, rv, q⟩
  cases fl with
  | ret u =>
    obtain ⟨v, σ', H', J, rv, q⟩ := hs
    exact fin J rv q
  | next =>
    obtain ⟨σ', H', J, q⟩ := hs
    exact fin (v := V.non) (u := Value.none) J rfl q
  | brk =>
    obtain ⟨_, _, _, q⟩ := hs
    exact False.elim q
  | cont =>
    obtain ⟨_, _, _, q⟩ := hs
    exact False.elim q
theorem Fun.okG {P : Program} {w : World} {K : PySem.W.Frag} {mg : Str → Option Value} {base : Heap} {x qual : Str} {st : Stmt} {f : Addr} {fd : FuncData} {N ps : List Str} {k : Nat} {sp : Sp} (F : L2.Fun K x qual st f fd) (S : FnScope N ps (defScope st)) (len : ∀ vs H Q E, sp vs H Q E → vs.length = ps.length)
    (hbody : ∀ (cdv : Value) (A : Around) (outer : List Env) (s : Shared) (H : Hp) (vs : List V) (Q : VK) (E : XK), Room k (A.deeper (envOfC qual (defScope st) s.heap.objs.size f cdv)) → A.guards = some [] → sp vs H Q E →
      ∃ t, PSs (cxOf CX0 P w K mg base N qual (defScope st) f cdv A outer s H E).nox (defBody st) t ∧ t { nx := fun _ H' => Q .non H', rt := Q } (L2.start N vs) H) : FnG P w K mg base CX0 (k + 1) f fd ps sp := by
  obtain ⟨oc, od, kV, doc, pm, an, cdv, ct, osl, rfl, lk, hcd⟩ := F.ex
  refine fn_ofG lk hcd S len fun A outer s H vs Q E hr hG hsp => ?_
  obtain ⟨t, h, q⟩ := hbody cdv A outer s H vs Q E hr hG hsp
  exact ⟨t, h.nox, q⟩
section
variable {X : Cx} {CX : CXT} {k : Nat} {f : Addr} {fd : FuncData} {ps : List Str} {sp : Sp} {E : XK} {x : Str} {p pos : Pos} {e : Expr} {es : List Expr} {t : TA} {wa : DTA}
theorem pe_callG (F : FnG X.prog X.w X.K X.mg X.base CX k f fd ps sp) (hr : Room k X.A) (hG : X.A.guards = some []) (hg : Gl X x) (hm : X.mg x = some (.ref f)) (hk : PySem.W.keepIn X.K (.ref f) = true) (hb : Binds X.K fd ps []) (hx : Passes CX X E)
    (ha : PA X (e :: es) t) (hdb : (x == ("__debug__" : Str)) = false := by decide) (he : starEach (e :: es) X.env = (false, eval e X.env) :: starEach es X.env := by rfl) (hpl : (backTo pos (starEach es X.env)).any (·.1) = false := by rfl) :
    PE X (.Call (.Name x p) (e :: es) [] pos) (tCall sp [] E t) := by
  refine ⟨fun pins s σ H Q I h => ?_⟩
  refine wpAny_Call_Name_kw (ld_glob I hg hm ?_ hdb)
  refine PySem.W.callWith_K (h₀ := X.base) I.ok.mod.kin hk (thn (ha.run pos pins s σ H _ I h) fun us s1 ⟨vs, H1, I1, r, q⟩ => ⟨I1.kIn, ?_⟩) he hpl
  have h : sp (vs ++ []) H1 Q E := q
  rw [List.append_nil] at h
  have hl := F.len _ _ _ _ h
  have hb' := hb s1 us I1.kIn (by rw [List.append_nil, ← r.length]; exact hl)
  rw [List.append_nil] at hb'
  refine wpAny_call (codeAny_mono (F.run X.A X.stack s1 H1 ⟨us, []⟩ us vs Q E hr hG I1.env0 hb' r h) fun r s' hq => ?_)
  cases r with
  | error e => exact hx pins σ H1 s1 e s' I1 hq
  | ok fl =>
    cases fl with
    | ret u => exact I1.after hq
    | next => exact False.elim hq
    | brk => exact False.elim hq
    | cont => exact False.elim hq
structure DefOG (P : Program) (w : World) (K : PySem.W.Frag) (mg : Str → Option Value) (base : Heap) (x : Str) (ps : List Str) (k : Nat) (hs : Bool) (ar : Nat) (m : OM) (f : Addr) (fd : FuncData) : Prop where
  gl : mg x = some (.ref f)
  kp : PySem.W.keepIn K (.ref f) = true
  bd : Binds K fd ps []
  ok : FnG P w K mg base CX0 k f fd ps (spO K hs ar m)
theorem de_callOG {hs : Bool} {ar : Nat} {m : OM} (D : DefOG X.prog X.w X.K X.mg X.base x ps k hs ar m f fd) (hr : Room k X.A) (hG : X.A.guards = some []) (hg : Gl X x) (ha : DA X (e :: es) wa)
    (hdb : (x == ("__debug__" : Str)) = false := by decide) (he : starEach (e :: es) X.env = (false, eval e X.env) :: starEach es X.env := by rfl) (hpl : (backTo pos (starEach es X.env)).any (·.1) = false := by rfl) : DE X (.Call (.Name x p) (e :: es) [] pos) (dCallO hs ar m wa) := by
  obtain ⟨t, h1, h2⟩ := ha
  exact ⟨_, pe_callG D.ok hr hG hg D.gl D.kp D.bd pass0 h1 hdb he hpl, snd_callO h2⟩
end
end RH

set_option Elab.async false
set_option linter.all false
set_option maxRecDepth 100000
set_option maxHeartbeats 2000000
/-! the data layer, part n: sorted of tuples whose first unlike items are of one kind -/
namespace RH
open PySem PySem.Spec PyProof.Rows PySem.W PySem.SeqAt

/-! ### data that can be compared: the first items that are not equal are of one kind -/
mutual
def cmpb : PyData → PyData → Bool
  | .bool _, .bool _ => true
  | .int _, .int _ => true
  | .str _, .str _ => true
  | .tuple xs, .tuple ys => cmpbAll xs ys
  | _, _ => false
def cmpbAll : List PyData → List PyData → Bool
  | x :: xs, y :: ys => if PyData.eqv x y = true then decide (keyToks x = keyToks y) && cmpbAll xs ys else cmpb x y
  | [], _ => true
  | _ :: _, [] => true
end
theorem cmpbAll_yes {x y : PyData} {xs ys : List PyData} (h : cmpbAll (x :: xs) (y :: ys) = true) (e : PyData.eqv x y = true) : keyToks x = keyToks y ∧ cmpbAll xs ys = true := by
  rw [cmpbAll, if_pos e, Bool.and_eq_true] at h
  exact ⟨of_decide_eq_true h.1, h.2⟩
theorem cmpbAll_no {x y : PyData} {xs ys : List PyData} (h : cmpbAll (x :: xs) (y :: ys) = true) (e : PyData.eqv x y = false) : cmpb x y = true := by
  rw [cmpbAll, if_neg (by rw [e]; exact Bool.false_ne_true)] at h
  exact h
mutual
theorem toksC : ∀ (x y : PyData), cmpb x y = true → PyData.eqv x y = false → ∀ l m, PyProof.Rows.lexLt itemOrd (keyToks x ++ l) (keyToks y ++ m) = PyProof.Rows.lexLt itemOrd (keyToks x) (keyToks y)
  | .none, y, h => by cases y <;> simp [cmpb] at h
  | .bool a, y, h => by
    cases y with
    | bool b =>
      intro e l m
      have hne : a ≠ b := fun q => by subst q; simp [PyData.eqv] at e
      simp only [keyToks, List.cons_append, List.nil_append]
      refine lex_atom (fun q => hne ?_) l m
      have q' := Sum.inl.inj q
      cases a <;> cases b <;> simp_all
    | _ => exact absurd h (by simp [cmpb])
  | .int a, y, h => by
    cases y with
    | int b =>
      intro e l m
      have hne : a ≠ b := fun q => by subst q; simp [PyData.eqv] at e
      simp only [keyToks, List.cons_append, List.nil_append]
      exact lex_atom (fun q => hne (Sum.inl.inj q)) l m
    | _ => exact absurd h (by simp [cmpb])
  | .str a, y, h => by
    cases y with
    | str b =>
      intro e l m
      have hne : a ≠ b := fun q => by subst q; simp [PyData.eqv] at e
      simp only [keyToks, List.cons_append, List.nil_append]
      exact lex_atom (fun q => hne (str_of_cps (Sum.inr.inj q))) l m
    | _ => exact absurd h (by simp [cmpb])
  | .list xs, y, h => by cases y <;> simp [cmpb] at h
  | .tuple xs, y, h => by
    cases y with
    | tuple ys =>
      intro e l m
      have t := toksCAll xs ys (by simpa [cmpb] using h) (by simpa [PyData.eqv] using e) l m
      simpa only [keyToks] using t
    | _ => exact absurd h (by simp [cmpb])
  | .dict _, y, h => absurd h (by cases y <;> simp [cmpb])
theorem toksCAll : ∀ (xs ys : List PyData), cmpbAll xs ys = true → PyData.eqvAll xs ys = false → ∀ l m, PyProof.Rows.lexLt itemOrd (keyToksAll xs ++ l) (keyToksAll ys ++ m) = PyProof.Rows.lexLt itemOrd (keyToksAll xs) (keyToksAll ys)
  | [], [], _ => fun e => absurd e (by simp [PyData.eqvAll])
  | [], y :: ys, _ => fun _ l m => by
      simp only [keyToksAll, List.cons_append, List.nil_append]
      exact (lex_atom (by simp) _ _).trans (lex_atom (by simp) _ _).symm
  | x :: xs, [], _ => fun _ l m => by
      simp only [keyToksAll, List.cons_append, List.nil_append]
      exact (lex_atom (by simp) _ _).trans (lex_atom (by simp) _ _).symm
  | x :: xs, y :: ys, h => by
    rw [eqv_all_cons, toks_all_cons, toks_all_cons]
    cases hx : PyData.eqv x y with
    | true =>
      obtain ⟨a1, b1⟩ := cmpbAll_yes h hx
      rw [a1, Bool.true_and]
      intro e l m
      have b2 := toksCAll xs ys b1 e l m
      simp only [List.cons_append, List.append_assoc]
      exact (lex_self (O := itemOrd) _ _ _).trans ((lex_pre _ _ _).trans (b2.trans ((lex_pre _ _ _).symm.trans (lex_self (O := itemOrd) _ _ _).symm)))
    | false =>
      rw [Bool.false_and]
      intro _ l m
      have a2 := toksC x y (cmpbAll_no h hx) hx
      simp only [List.cons_append, List.append_assoc]
      exact (lex_self (O := itemOrd) _ _ _).trans ((a2 _ _).trans ((a2 _ _).symm.trans (lex_self (O := itemOrd) _ _ _).symm))
end
theorem ltC_yes {x y : PyData} {xs ys : List PyData} (h : keyToks x = keyToks y) : PyProof.Rows.lexLt itemOrd (keyToksAll (x :: xs)) (keyToksAll (y :: ys)) = PyProof.Rows.lexLt itemOrd (keyToksAll xs) (keyToksAll ys) := by
  rw [toks_all_cons, toks_all_cons, h]
  exact (lex_self (O := itemOrd) _ _ _).trans (lex_pre _ _ _)
theorem ltC_no {x y : PyData} {xs ys : List PyData} (h : cmpb x y = true) (e : PyData.eqv x y = false) : PyProof.Rows.lexLt itemOrd (keyToksAll (x :: xs)) (keyToksAll (y :: ys)) = dataLt x y := by
  rw [toks_all_cons, toks_all_cons]
  exact (lex_self (O := itemOrd) _ _ _).trans (toksC x y h e _ _)
theorem firstLtC : ∀ (xs ys : List PyData), cmpbAll xs ys = true →
    firstLt (pairEq xs ys) (fun j => dataLt (xs.getD j .none) (ys.getD j .none)) (decide (xs.length < ys.length)) (List.range (min xs.length ys.length)) = PyProof.Rows.lexLt itemOrd (keyToksAll xs) (keyToksAll ys)
  | [], [], _ => by simp [firstLt, keyToksAll, lex_irrefl]
  | [], y :: ys, _ => by
    rw [toks_all_cons]
    simp only [keyToksAll]
    rw [lex_diff (O := itemOrd) (by simp)]
    simp [firstLt, itemLt]
  | x :: xs, [], _ => by
    rw [toks_all_cons]
    simp only [keyToksAll]
    rw [lex_diff (O := itemOrd) (by simp)]
    simp [firstLt, itemLt]
  | x :: xs, y :: ys, h => by
    have em : min (x :: xs).length (y :: ys).length = min xs.length ys.length + 1 := by
      rw [List.length_cons, List.length_cons]
      omega
    have ed : decide ((x :: xs).length < (y :: ys).length) = decide (xs.length < ys.length) := by
      rw [List.length_cons, List.length_cons]
      exact decide_eq_decide.mpr (by omega)
    rw [em, ed, List.range_succ_eq_map]
    cases hx : PyData.eqv x y with
    | true =>
      obtain ⟨h1, h2⟩ := cmpbAll_yes h hx
      have ih := firstLtC xs ys h2
      rw [firstLt_yes (show pairEq (x :: xs) (y :: ys) 0 = true from hx), firstLt_map, ltC_yes h1, ← ih]
      rfl
    | false =>
      rw [firstLt_no (show pairEq (x :: xs) (y :: ys) 0 = false from hx), ltC_no (cmpbAll_no h hx) hx]
      rfl

/-! ### one value reads as one datum -/
mutual
theorem reads_unique {h : Heap} : ∀ (d d' : PyData) (v : Value) (as as' : List Addr), d.canLay0 = true → d'.canLay0 = true → Reads h v d as → Reads h v d' as' → d = d'
  | .none, _, _, _, _, _, _, r, r' => by cases r; cases r'; rfl
  | .bool _, _, _, _, _, _, _, r, r' => by cases r; cases r'; rfl
  | .int _, _, _, _, _, _, _, r, r' => by cases r; cases r'; rfl
  | .str _, _, _, _, _, _, _, r, r' => by cases r; cases r'; rfl
  | .list xs, d', _, _, _, c1, c2, r, r' => by
    cases r with
    | list h1 h2 h3 h4 =>
      cases r' with
      | list k1 k2 k3 k4 =>
        rw [h1] at k1; cases k1
        rw [h3] at k3; cases k3
        rw [readsAll_unique xs _ _ _ _ (by simpa [PyData.canLay0] using c1) (by simpa [PyData.canLay0] using c2) h4 k4]
      | tuple k1 k2 k3 k4 =>
        rw [h1] at k1; cases k1
        rw [h2] at k2; exact absurd k2 (by decide +kernel)
      | dict k1 k2 k3 k4 k5 => exact absurd c2 (by simp [PyData.canLay0])
  | .tuple xs, d', _, _, _, c1, c2, r, r' => by
    cases r with
    | tuple h1 h2 h3 h4 =>
      cases r' with
      | tuple k1 k2 k3 k4 =>
        rw [h1] at k1; cases k1
        rw [h3] at k3; cases k3
        rw [readsAll_unique xs _ _ _ _ (by simpa [PyData.canLay0] using c1) (by simpa [PyData.canLay0] using c2) h4 k4]
      | list k1 k2 k3 k4 =>
        rw [h1] at k1; cases k1
        rw [h2] at k2; exact absurd k2 (by decide +kernel)
      | dict k1 k2 k3 k4 k5 => exact absurd c2 (by simp [PyData.canLay0])
  | .dict _, d', _, _, _, c1, _, _, _ => absurd c1 (by simp [PyData.canLay0])
theorem readsAll_unique {h : Heap} : ∀ (xs ys : List PyData) (vs : List Value) (as as' : List Addr), PyData.canLayAll0 xs = true → PyData.canLayAll0 ys = true → ReadsAll h vs xs as → ReadsAll h vs ys as' → xs = ys
  | [], _, _, _, _, _, _, r, r' => by cases r; cases r'; rfl
  | x :: xs, [], _, _, _, _, _, r, r' => by cases r'; cases r
  | x :: xs, y :: ys, _, _, _, c1, c2, r, r' => by
    have c1' : x.canLay0 = true ∧ PyData.canLayAll0 xs = true := by simpa [PyData.canLayAll0] using c1
    have c2' : y.canLay0 = true ∧ PyData.canLayAll0 ys = true := by simpa [PyData.canLayAll0] using c2
    cases r with
    | cons h1 h2 =>
      cases r' with
      | cons k1 k2 => rw [reads_unique x y _ _ _ c1'.1 c2'.1 h1 k1, readsAll_unique xs ys _ _ _ c1'.2 c2'.2 h2 k2]
end
theorem dataKindC {h : Heap} {ds : List PyData} (hc : ∀ d ∈ ds, d.canLay0 = true) {v : Value} {d : PyData} {as : List Addr} (hd : d ∈ ds) (r : Reads h v d as) : (dataKind h ds).keyOf v = some (keyToks d) := by
  have q : ∃ d, d ∈ ds ∧ ∃ as, Reads h v d as := ⟨d, hd, as, r⟩
  have e : (dataKind h ds).keyOf v = some (keyToks q.choose) := by
    show (open Classical in if q : ∃ d, d ∈ ds ∧ ∃ as, Reads h v d as then some (keyToks q.choose) else none) = _
    rw [dif_pos q]
  obtain ⟨h1, as', h2⟩ := q.choose_spec
  rw [e, reads_unique _ _ _ _ _ (hc _ h1) (hc _ hd) h2 r]

/-! ### < of such tuples: only the first unlike items are compared -/
section
open AutoSeq1 (wpAny_loadPart')
open MeetsSeq MeetsSeq2 MeetsSeq3 SeqRoads2
set_option maxHeartbeats 4000000 in
theorem tuple_ltF (l b : Addr) (items items2 : Array Value) (n n2 : Nat) (dd dd2 : Option Addr) (sl sl2 : Array (Option Value)) (e r : Nat → Bool) :
    Meets (Builtin.«tuple.__lt__» ⟨[.ref l, .ref b], []⟩)
      (fun A R s => s.heap.get? l = some { cls := .type "tuple", dict := dd, data := .seq items n, slots := sl } ∧ s.heap.get? b = some { cls := .type "tuple", dict := dd2, data := .seq items2 n2, slots := sl2 } ∧
        (∀ j (h1 : j < items.size) (h2 : j < items2.size), EqAt A.in1 s items[j] items2[j] (e j)) ∧ (∀ j (h1 : j < items.size) (h2 : j < items2.size), (∀ i, i < j → e i = true) → e j = false → RcLt A.in1 s items[j] items2[j] (r j)) ∧
        R (.ok (.ret (.bool (firstLt e r (decide (items.size < items2.size)) (List.range (min items.size items2.size)))))) s) :=
  .of_wp fun prog w A R s h => by
    obtain ⟨hp, g, d, tk, os⟩ := s; obtain ⟨hl, hb, he, hr, h⟩ := h
    have f2 := AutoSeq1.sub_tuple_tuple
    have hZ : (items.toList.zip items2.toList).length = min items.size items2.size := by simp
    wp_walk using wpAny_loadPart' hl, wpAny_loadPart' hb, wpAny_forIn_list _ (fun rest b s' => b.1 = none ∧ s' = ⟨hp, g, d, tk, os⟩ ∧ ∃ i, rest = (items.toList.zip items2.toList).drop i ∧ (∀ j, j < i → e j = true) ∧
      R (.ok (.ret (.bool (firstLt e r (decide (items.size < items2.size)) ((List.range (min items.size items2.size)).drop i))))) ⟨hp, g, d, tk, os⟩) _
    case turn =>
      rintro ⟨y, x⟩ rest b s' ⟨hb', rfl, i, hz, hi, hR⟩
      have hlt : i < (items.toList.zip items2.toList).length := by
        rcases Nat.lt_or_ge i (items.toList.zip items2.toList).length with h' | h'
        · exact h'
        · rw [List.drop_of_length_le h'] at hz; cases hz
      have hm : i < min items.size items2.size := hZ ▸ hlt
      have h1 : i < items.size := Nat.lt_of_lt_of_le hm (Nat.min_le_left _ _)
      have h2 : i < items2.size := Nat.lt_of_lt_of_le hm (Nat.min_le_right _ _)
      rw [List.drop_eq_getElem_cons hlt] at hz
      injection hz with hyx hrest
      have hy : y = items[i] := by have := congrArg Prod.fst hyx; simpa using this
      have hx : x = items2[i] := by have := congrArg Prod.snd hyx; simpa using this
      subst hy hx
      have hd : (List.range (min items.size items2.size)).drop i = i :: (List.range (min items.size items2.size)).drop (i + 1) := by simp [List.drop_eq_getElem_cons, hm]
      rw [hd] at hR
      refine wpAny_bind (he i h1 h2 prog w _ _ ?_)
      cases hy : e i with
      | true =>
        rw [firstLt_yes hy] at hR
        wp_walk
        refine ⟨rfl, rfl, i + 1, hrest, fun j hj => ?_, hR⟩
        by_cases hji : j = i
        · subst hji; exact hy
        · exact hi j (by omega)
      | false =>
        rw [firstLt_no hy] at hR
        have hrc : ∀ {Q E : Value → Shared → Prop}, Q (.bool (r i)) ⟨hp, g, d, tk, os⟩ → wpAny (model prog w) A.in1 (richCompare .Lt items[i] items2[i]) Q E ⟨hp, g, d, tk, os⟩ := fun {Q E} q => hr i h1 h2 hi hy prog w E Q q
        clear hr he
        wp_walk using hrc
        exact ⟨_, rfl, hR⟩
    case fin =>
      rintro ⟨b1, b2⟩ s' ⟨hb', rfl, i, hz, hi, hR⟩
      simp only at hb'
      subst hb'
      have hge : min items.size items2.size ≤ i := by
        rcases Nat.lt_or_ge i (items.toList.zip items2.toList).length with h' | h'
        · rw [List.drop_eq_getElem_cons h'] at hz; cases hz
        · exact hZ ▸ h'
      rw [List.drop_of_length_le (by simpa using hge)] at hR
      wp_walk
      exact ⟨_, rfl, by simpa [Builtin.Tuple.tupleCompareSizes, firstLt] using hR⟩
    case h =>
      exact ⟨rfl, rfl, 0, rfl, fun j hj => absurd hj (Nat.not_lt_zero _), by simpa using h⟩
end
section
variable {A : Around} {s : Shared}
theorem RcLt.tuplesF {l b : Addr} {items items2 : Array Value} {e r : Nat → Bool} (hl : s.heap.IsTuple l items) (hb : s.heap.IsTuple b items2) (hu : A.units < cLine)
    (he : ∀ j (h1 : j < items.size) (h2 : j < items2.size), EqAt A.in1 s items[j] items2[j] (e j)) (hr : ∀ j (h1 : j < items.size) (h2 : j < items2.size), (∀ i, i < j → e i = true) → e j = false → RcLt A.in1 s items[j] items2[j] (r j)) :
    RcLt A s (.ref l) (.ref b) (firstLt e r (decide (items.size < items2.size)) (List.range (min items.size items2.size))) := fun prog w E Q h => by
  obtain ⟨⟨cls, dd, data, sl⟩, ho, hc, n, hd⟩ := id hl
  obtain ⟨⟨cls2, dd2, data2, sl2⟩, ho2, hc2, n2, hd2⟩ := id hb
  simp only at hc hd hc2 hd2
  subst hc hd hc2 hd2
  exact richCompare_meets_room (op := .Lt) ⟨_, ho, rfl⟩ ⟨_, ho2, rfl⟩ F.slot_tuple_lt F.entry_tuple_lt (F.args_tuple_lt_2 _ _) (tuple_ltF l b items items2 n n2 dd dd2 sl sl2 e r)
    ⟨ho, ho2, he, hr, show Value.bool (firstLt e r (decide (items.size < items2.size)) (List.range (min items.size items2.size))) ≠ Value.notImplemented ∧ Q (.bool (firstLt e r (decide (items.size < items2.size)) (List.range (min items.size items2.size)))) s from ⟨(fun x => nomatch x), h⟩⟩ hu
theorem call_tuple_ltF {prog : Program} {w : World} {E : Value → Shared → Prop} {Q : Value → Shared → Prop} {l b : Addr} {items items2 : Array Value} {e r : Nat → Bool} (hl : s.heap.IsTuple l items) (hb : s.heap.IsTuple b items2)
    (he : ∀ j (h1 : j < items.size) (h2 : j < items2.size), EqAt A.in1 s items[j] items2[j] (e j)) (hr : ∀ j (h1 : j < items.size) (h2 : j < items2.size), (∀ i, i < j → e i = true) → e j = false → RcLt A.in1 s items[j] items2[j] (r j))
    (h : Q (.bool (firstLt e r (decide (items.size < items2.size)) (List.range (min items.size items2.size)))) s) : wpAny (model prog w) A (call (.builtin "tuple.__lt__") [.ref l, .ref b]) Q E s := by
  obtain ⟨⟨cls, dd, data, sl⟩, ho, hc, n, hd⟩ := id hl
  obtain ⟨⟨cls2, dd2, data2, sl2⟩, ho2, hc2, n2, hd2⟩ := id hb
  simp only at hc hd hc2 hd2
  subst hc hd hc2 hd2
  exact call_meets F.slot_tuple_lt ⟨_, ho, rfl⟩ F.entry_tuple_lt (F.args_tuple_lt_2 _ _) (tuple_ltF l b items items2 n n2 dd dd2 sl sl2 e r) ⟨ho, ho2, he, hr, h⟩
end
theorem ne_noneC {x y : PyData} (h : cmpb x y = true) : x ≠ .none := by
  rintro rfl
  cases y <;> simp [cmpb] at h
theorem canAll_cons {x : PyData} {xs : List PyData} (h : PyData.canLayAll0 (x :: xs) = true) : x.canLay0 = true ∧ PyData.canLayAll0 xs = true := by simpa [PyData.canLayAll0] using h
/-- the items in the place j, all ahead of them equal, can be compared -/
theorem cmpbAll_at : ∀ (xs ys : List PyData), cmpbAll xs ys = true → ∀ j, j < xs.length → j < ys.length → (∀ i, i < j → pairEq xs ys i = true) → pairEq xs ys j = false → cmpb (xs.getD j .none) (ys.getD j .none) = true
  | [], _, _, j, h, _, _, _ => absurd h (Nat.not_lt_zero _)
  | _ :: _, [], _, j, _, h, _, _ => absurd h (Nat.not_lt_zero _)
  | x :: xs, y :: ys, h, 0, _, _, _, e => cmpbAll_no h e
  | x :: xs, y :: ys, h, j + 1, h1, h2, ha, e => by
    have h0 : PyData.eqv x y = true := ha 0 (Nat.succ_pos _)
    exact cmpbAll_at xs ys (cmpbAll_yes h h0).2 j (Nat.lt_of_succ_lt_succ h1) (Nat.lt_of_succ_lt_succ h2) (fun i hi => ha (i + 1) (Nat.succ_lt_succ hi)) e
theorem readsAll_at {h : Heap} : ∀ {xs : List PyData} {vs : List Value} {as : List Addr}, ReadsAll h vs xs as → ∀ j (h1 : j < vs.length), ∃ bs, Reads h vs[j] (xs.getD j .none) bs ∧ j < xs.length
  | [], _, _, r, j, h1 => by cases r; exact absurd h1 (Nat.not_lt_zero _)
  | x :: xs, _, _, r, j, h1 => by
    cases r with
    | cons r rs =>
      cases j with
      | zero => exact ⟨_, r, Nat.succ_pos _⟩
      | succ j =>
        obtain ⟨bs, h2, h3⟩ := readsAll_at rs j (Nat.lt_of_succ_lt_succ h1)
        exact ⟨bs, h2, Nat.succ_lt_succ h3⟩
theorem depth_at : ∀ (xs : List PyData) (j : Nat), (xs.getD j .none).depth ≤ PyData.depthAll xs
  | [], j => by simp [PyData.depth]
  | x :: xs, 0 => by simp only [PyData.depthAll, List.getD_cons_zero]; exact Nat.le_max_left _ _
  | x :: xs, j + 1 => by
    have := depth_at xs j
    simp only [PyData.depthAll, List.getD_cons_succ]
    exact Nat.le_trans this (Nat.le_max_right _ _)
theorem canLay_at : ∀ (xs : List PyData) (j : Nat), PyData.canLayAll0 xs = true → (xs.getD j .none).canLay0 = true
  | [], j, _ => by simp [PyData.canLay0]
  | x :: xs, 0, h => by simpa using (canAll_cons h).1
  | x :: xs, j + 1, h => by simpa using canLay_at xs j (canAll_cons h).2
/-- a < b -/
theorem rcLtC : ∀ (n : Nat) (da db : PyData) (A : Around) (s : Shared) (a b : Value) (as bs : List Addr), da.depth ≤ n → Reads s.heap a da as → Reads s.heap b db bs → da.canLay0 = true → db.canLay0 = true → cmpb da db = true → A.units + da.depth < cLine → RcLt A s a b (dataLt da db) := by
  intro n
  induction n with
  | zero =>
    intro da db A s a b as bs hn ra rb ca cb h hu
    cases da with
    | bool x => cases db with
      | bool y => cases ra; cases rb; intro prog w E Q hq; rw [dataLt_bool] at hq; exact lt_bool hq
      | _ => exact absurd h (by simp [cmpb])
    | int x => cases db with
      | int y => cases ra; cases rb; intro prog w E Q hq; rw [dataLt_int] at hq; exact P.lt_int hq
      | _ => exact absurd h (by simp [cmpb])
    | str x => cases db with
      | str y => cases ra; cases rb; intro prog w E Q hq; rw [dataLt_str] at hq; exact P.lt_str hq
      | _ => exact absurd h (by simp [cmpb])
    | tuple xs => simp only [PyData.depth] at hn; omega
    | _ => exact absurd h (by cases db <;> simp [cmpb])
  | succ n ih =>
    intro da db A s a b as bs hn ra rb ca cb h hu
    cases da with
    | bool x => cases db with
      | bool y => cases ra; cases rb; intro prog w E Q hq; rw [dataLt_bool] at hq; exact lt_bool hq
      | _ => exact absurd h (by simp [cmpb])
    | int x => cases db with
      | int y => cases ra; cases rb; intro prog w E Q hq; rw [dataLt_int] at hq; exact P.lt_int hq
      | _ => exact absurd h (by simp [cmpb])
    | str x => cases db with
      | str y => cases ra; cases rb; intro prog w E Q hq; rw [dataLt_str] at hq; exact P.lt_str hq
      | _ => exact absurd h (by simp [cmpb])
    | tuple xs => cases db with
      | tuple ys =>
        have hal : cmpbAll xs ys = true := by simpa [cmpb] using h
        have ca' : PyData.canLayAll0 xs = true := by simpa [PyData.canLay0] using ca
        have cb' : PyData.canLayAll0 ys = true := by simpa [PyData.canLay0] using cb
        simp only [PyData.depth] at hn hu
        cases ra with
        | @tuple l o vs m _ as₁ h1 h2 h3 h4 =>
          cases rb with
          | @tuple l' o' vs' m' _ bs₁ k1 k2 k3 k4 =>
            have n1 : vs.size = xs.length := by simpa using ReadsAll.length _ _ _ h4
            have n2 : vs'.size = ys.length := by simpa using ReadsAll.length _ _ _ k4
            rw [dataLt_tuple, ← firstLtC xs ys hal, ← n1, ← n2]
            refine RcLt.tuplesF ⟨_, h1, h2, _, h3⟩ ⟨_, k1, k2, _, k3⟩ (by omega) (fun j j1 j2 => ?_) fun j j1 j2 ha hj => ?_
            · have := eqAt_readsAll xs ys A.in1 s vs.toList vs'.toList _ _ h4 k4 ca' cb' (by show A.units + 1 + _ < _; have := Nat.min_le_left (PyData.depthAll xs) (PyData.depthAll ys); omega) j (by simpa using j1) (by simpa using j2)
              simpa using this
            · obtain ⟨b1, r1, l1⟩ := readsAll_at h4 j (by simpa using j1)
              obtain ⟨b2, r2, l2⟩ := readsAll_at k4 j (by simpa using j2)
              have d1 := depth_at xs j
              have := ih (xs.getD j .none) (ys.getD j .none) A.in1 s _ _ _ _ (by omega) r1 r2 (canLay_at xs j ca') (canLay_at ys j cb') (cmpbAll_at xs ys hal j l1 l2 ha hj) (by show A.units + 1 + _ < _; omega)
              simpa using this
      | _ => exact absurd h (by simp [cmpb])
    | _ => exact absurd h (by cases db <;> simp [cmpb])
end RH

set_option Elab.async false
set_option linter.all false
set_option maxRecDepth 100000
set_option maxHeartbeats 2000000
/-! the data layer, part o: sorted of such tuples -/
namespace RH
open PySem PySem.Spec PyProof.Rows PySem.W PySem.SeqAt

section
variable {prog : Program} {w : World} {A : Around} {E : Value → Shared → Prop} {s : Shared}
/-- one key against another, both tuples, as the sort of one type asks -/
theorem oneLtC {xs ys : List PyData} {a b : Value} {as bs : List Addr} {Q : Bool → Shared → Prop} (ra : Reads s.heap a (.tuple xs) as) (rb : Reads s.heap b (.tuple ys) bs) (ca : (PyData.tuple xs).canLay0 = true) (cb : (PyData.tuple ys).canLay0 = true) (h : cmpb (.tuple xs) (.tuple ys) = true)
    (hu : A.units + (PyData.tuple xs).depth < cLine) (hq : Q (dataLt (.tuple xs) (.tuple ys)) s) : wpAny (model prog w) A (oneLt' true a b) Q E s := by
  have hal : cmpbAll xs ys = true := by simpa [cmpb] using h
  have ca' : PyData.canLayAll0 xs = true := by simpa [PyData.canLay0] using ca
  have cb' : PyData.canLayAll0 ys = true := by simpa [PyData.canLay0] using cb
  simp only [PyData.depth] at hu
  cases ra with
  | @tuple l o vs m _ as₁ h1 h2 h3 h4 =>
    cases rb with
    | @tuple l' o' vs' m' _ bs₁ k1 k2 k3 k4 =>
      have n1 : vs.size = xs.length := by simpa using ReadsAll.length _ _ _ h4
      have n2 : vs'.size = ys.length := by simpa using ReadsAll.length _ _ _ k4
      rw [dataLt_tuple, ← firstLtC xs ys hal, ← n1, ← n2] at hq
      rw [oneLt'_eq]
      simp only [if_true]
      refine wpAny_bind (wpAny_cRoomFor (by omega) ?_)
      refine wpAny_bind (wpAny_callSpecialIfBound?_slot (T := "tuple") ⟨_, h1, h2⟩ F.slot_tuple_lt (call_tuple_ltF (e := pairEq xs ys) (r := fun j => dataLt (xs.getD j .none) (ys.getD j .none)) ⟨_, h1, h2, _, h3⟩ ⟨_, k1, k2, _, k3⟩ (fun j j1 j2 => ?_) (fun j j1 j2 ha hj => ?_) ?_))
      · have := eqAt_readsAll xs ys A.in1 s vs.toList vs'.toList _ _ h4 k4 ca' cb' (by show A.units + 1 + _ < _; have := Nat.min_le_left (PyData.depthAll xs) (PyData.depthAll ys); omega) j (by simpa using j1) (by simpa using j2)
        simpa using this
      · obtain ⟨b1, r1, l1⟩ := readsAll_at h4 j (by simpa using j1)
        obtain ⟨b2, r2, l2⟩ := readsAll_at k4 j (by simpa using j2)
        have d1 := depth_at xs j
        have := rcLtC _ (xs.getD j .none) (ys.getD j .none) A.in1 s _ _ _ _ (Nat.le_refl _) r1 r2 (canLay_at xs j ca') (canLay_at ys j cb') (cmpbAll_at xs ys hal j l1 l2 ha hj) (by show A.units + 1 + _ < _; omega)
        simpa using this
      · exact wpAny_truthy_bool hq
/-- tuples that begin with a text -/
theorem katLexC {fin : Bool} {Q : Bool → Shared → Prop} : ∀ (xs ys : List PyData) (i : Nat) (vs ws : List Value) (as bs : List Addr), ReadsAll s.heap vs xs as → ReadsAll s.heap ws ys bs → PyData.canLayAll0 xs = true → PyData.canLayAll0 ys = true → cmpbAll xs ys = true →
    A.units + 1 + PyData.depthAll xs < cLine → (i = 0 → ∀ x r, xs = x :: r → ∃ t, x = .str t) → (i = 0 → ∀ x r, ys = x :: r → ∃ t, x = .str t) → fin = decide (xs.length < ys.length) → Q (PyProof.Rows.lexLt itemOrd (keyToksAll xs) (keyToksAll ys)) s → KatLex prog w A true fin Q (vs.zip ws) i s
  | [], [], i, _, _, _, _, ra, rb, _, _, _, _, _, _, hf, hq => by
    cases ra
    cases rb
    have e : fin = false := by rw [hf]; rfl
    subst e
    rw [lex_irrefl] at hq
    exact kat_nil hq
  | [], y :: ys, i, _, _, _, _, ra, rb, _, _, _, _, _, _, hf, hq => by
    cases ra
    have e : fin = true := by rw [hf]; exact decide_eq_true (Nat.succ_pos _)
    subst e
    rw [toks_all_cons] at hq
    simp only [keyToksAll] at hq
    rw [lex_diff (O := itemOrd) (by simp)] at hq
    rw [List.zip_nil_left]
    exact kat_nil (by simpa [itemLt] using hq)
  | x :: xs, [], i, _, _, _, _, ra, rb, _, _, _, _, _, _, hf, hq => by
    cases rb
    have e : fin = false := by rw [hf]; exact decide_eq_false (Nat.not_lt_zero _)
    subst e
    rw [toks_all_cons] at hq
    simp only [keyToksAll] at hq
    rw [lex_diff (O := itemOrd) (by simp)] at hq
    rw [List.zip_nil_right]
    exact kat_nil (by simpa [itemLt] using hq)
  | x :: xs, y :: ys, i, _, _, _, _, ra, rb, ca, cb, h, hu, h0, h0', hf, hq => by
    have hf' : fin = decide (xs.length < ys.length) := by
      rw [hf]
      simp only [List.length_cons, Nat.add_lt_add_iff_right]
    have hdx : x.depth ≤ PyData.depthAll (x :: xs) := by simp only [PyData.depthAll]; exact Nat.le_max_left _ _
    have hdr : PyData.depthAll xs ≤ PyData.depthAll (x :: xs) := by simp only [PyData.depthAll]; exact Nat.le_max_right _ _
    cases ra with
    | cons r rs =>
      cases rb with
      | cons r' rs' =>
        rw [List.zip_cons_cons]
        refine kat_cons (eqAt_reads x y A s _ _ _ _ r r' (canAll_cons ca).1 (canAll_cons cb).1 (by have := Nat.min_le_left x.depth y.depth; omega) prog w _ _ ?_)
        cases hx : PyData.eqv x y with
        | true =>
          obtain ⟨a1, b1⟩ := cmpbAll_yes h hx
          rw [ltC_yes a1] at hq
          exact kat_yes (katLexC xs ys (i + 1) _ _ _ _ rs rs' (canAll_cons ca).2 (canAll_cons cb).2 b1 (by omega) (fun hi => absurd hi (Nat.succ_ne_zero i)) (fun hi => absurd hi (Nat.succ_ne_zero i)) hf' hq)
        | false =>
          have hc := cmpbAll_no h hx
          rw [ltC_no hc hx] at hq
          refine kat_no ?_
          by_cases hi : i = 0
          · subst hi
            obtain ⟨t, rfl⟩ := h0 rfl x xs rfl
            obtain ⟨t', rfl⟩ := h0' rfl y ys rfl
            cases r
            cases r'
            rw [dataLt_str] at hq
            exact oneLt_str hq
          · have : (true && i == 0) = false := by simp [hi]
            rw [this, oneLt'_eq]
            simp only [Bool.false_eq_true, if_false]
            exact wpAny_bind (rcLtC _ x y A s _ _ _ _ (Nat.le_refl _) r r' (canAll_cons ca).1 (canAll_cons cb).1 hc (by omega) prog w _ _ (wpAny_truthy_bool hq))
end
/-- all are tuples, the first one empty, or all begin with a text -/
def SortableC (ds : List PyData) : Prop := (∃ r, ds = .tuple [] :: r ∧ ∀ d ∈ ds, ∃ xs, d = .tuple xs) ∨ ∀ d ∈ ds, ∃ x r, d = .tuple (.str x :: r)
section
variable {prog : Program} {w : World} {A : Around} {s : Shared}
theorem firstsC {M : Model} {A : Around} {E : Value → Shared → Prop} : ∀ (vs : List Value) (ds : List PyData) {Q : List (Option Value) → Shared → Prop}, EachIs (fun v d => ∃ as, Reads s.heap v d as) vs ds → (∀ d ∈ ds, ∃ xs, d = .tuple xs) → (∀ fs : List (Option Value), fs.length = vs.length → (∀ r, ds = .tuple [] :: r → fs[0]? = some none) → Q fs s) → wpAny M A (vs.mapM firstOfTuple') Q E s
  | [], [], _, _, _, h => by rw [List.mapM_nil]; exact wpAny_pure (h [] rfl fun r e => by cases e)
  | v :: vs, d :: ds, Q, t, ht, h => by
    cases t with
    | cons r rs =>
    obtain ⟨as, r⟩ := r
    obtain ⟨xs, rfl⟩ := ht _ List.mem_cons_self
    cases r with
    | @tuple a o items n _ _ h1 h2 h3 h4 =>
    rw [List.mapM_cons]
    refine wpAny_bind ?_
    rw [kas_first_eq]
    refine wpAny_bind (Looks.here (show Looks M s.heap (typeOf (.ref a)) o.cls from (Looks.ld h1).andThen .now) ?_)
    rw [h2, if_neg (by first | decide | simp)]
    refine wpAny_bind (listItems_at h1 h3 (wpAny_pure ?_))
    refine wpAny_bind (firstsC vs ds (Q := fun bs s' => wpAny M A (pure (items[0]? :: bs)) Q E s') rs (fun d hd => ht d (List.mem_cons_of_mem _ hd)) fun fs hl hf => wpAny_pure (h _ (by simp [hl]) fun r e => ?_))
    have : xs = [] := by
      injection e with e1 e2
      injection e1
    subst this
    have : items.size = 0 := by simpa using ReadsAll.length _ _ _ h4
    simp [this]
theorem kind_empty {vs : List Value} {ds : List PyData} {E : Value → Shared → Prop} {Q : SortKind → Shared → Prop} (e : EachIs (fun v d => ∃ as, Reads s.heap v d as) vs ds) (ht : ∀ d ∈ ds, ∃ xs, d = .tuple xs) (hf : ∃ r, ds = .tuple [] :: r) (h : Q oneType' s) : wpAny (model prog w) A (keyKind' vs.toArray) Q E s := by
  obtain ⟨r, hf⟩ := hf
  rw [keyKind'_eq, List.mapM_toArray, map_eq_pure_bind]
  refine wpAny_bind (wpAny_bind (firstsC vs ds e ht fun fs hl hn => wpAny_pure ?_))
  have h0 := hn r hf
  obtain ⟨fr, rfl⟩ : ∃ fr, fs = none :: fr := by
    cases fs with
    | nil => simp at h0
    | cons f fr => simp at h0; subst h0; exact ⟨fr, rfl⟩
  rw [if_neg (by simp), if_neg (by simp)]
  obtain ⟨v₁, rest, rfl⟩ : ∃ v₁ rest, vs = v₁ :: rest := by
    cases vs with
    | nil => cases hl
    | cons v vs => exact ⟨v, vs, rfl⟩
  rw [oneTypeOnly'_eq, List.mapM_toArray, map_eq_pure_bind]
  refine wpAny_bind (wpAny_bind (wpAny_bind (kas_mapM (r := Value.type "tuple") _ (fun v hv Q' hq => ?_) (wpAny_pure ?_))))
  · obtain ⟨d, hd, as, rr⟩ := e.left v hv
    obtain ⟨xs, rfl⟩ := ht d hd
    exact (looks_reads rr).here hq
  · have hall : ((List.map (fun _ => Value.type "tuple") (v₁ :: rest)).toArray.all fun x => x == Value.type "tuple") = true := by
      simp only [List.all_toArray, List.all_map, List.all_eq_true]
      intro _ _
      exact beq_self_eq_true _
    have h0 : (List.map (fun _ => Value.type "tuple") (v₁ :: rest)).toArray[0]? = some (Value.type "tuple") := by simp
    rw [h0]
    simp only [hall, if_true]
    exact wpAny_pure (wpAny_pure h)
theorem invC {h : Heap} {ds : List PyData} {v : Value} {k : List (Int ⊕ List Nat)} (e : (dataKind h ds).keyOf v = some k) : ∃ d as, d ∈ ds ∧ Reads h v d as ∧ k = keyToks d := dataKind_inv e
/-- such values can be sorted -/
theorem sortsAtC {vs : List Value} {ds : List PyData} (e : EachIs (fun v d => ∃ as, Reads s.heap v d as) vs ds) (hc : ∀ d ∈ ds, d.canLay0 = true) (hcmp : ∀ d ∈ ds, ∀ d' ∈ ds, cmpb d d' = true) (hk : SortableC ds) (hu : ∀ d, d ∈ ds → A.units + d.depth < cLine) : SortsAt prog w A s (dataKind s.heap ds) vs := by
  refine ⟨fun v hv => ?_, ?_⟩
  · obtain ⟨d, hd, as, r⟩ := e.left v hv
    exact ⟨_, dataKindC hc hd r⟩
  · rcases hk with ⟨r, hr, ht⟩ | hs
    · refine ⟨oneType', ?_, fun h2 E Q hq => kind_empty e ht ⟨r, hr⟩ hq⟩
      intro E x y a b Q ha hb hq
      obtain ⟨d, as, hd, ra, rfl⟩ := dataKind_inv ha
      obtain ⟨d', as', hd', rb, rfl⟩ := dataKind_inv hb
      obtain ⟨xs, rfl⟩ := ht d hd
      obtain ⟨ys, rfl⟩ := ht d' hd'
      rw [keyLt'_oneType]
      exact oneLtC ra rb (hc _ hd) (hc _ hd') (hcmp _ hd _ hd') (hu _ hd) hq
    · refine ⟨tuples' (Value.type "str" != Value.type "tuple"), ?_, fun h2 E Q hq => ?_⟩
      · intro E x y a b Q ha hb hq
        obtain ⟨d, as, hd, ra, rfl⟩ := dataKind_inv ha
        obtain ⟨d', as', hd', rb, rfl⟩ := dataKind_inv hb
        have hdd := hcmp d hd d' hd'
        have hca := hc d hd
        have hcb := hc d' hd'
        have hroom := hu d hd
        obtain ⟨x1, r1, rfl⟩ := hs d hd
        obtain ⟨x2, r2, rfl⟩ := hs d' hd'
        have hq' : Q (dataLt (.tuple (.str x1 :: r1)) (.tuple (.str x2 :: r2))) s := hq
        rw [dataLt_tuple] at hq'
        simp only [PyData.depth] at hroom
        cases ra with
        | @tuple l o xs n _ _ h1 h2 h3 h4 =>
          cases rb with
          | @tuple l' o' xs' n' _ _ k1 k2 k3 k4 =>
            have n1 : xs.size = (PyData.str x1 :: r1).length := by simpa using SeqAt.ReadsAll.length _ _ _ h4
            have n2 : xs'.size = (PyData.str x2 :: r2).length := by simpa using SeqAt.ReadsAll.length _ _ _ k4
            have : (Value.type "str" != Value.type "tuple") = true := by decide +kernel
            rw [this]
            exact kat_lt h1 h3 k1 k3 (katLexC (.str x1 :: r1) (.str x2 :: r2) 0 _ _ _ _ h4 k4 (by simpa [PyData.canLay0] using hca) (by simpa [PyData.canLay0] using hcb) (by simpa [cmpb] using hdd) (by omega) (fun _ x r ex => ⟨x1, by injection ex with a; exact a.symm⟩) (fun _ x r ex => ⟨x2, by injection ex with a; exact a.symm⟩) (by rw [n1, n2]) hq')
      · obtain ⟨fs, t1, t2, t3⟩ := each_katTups e fun d hd => by
          obtain ⟨x, r, rfl⟩ := hs d hd
          exact ⟨_, r, rfl⟩
        refine kat_kind (T := Value.type "str") t1 (by omega) (fun f hf => ?_) (beq_self_eq_true _) hq
        obtain ⟨x, r, as, m1, m2⟩ := t3 f hf
        obtain ⟨x', r', ex⟩ := hs _ m1
        injection ex with ex
        injection ex with ex _
        subst ex
        exact looks_reads m2
end

open L2
/-- sorted(xs), by the first unlike items -/
def rSortC (K : PySem.W.Frag) : List V → Hp → VK → Prop := fun vs H Q => ∃ (a : Addr) (bs : List PD), vs = [.ref a] ∧ (SqL K H a (bs.map (·.1)) ∨ SqT K H a (bs.map (·.1))) ∧ (∀ b ∈ bs, RH.RD K H b.2 b.1 ∧ plain b.2 = true ∧ (py b.2).depth ≤ 40) ∧
  (∀ d ∈ bs.map encP, d.canLay0 = true) ∧ (∀ d ∈ bs.map encP, ∀ d' ∈ bs.map encP, cmpb d d' = true) ∧ SortableC (bs.map encP) ∧ ∀ p, H p = none → Q (.ref p) (upd H p (.lst ((bs.mergeSort (PySem.W.dataLe false encP)).map (·.1))))

theorem each_keysC {h : Heap} {ds : List PyData} (hc : ∀ d ∈ ds, d.canLay0 = true) : ∀ {vs : List Value} {es : List PyData}, (∀ d ∈ es, d ∈ ds) → PySem.W.EachIs (fun v d => ∃ as, Reads h v d as) vs es → PySem.W.EachIs (fun v d => (PySem.W.dataKind h ds).keyOf v = some (PySem.W.keyToks d)) vs es
  | _, _, _, .nil => .nil
  | _, _, hm, .cons ⟨as, r⟩ t => .cons (dataKindC hc (hm _ List.mem_cons_self) r) (each_keysC hc (fun d hd => hm d (List.mem_cons_of_mem _ hd)) t)
theorem sortValsC {h' : Heap} {β : Type} {R : Value → β → Prop} {enc : β → PyData} {vs : List Value} {bs : List β} (e : PySem.W.EachIs R vs bs) (er : PySem.W.EachIs (fun v b => ∃ as, Reads h' v (enc b) as) vs bs) (hc : ∀ d ∈ bs.map enc, d.canLay0 = true) :
    PySem.W.EachIs R (PySem.W.sortVals (PySem.W.dataKind h' (bs.map enc)) false vs vs) (bs.mergeSort (PySem.W.dataLe false enc)) :=
  PySem.W.sortVals_each (κ := PySem.W.dataKind h' (bs.map enc)) (fun b => PySem.W.keyToks (enc b)) e (PySem.W.each_of_map enc (each_keysC hc (fun _ h => h) (PySem.W.each_map (R := fun v d => ∃ as, Reads h' v d as) enc er)))
theorem call_sortC {X : Cx} (hu : X.A.units + 64 < cLine) : CallR X (.builtin "sorted") (rSortC X.K) := by
  intro pins s σ H vs us Q I r h
  obtain ⟨a, bs, rfl, hq, hb, hcan, hcmp, hk, q⟩ := h
  obtain ⟨u, rfl, rx⟩ := vals1 r
  cases rx
  have main : ∀ (T : String) (o : Obj) (its : List Value) (n : Nat), (T = "list" ∨ T = "tuple") → s.heap.get? a = some o → o.cls = .type T → o.data = .seq its.toArray n → Vals (bs.map (·.1)) its → (bs.map (·.1)).length ≤ sizeLine → wpAny (model X.prog X.w) X.A (call (.builtin "sorted") [.ref a]) (EP X pins σ Q) X.xe s := fun T o its n hT ho hc hd rv hz => by
    have e1 := vals_each rv
    have er : PySem.W.EachIs (fun v (b : PD) => ∃ as, Reads s.heap v (encP b) as) its bs := (PySem.W.each_mem e1).mono fun v b ⟨r, hm⟩ => by
      obtain ⟨h1, h2, _⟩ := hb b hm
      exact Dp.reads I _ _ _ (RD.dp _ _ h1 h2) r
    have hlen := rv.length
    refine sorted_seq (κ := PySem.W.dataKind s.heap (bs.map encP)) hT ho hc hd (by rw [List.size_toArray, ← hlen]; exact hz) (fun h' hk' => ?_) fun h1 h' hk1 hkeep hat => ?_
    · have er' : PySem.W.EachIs (fun v (b : PD) => ∃ as, Reads h' v (encP b) as) its bs := er.mono fun _ _ ⟨as, r⟩ => ⟨as, PyProof.Rows.Reads.keeps hk' r⟩
      have S := sortsAtC (prog := X.prog) (w := X.w) (A := X.A.in1.in1) (s := { s with heap := h' }) (PySem.W.each_map (R := fun v d => ∃ as, Reads h' v d as) encP er') hcan hcmp hk (PySem.W.bound_map fun b hbm => by
        have := (hb b hbm).2.2
        show X.A.units + 1 + 1 + (encP b).depth < cLine
        unfold encP
        omega)
      exact ⟨fun v hv => by
        obtain ⟨b, hbm, as, rr⟩ := er.left v hv
        exact ⟨_, dataKindC hcan (List.mem_map.mpr ⟨b, hbm, rfl⟩) rr⟩, by
        obtain ⟨kd, l1, l2⟩ := S.kind
        refine ⟨kd, fun E x y ka kb Q hx hy hq => ?_, l2⟩
        obtain ⟨d1, as1, m1, r1, k1⟩ := PySem.W.dataKind_inv hx
        obtain ⟨d2, as2, m2, r2, k2⟩ := PySem.W.dataKind_inv hy
        subst k1 k2
        exact l1 E x y _ _ (dataKindC hcan m1 (PyProof.Rows.Reads.keeps hk' r1)) (dataKindC hcan m2 (PyProof.Rows.Reads.keeps hk' r2)) hq⟩
    · obtain ⟨e, he⟩ := hat
      have eo := sortValsC e1 er hcan
      rw [List.toList_toArray] at he
      have hv := each_vals eo
      have I1 : Inv X pins σ H { s with heap := h1 } := I.kept (t' := s.toks) hk1
      refine ⟨.ref h1.objs.size, _, I1.laid (t' := s.toks) hkeep (Nat.le_refl _) ?_, rfl, q _ (I1.hok.fresh (Nat.le_refl _))⟩
      refine ⟨?_, _, e, hv, he⟩
      rw [List.length_map, List.length_mergeSort]
      rw [List.length_map] at hz
      exact hz
  rcases hq with hq | hq
  · obtain ⟨its, rv, pl, hz⟩ := I.list hq
    obtain ⟨o, ho, hc, n, hd⟩ := pl.isList
    exact main "list" o its n (.inl rfl) ho hc hd rv hz
  · obtain ⟨its, rv, pl, hz⟩ := I.tuple hq
    obtain ⟨o, ho, hc, n, hd⟩ := pl
    exact main "tuple" o its n (.inr rfl) ho hc hd rv hz

/-- data that can be sorted so -/
structure SortsC (l : List D) : Prop where
  each : ∀ x ∈ l, plain x = true ∧ (py x).canLay0 = true ∧ (py x).depth ≤ 40
  cmp : ∀ x ∈ l, ∀ y ∈ l, cmpb (py x) (py y) = true
  kind : (∃ r, l = .tup [] :: r ∧ ∀ x ∈ l, ∃ m, x = .tup m) ∨ ∀ x ∈ l, ∃ s m, x = .tup (.str s :: m)
def gSortedC : DRC := fun ss d Ψ => ∃ s z l, ss = [s] ∧ look d s = some z ∧ seqD z = some l ∧ SortsC l ∧ Ψ (.own d.o.length) (d.new (l.mergeSort leD))
theorem SortsC.able {l : List D} (h : SortsC l) : SortableC (l.map py) := by
  rcases h.kind with ⟨r, e, ht⟩ | hs
  · refine .inl ⟨r.map py, by rw [e]; rfl, fun d hd => ?_⟩
    obtain ⟨x, hx, rfl⟩ := List.mem_map.mp hd
    obtain ⟨m, rfl⟩ := ht x hx
    exact ⟨pys m, rfl⟩
  · refine .inr fun d hd => ?_
    obtain ⟨x, hx, rfl⟩ := List.mem_map.mp hd
    obtain ⟨s, m, rfl⟩ := hs x hx
    exact ⟨s, pys m, rfl⟩
theorem snd_sortedC {K : PySem.W.Frag} : SndC K (rSortC K) gSortedC := fun c d TT T σ H Ψ Q F ⟨s, z, l, e, e1, e2, hs, q⟩ k => by
  obtain ⟨v, rfl⟩ := one_arg' e
  obtain ⟨B, A, C, sl, tm⟩ := F
  obtain ⟨a, us, g1, g2, g3⟩ := C.lookB (tm _ List.mem_cons_self) e1 e2
  subst g1
  obtain ⟨bs, e3, e4, e5⟩ := g2.zip
  subst e3 e4
  have em : (bs.map encP) = (bs.map (·.2)).map py := by rw [List.map_map]; rfl
  refine ⟨a, bs, rfl, lstT g3, fun b hb => ?_, fun d hd => ?_, fun d hd d' hd' => ?_, by rw [em]; exact hs.able, fun p hp => ?_⟩
  · obtain ⟨p1, p2, p3⟩ := hs.each b.2 (List.mem_map.mpr ⟨b, hb, rfl⟩)
    exact ⟨RD.mono C.bh _ _ (e5 b hb), p1, p3⟩
  · obtain ⟨b, hb, rfl⟩ := List.mem_map.mp hd
    exact (hs.each b.2 (List.mem_map.mpr ⟨b, hb, rfl⟩)).2.1
  · obtain ⟨b, hb, rfl⟩ := List.mem_map.mp hd
    obtain ⟨b', hb', rfl⟩ := List.mem_map.mp hd'
    exact hs.cmp b.2 (List.mem_map.mpr ⟨b, hb, rfl⟩) b'.2 (List.mem_map.mpr ⟨b', hb', rfl⟩)
  · refine k _ _ _ _ (Fit.new ⟨B, A, C, sl, fun q hq => tm q (List.mem_cons_of_mem _ hq), ?_⟩ hp) q
    have e6 : (bs.mergeSort (PySem.W.dataLe false encP)).map (·.2) = (bs.map (·.2)).mergeSort leD := List.map_mergeSort fun x _ y _ => rfl
    rw [← e6]
    exact RDs.unzip fun b hb => e5 b ((List.mergeSort_perm _ _).mem_iff.mp hb)
def gSorted2 : DRC := fun ss d Ψ => gSorted ss d Ψ ∨ gSortedC ss d Ψ
theorem de_sorted2 {X : Cx} {e : Expr} {ws : DTA} {p pos : Pos} (hu : X.A.units + 64 < cLine) (hg : Gl X "sorted") (hm : X.mg "sorted" = none) (ha : DA X [e] ws) (he : starEach [e] X.env = (false, eval e X.env) :: starEach [] X.env := by rfl) (hpl : (backTo pos (starEach [] X.env)).any (·.1) = false := by rfl) : DE X (.Call (.Name "sorted" p) [e] [] pos) (dCB gSorted2 ws) :=
  de_callB (r := fun vs H Q => rSortD X.K vs H Q ∨ rSortC X.K vs H Q) (fun pins s σ H vs us Q I r h => h.elim (call_sortD hu pins s σ H vs us Q I r) (call_sortC hu pins s σ H vs us Q I r))
    (fun c d TT T σ H Ψ Q F w k => w.elim (fun w => .inl (snd_sorted c d TT T σ H Ψ Q F w k)) fun w => .inr (snd_sortedC c d TT T σ H Ψ Q F w k)) hg hm (by decide +kernel) ha (by decide) (by decide) he hpl
end RH

set_option Elab.async false
set_option linter.all false
set_option maxRecDepth 100000
set_option maxHeartbeats 2000000
/-! the data layer, part p: tuples as keys of dicts -/
namespace RH
open PySem PySem.Spec PyProof.Rows L2

mutual
/-- a datum as a key -/
def nk : D → NestedKey
  | .non => .none
  | .bl b => .num (if b = true then 1 else 0)
  | .int i => .num i
  | .str x => .text x
  | .tup l => .tup (nks l)
  | .lst _ => .none
  | .dic _ => .none
  | .obj _ _ => .none
def nks : List D → List NestedKey
  | [] => []
  | x :: l => nk x :: nks l
end
mutual
theorem nk_eqv : ∀ (x y : D), hard x = true → hard y = true → NestedKey.beq (nk x) (nk y) = PyData.eqv (py x) (py y)
  | .non, y, _, hy => by cases y <;> first | (cases hy; done) | simp [nk, py, NestedKey.beq, PyData.eqv]
  | .bl a, y, _, hy => by
    cases y with
    | bl b => cases a <;> cases b <;> simp [nk, py, NestedKey.beq, PyData.eqv]
    | int i => simp only [nk, py, NestedKey.beq, PyData.eqv]; rw [Bool.eq_iff_iff]; simp
    | lst _ => cases hy
    | dic _ => cases hy
    | obj _ _ => cases hy
    | _ => simp [nk, py, NestedKey.beq, PyData.eqv]
  | .int a, y, _, hy => by
    cases y with
    | bl b => simp only [nk, py, NestedKey.beq, PyData.eqv]; rw [Bool.eq_iff_iff]; simp
    | int i => simp only [nk, py, NestedKey.beq, PyData.eqv]; rw [Bool.eq_iff_iff]; simp
    | lst _ => cases hy
    | dic _ => cases hy
    | obj _ _ => cases hy
    | _ => simp [nk, py, NestedKey.beq, PyData.eqv]
  | .str a, y, _, hy => by
    cases y with
    | str b => simp only [nk, py, NestedKey.beq, PyData.eqv]; rw [Bool.eq_iff_iff]; simp
    | lst _ => cases hy
    | dic _ => cases hy
    | obj _ _ => cases hy
    | _ => simp [nk, py, NestedKey.beq, PyData.eqv]
  | .tup l, y, hx, hy => by
    cases y with
    | tup m =>
      have := nks_eqv l m hx hy
      simpa [nk, py, NestedKey.beq, PyData.eqv] using this
    | lst _ => cases hy
    | dic _ => cases hy
    | obj _ _ => cases hy
    | _ => simp [nk, py, NestedKey.beq, PyData.eqv]
  | .lst _, _, hx, _ => by cases hx
  | .dic _, _, hx, _ => by cases hx
  | .obj _ _, _, hx, _ => by cases hx
theorem nks_eqv : ∀ (l m : List D), hards l = true → hards m = true → NestedKey.beqAll (nks l) (nks m) = PyData.eqvAll (pys l) (pys m)
  | [], [], _, _ => by simp [nks, pys, NestedKey.beqAll, PyData.eqvAll]
  | [], _ :: _, _, _ => by simp [nks, pys, NestedKey.beqAll, PyData.eqvAll]
  | _ :: _, [], _, _ => by simp [nks, pys, NestedKey.beqAll, PyData.eqvAll]
  | x :: l, y :: m, hx, hy => by
    have hx' : (hard x && hards l) = true := hx
    have hy' : (hard y && hards m) = true := hy
    rw [Bool.and_eq_true] at hx' hy'
    simp only [nks, pys, NestedKey.beqAll, PyData.eqvAll]
    rw [nk_eqv x y hx'.1 hy'.1, nks_eqv l m hx'.2 hy'.2]
end
section
variable {X : Cx} {pins : List (Addr × Obj)} {σ : L2.St} {H : Hp} {s : Shared}
mutual
theorem nk_is (I : Inv X pins σ H s) : ∀ (x : D) (v : V) (u : Value), RD X.K H x v → hard x = true → L2.RelV v u → NestedIs s.heap (nk x) u
  | .non, _, u, h, _, r => by cases (show _ = V.non from h); cases r; exact .none
  | .bl b, _, u, h, _, r => by cases (show _ = V.bl b from h); cases r; exact .bool rfl
  | .int i, _, u, h, _, r => by cases (show _ = V.int i from h); obtain ⟨t, rfl⟩ := r; exact .int _ _
  | .str x, _, u, h, _, r => by cases (show _ = V.str x from h); obtain ⟨t, rfl⟩ := r; exact .text _ _
  | .tup l, _, u, ⟨a, vs, h1, h2, h3⟩, hh, r => by
    subst h1
    cases r
    obtain ⟨its, rv, ⟨o, ho, hc, n, hd⟩, hz⟩ := I.tuple h2
    exact .tup ho hc hd (by simpa using nks_is I l vs its h3 hh rv)
  | .lst _, _, _, _, hh, _ => by cases hh
  | .dic _, _, _, _, hh, _ => by cases hh
  | .obj _ _, _, _, _, hh, _ => by cases hh
theorem nks_is (I : Inv X pins σ H s) : ∀ (l : List D) (vs : List V) (us : List Value), RDs X.K H l vs → hards l = true → Vals vs us → NestedAll s.heap (nks l) us
  | [], _, us, h, _, r => by cases (show _ = [] from h); cases r; exact .nil
  | x :: l, _, us, ⟨v, vs, h1, h2, h3⟩, hh, r => by
    subst h1
    have hh' : (hard x && hards l) = true := hh
    rw [Bool.and_eq_true] at hh'
    cases r with
    | cons r rs => exact .cons (nk_is I x v _ h2 hh'.1 r) (nks_is I l vs _ h3 hh'.2 rs)
end
end
end RH

set_option Elab.async false
set_option linter.all false
set_option maxRecDepth 100000
set_option maxHeartbeats 2000000
/-! the data layer, part q: a dict from tuples to True -/
namespace RH
open PySem PySem.Spec PyProof.Rows L2

abbrev NK := NestedKey × Addr
def tri (x : NK) : NestedKey × Addr × Value := (x.1, x.2, .bool true)
def entN (w : World) (x : NK) : DictEntry := ⟨x.1.hash w, .ref x.2, .bool true⟩
def RawN (w : World) (h : Heap) (d : Addr) (xs : List NK) : Prop := (d == sysModules) = false ∧ xs.length ≤ sizeLine ∧ ∃ o es ep, h.get? d = some o ∧ o.ExactDict ∧ o.data = .dict es ep ∧ es.toList = xs.map (entN w) ∧ (xs.map (·.1)).Nodup
/-- at d: such a dict -/
def dNO (w : World) (d : Addr) (xs : List NK) : HO := .ext fun h => RawN w h d xs
theorem dNO_ok {P : Program} {w w' : World} {H : Hp} {h : Heap} {d : Addr} {xs : List NK} (r : RawN w' h d xs) : ObjOk P w H h d (dNO w' d xs) := by
  refine ⟨r, ?_, fun h1 h2 z k => ?_⟩
  · obtain ⟨_, _, o, _, _, ho, _⟩ := r
    exact ⟨o, ho⟩
  · obtain ⟨a1, a2, o, es, ep, ho, q⟩ := z
    exact ⟨a1, a2, o, es, ep, k _ ho, q⟩
theorem dNO_at {P : Program} {w w' : World} {H : Hp} {h : Heap} {d : Addr} {xs : List NK} (hok : HOk P w H h) (he : H d = some (dNO w' d xs)) : RawN w' h d xs := by
  have x : ObjOk P w H h d (.ext fun h => RawN w' h d xs) := hok d _ he
  exact x.1
/-- a tuple that is the key -/
def KeyN (K : PySem.W.Frag) (H : Hp) (x : NK) : Prop := ∃ l, x.1 = nk (.tup l) ∧ RD K H (.tup l) (.ref x.2) ∧ hard (.tup l) = true ∧ (nk (.tup l)).depth ≤ 8
theorem entN_eq {P : Program} {w : World} (xs : List NK) : (xs.map tri).map (entryOfKey (nestedKind P w)) = xs.map (entN w) := by
  rw [List.map_map]; rfl
section
variable {X : Cx} {pins : List (Addr × Obj)} {σ : L2.St} {H : Hp} {s : Shared} {D a : Addr} {k : NestedKey} {xs : List NK}
theorem KeyN.is (I : Inv X pins σ H s) {x : NK} (h : KeyN X.K H x) : (nestedKind X.prog X.w).is s.heap x.1 x.2 := by
  obtain ⟨l, e, h1, h2, h3⟩ := h
  refine ⟨?_, by rw [e]; exact h3⟩
  rw [e]
  exact nk_is I (.tup l) (.ref x.2) (.ref x.2) h1 h2 rfl
theorem dict_of (I : Inv X pins σ H s) (hD : H D = some (dNO X.w D xs)) (hk : ∀ x ∈ xs, KeyN X.K H x) : s.heap.DictOfH (nestedKind X.prog X.w) D (xs.map tri) := by
  obtain ⟨_, _, o, es, ep, ho, hc, hd, he, hn⟩ := dNO_at I.hok hD
  refine ⟨o, es, ep, ho, hc, hd, by rw [he, entN_eq], fun x hx => ?_, by rw [List.map_map]; exact hn⟩
  obtain ⟨y, hy, rfl⟩ := List.mem_map.mp hx
  exact (hk y hy).is I
theorem raw_of {P : Program} {w : World} {h : Heap} {xs : List NK} (hd : (D == sysModules) = false) (hz : xs.length ≤ sizeLine) (r : h.DictOfH (nestedKind P w) D (xs.map tri)) : RawN w h D xs := by
  obtain ⟨o, es, ep, ho, hc, hdd, he, _, hn⟩ := r
  refine ⟨hd, hz, o, es, ep, ho, hc, hdd, by rw [he, entN_eq], ?_⟩
  rw [List.map_map] at hn
  exact hn
def putN (xs : List NK) (k : NestedKey) (a : Addr) : List NK := if k ∈ xs.map (·.1) then xs else xs ++ [(k, a)]
theorem atKey_tri (xs : List NK) (k : NestedKey) : (atKey (xs.map tri) k).isSome = decide (k ∈ xs.map (·.1)) := by
  induction xs with
  | nil => rfl
  | cons x xs ih =>
    by_cases h : x.1 = k
    · simp [atKey, tri, h]
    · have h' : ¬ k = x.1 := fun e => h e.symm
      have : (atKey ((x :: xs).map tri) k).isSome = (atKey (xs.map tri) k).isSome := by simp [atKey, tri, h]
      rw [this, ih]
      simp [h']
theorem stored_tri (xs : List NK) (k : NestedKey) (a : Addr) : storedH (xs.map tri) k a (.bool true) = (putN xs k a).map tri := by
  unfold storedH putN
  rw [atKey_tri]
  by_cases h : k ∈ xs.map (·.1)
  · rw [if_pos (decide_eq_true h), if_pos h, List.map_map]
    refine List.map_congr_left fun x _ => ?_
    show putAt k (.bool true) (tri x) = tri x
    unfold putAt
    split <;> rfl
  · rw [if_neg (by simpa using h), if_neg h, List.map_append]
    rfl
theorem putN_len (xs : List NK) (k : NestedKey) (a : Addr) : (putN xs k a).length ≤ xs.length + 1 := by
  unfold putN
  split
  · omega
  · simp
/-- d[tuple] = True, as a comprehension does it -/
theorem dN_set {E : Value → Shared → Prop} {Q : Unit → Shared → Prop} (hu : X.A.units + 8 < cLine) (I : Inv X pins σ H s) (hD : H D = some (dNO X.w D xs)) (hk : ∀ x ∈ xs, KeyN X.K H x) (hz : xs.length < sizeLine) (ha : KeyN X.K H (k, a))
    (h : ∀ s', Inv X pins σ (upd H D (dNO X.w D (putN xs k a))) s' → Q () s') : wpAny (model X.prog X.w) X.A (dictSet D (.ref a) (.bool true)) Q E s := by
  have hm := dict_of I hD hk
  obtain ⟨hd, _, _⟩ := dNO_at I.hok hD
  refine wpAny_dictSet_heap (knd := nestedKind X.prog X.w) hu (ha.is I) hm (fun h' hd' hs => h _ ?_) (by rw [List.length_map]; omega)
  rw [stored_tri] at hd'
  have he : ∃ q, h'.get? D = some q := let ⟨q, _, _, hq, _⟩ := hd'; ⟨q, hq⟩
  exact d_write (t' := s.toks + (nestedKind X.prog X.w).draws k) I (by rw [hD]; exact True.intro) hs he (dNO_ok (raw_of hd (by have := putN_len xs k a; omega) hd'))
end
section
variable {X : Cx}
/-- {k: True for target in iter if ..}, keys tuples: D the new dict -/
def tDcN (K : PySem.W.Frag) (w : World) (wi : TI) (g : TG) (tt : TT) (tk tv : TE) (vs : List Nat) : TE := fun σ H Q => wi σ H fun J H1 => ∀ D, H1 D = none → ∃ W : Nat → Nat → Hp → Prop, (∃ m, W 0 m (upd H1 D (dNO w D []))) ∧ ∀ i m H, W i m H →
  (J.stop i H ∧ Q (.ref D) H) ∨ (J.go i H ∧ ∃ Nx : Hp → Prop, (∀ H', Nx H' → ∃ m', m' < m ∧ W (i + 1) m' H') ∧ ∀ x H', J.yld i H x H' → g x (wipe σ vs) H' fun σ2 H2 => wipe σ2 vs = wipe σ vs ∧ tt σ2 H2 fun b H3 =>
    if b = true then tk σ2 H3 fun y H4 => tv σ2 H4 fun z H5 => ∃ xs k a, y = .ref a ∧ z = .bl true ∧ KeyN K H5 (k, a) ∧ H5 D = some (dNO w D xs) ∧ (∀ x ∈ xs, KeyN K H5 x) ∧ xs.length < sizeLine ∧ Nx (upd H5 D (dNO w D (putN xs k a))) else Nx H3)
theorem dcN_core {pins : List (Addr × Obj)} {s : Shared} {σ : L2.St} {H : Hp} {Q : VK} {kx vx tg iter : Expr} {ifs : List Expr} {scope : Scope} {own : List (Str × Nat)} {pos pos' : Pos} {wi : TI} {g : TG} {tt : TT} {tk tv : TE} {use : Option (Value → Sem Unit)} {Qf : Value → Shared → Prop}
    (hu : X.A.units + 8 < cLine) (hc : X.calm = true) (hN : X.N.Nodup) (I : Inv X pins σ H s) (hi : PI X tg iter wi) (ok : BlkOk X.N X.env.scope scope own)
    (hg : ∀ (s : Shared) (H : Hp) (C : Addr) (cl : List (Str × Addr)) (fp : List Addr), PG (X.blk s H scope (compEnvC scope cl C X.env) fp) tg g) (ht : ∀ (s : Shared) (H : Hp) (C : Addr) (cl : List (Str × Addr)) (fp : List Addr), PTs (X.blk s H scope (compEnvC scope cl C X.env) fp) ifs tt)
    (hk : ∀ (s : Shared) (H : Hp) (C : Addr) (cl : List (Str × Addr)) (fp : List Addr), PE (X.blk s H scope (compEnvC scope cl C X.env) fp) kx tk)
    (he : ∀ (s : Shared) (H : Hp) (C : Addr) (cl : List (Str × Addr)) (fp : List Addr), PE (X.blk s H scope (compEnvC scope cl C X.env) fp) vx tv) (hs : ∀ x, foldedSetIterable iter X.env x = pure x)
    (h : tDcN X.K X.w wi g tt tk tv (own.map (·.2)) σ H Q)
    (hRR : ∀ D C s' m H', Inv X pins σ H' s' → Q (.ref D) H' → s'.heap.Ns C m → FpOk X pins H' C → compPost (model X.prog X.w) X.A X.xe use Qf (.ref D) C (.ok .next) s') :
    wpAny (model X.prog X.w) X.A (comprehension (.DictComp kx vx [⟨tg, iter, ifs, 0⟩] scope pos) scope X.env pos' newDict false (eval iter X.env) use) Qf X.xe s := by
  have hfree : ∀ y ∈ scope.names, y.2 = .free → ∃ c, X.env.cells.lookup y.1 = some c := fun y hy e => by
    rcases ok.free y hy e with k | k
    · exact I.ok.has _ (.inl k)
    · exact I.ok.has _ (.inr k)
  refine wpAny_comprehension_free (use := use) rfl hs (closure_ok hfree) ok.kind (fun y hy e => by rw [ok.uniq y hy, e])
    (thn (hi.run pins s σ H _ I h) fun xv s1 hx => thn hx fun itv s2 h2 => ?_)
  obtain ⟨it, fp, tn, J, H2, e, I2, T, st2, f2, q⟩ := h2
  subst e
  refine wpAny_newObj_type (newEnv_comp ?_)
  generalize hD : s2.heap.objs.size = D
  have hDn : H2 D = none := I2.hok.fresh (Nat.le_of_eq hD)
  obtain ⟨W, ⟨m0, w0⟩, turn⟩ := q D hDn
  -- the new list
  generalize hs3 : ({ s2 with heap := s2.heap.push { cls := .type "dict", data := .dict #[] } } : Shared) = s3
  have I3 : Inv X pins σ (upd H2 D (dNO X.w D [])) s3 := by
    rw [← hs3]
    refine I2.laid (t' := s2.toks) (fun b o e => Heap.get?_push_of_some _ e) (Nat.le_of_eq hD) ?_
    rw [← hD]
    exact dNO_ok ⟨beq_eq_false_iff_ne.mpr (Ne.symm (Nat.ne_of_lt I2.big)), Nat.zero_le _, _, #[], 0, Heap.get?_push_size _ rfl, ⟨rfl, rfl, rfl⟩, rfl, rfl, List.nodup_nil⟩
  have h3 : s3.heap = s2.heap.push { cls := .type "dict", data := .dict #[] } := by rw [← hs3]
  have sz : ∀ b ∈ fp, b < s2.heap.objs.size := fun b hb => by
    obtain ⟨o, e, _⟩ := T.obj _ _ st2 b hb
    exact Heap.lt_size e
  have f3 : ∀ b ∈ fp, FpOk X pins (upd H2 D (dNO X.w D [])) b ∧ b < s3.heap.objs.size := fun b hb => by
    have hlt := sz b hb
    refine ⟨⟨?_, (f2 b hb).2⟩, by rw [h3, Heap.size_push]; exact Nat.lt_succ_of_lt hlt⟩
    rw [upd_ne (by rw [← hD]; exact Nat.ne_of_lt hlt)]
    exact (f2 b hb).1
  have st3 : tn 0 s3.heap := T.keep _ _ _ st2 fun b _ o e => by rw [h3]; exact Heap.get?_push_of_some _ e
  have I4 := block_start I3 ok hN f3
  have pg := hg s3 (upd H2 D (dNO X.w D [])) s3.heap.objs.size (cellsFrom (s3.heap.objs.size + 1) scope.names (cloFrom X.env.cells scope.names [])) fp
  have pt := ht s3 (upd H2 D (dNO X.w D [])) s3.heap.objs.size (cellsFrom (s3.heap.objs.size + 1) scope.names (cloFrom X.env.cells scope.names [])) fp
  have pk := hk s3 (upd H2 D (dNO X.w D [])) s3.heap.objs.size (cellsFrom (s3.heap.objs.size + 1) scope.names (cloFrom X.env.cells scope.names [])) fp
  have pe := he s3 (upd H2 D (dNO X.w D [])) s3.heap.objs.size (cellsFrom (s3.heap.objs.size + 1) scope.names (cloFrom X.env.cells scope.names [])) fp
  show codeAny _ _ (.compStart (.DictComp kx vx [⟨tg, iter, ifs, 0⟩] scope pos) 0 (.ref it) (.ref D) (compEnvC scope (cellsFrom (s3.heap.objs.size + 1) scope.names (cloFrom X.env.cells scope.names [])) s3.heap.objs.size X.env)) (compPost (model X.prog X.w) X.A X.xe use Qf (.ref D) s3.heap.objs.size) { s3 with heap := pushCells (s3.heap.push { cls := .type "dict", data := .dict #[] }) scope.names }
  have nfp : ∀ b ∈ fp, (upd H2 D (dNO X.w D [])) b = none := fun b hb => (f3 b hb).1.1
  generalize hce : compEnvC scope (cellsFrom (s3.heap.objs.size + 1) scope.names (cloFrom X.env.cells scope.names [])) s3.heap.objs.size X.env = ce at I4 pg pt pk pe ⊢
  have cL : ce.locals = s3.heap.objs.size := by subst hce; rfl
  generalize hH3 : upd H2 D (dNO X.w D []) = H3 at I3 I4 pg pt pk pe w0 nfp f3
  generalize hs4 : ({ s3 with heap := pushCells (s3.heap.push { cls := .type "dict", data := .dict #[] }) scope.names } : Shared) = s4 at I4 ⊢
  have st4 : tn 0 s4.heap := T.keep _ _ _ st3 fun b _ o e => by rw [← hs4]; exact pushCells_keeps _ _ _ _ (Heap.get?_push_of_some _ e)
  have stat : ∀ {σ' : L2.St} {H' : Hp} {s' : Shared}, Inv (X.blk s3 H3 scope ce fp) [] σ' H' s' → (∀ b ∈ fp, H' b = none) → ∀ b ∈ fp, FpOk (X.blk s3 H3 scope ce fp) [] H' b := fun {σ' H' s'} I' hn b hb =>
    ⟨hn b hb, (I'.ok.exf b hb).1, I'.ok.exfs b hb, .inl hb, fun x c e => (I'.ok.exf b hb).2 x c e, fun p hp => absurd (show p ∈ ([] : List (Addr × Obj)) ++ [] from hp) (by simp)⟩
  have loop : codeAny (model X.prog X.w) X.A (.compLoop (.DictComp kx vx [⟨tg, iter, ifs, 0⟩] scope pos) 0 (.ref it) (.ref D) ce) (compPost (model X.prog X.w) X.A X.xe use Qf (.ref D) s3.heap.objs.size) s4 := by
    refine compLoop_anyD (fun n s' => ∃ i H', Inv (X.blk s3 H3 scope ce fp) [] (wipe σ (own.map (·.2))) H' s' ∧ tn i s'.heap ∧ (∀ b ∈ fp, H' b = none) ∧ W i n H') ?_ m0 ⟨0, H3, I4, st4, nfp, w0⟩
    rintro n s5 ⟨i, H5, I5, st5, n5, w5⟩
    rcases turn i n H5 w5 with ⟨stop, qq⟩ | ⟨go, Nx, hNx, step⟩
    · have td := T.done (X.blk s3 H3 scope ce fp) rfl rfl rfl hc i [] s5 _ H5 (fun _ _ => False) I5 (stat I5 n5) st5 stop
      refine thnF td fun r s6 ⟨hr, I6⟩ => ?_
      subst hr
      -- back in the def's context
      have I7 : Inv X pins σ H5 s6 := I3.call' (ch := fp) I6.os I6.base I6.hok I6.bare fun b hb => ⟨(f3 b hb).1.2.2.2.1, (f3 b hb).1.2.1, (f3 b hb).1.2.2.2.2.1, (f3 b hb).1.2.2.2.2.2⟩
      have nC : H5 s3.heap.objs.size = none := by
        have z : H5 ce.locals = none := I6.free
        rw [cL] at z
        exact z
      obtain ⟨m, hn, _⟩ := I6.loc
      have hn : s6.heap.Ns ce.locals m := hn
      rw [cL] at hn
      exact hRR D s3.heap.objs.size s6 m H5 I7 qq hn (I3.fpOk (Nat.le_refl _) nC)
    · have ti := T.item (X.blk s3 H3 scope ce fp) rfl rfl rfl hc i [] s5 _ H5 (fun _ _ => False) I5 (stat I5 n5) st5 go
      refine thnF ti fun r s6 ⟨u, hr, h6⟩ => ?_
      subst hr
      refine thnF h6 fun _ s7 ⟨x, H7, I7, r7, y7, st7, n7⟩ => ?_
      have I7' := I7.pinned (stat I7 n7) (T.obj _ _ st7)
      refine thnF (pg.run _ s7 _ H7 x u _ I7' r7 (step x H7 y7)) fun _ s8 ⟨σ8, H8, I8, hw8, q8⟩ => ?_
      refine thnF (pt.run _ s8 σ8 H8 _ I8 q8) fun b s9 ⟨H9, I9, q9⟩ => ?_
      -- the turn's end
      have fin : ∀ {s' : Shared} {H' : Hp}, Inv (X.blk s3 H3 scope ce fp) ([] ++ pinsAt fp s7.heap) σ8 H' s' → Nx H' → ∃ m, m < n ∧ ∃ i H', Inv (X.blk s3 H3 scope ce fp) [] (wipe σ (own.map (·.2))) H' s' ∧ tn i s'.heap ∧ (∀ b ∈ fp, H' b = none) ∧ W i m H' := fun {s' H'} I' nx => by
        obtain ⟨m', hm, w'⟩ := hNx H' nx
        have pin' : ∀ b ∈ fp, ∀ o, s7.heap.get? b = some o → s'.heap.get? b = some o ∧ H' b = none := fun b hb o e =>
          let z := I'.pin (b, o) (List.mem_append_right _ (List.mem_append_right _ (mem_pinsAt hb e)))
          ⟨z.1, z.2.1⟩
        have hl : (wipe σ (own.map (·.2))).length = σ8.length := by rw [← hw8, wipe_length]
        refine ⟨m', hm, i + 1, H', (I'.unpinned (pins := [])).weak hl (fun j v e => ?_), T.keep _ _ _ st7 fun b hb o e => (pin' b hb o e).1, fun b hb => ?_, w'⟩
        · rw [← hw8] at e
          exact (wipe_some e).1
        · obtain ⟨o, e, _⟩ := T.obj _ _ st7 b hb
          exact (pin' b hb o e).2
      cases b with
      | false =>
        simp only [Bool.false_eq_true, if_false] at q9 ⊢
        exact fin I9 q9
      | true =>
        simp only [if_true] at q9 ⊢
        refine thnF (pk.run _ s9 σ8 H9 _ I9 q9) fun z s10 ⟨yk, H10, I10, r10, q10⟩ => ?_
        refine thnF (pe.run _ s10 σ8 H10 _ I10 q10) fun z2 s11 ⟨yv, H11, I11, r11, xs, k, ak, ek, ev, hk11, hD11, hxs11, hz11, nx⟩ => ?_
        subst ek ev
        cases r10
        cases r11
        exact dN_set (X := X.blk s3 H3 scope ce fp) hu I11 hD11 hxs11 hz11 hk11 fun s12 I12 => fin I12 nx
  exact codeAny_compStart_dict loop (T.self X.A 0 _ _ _ st4 loop)
/-- as a value -/
theorem pe_dcN {kx vx tg iter : Expr} {ifs : List Expr} {scope : Scope} {own : List (Str × Nat)} {pos : Pos} {wi : TI} {g : TG} {tt : TT} {tk tv : TE} (hu : X.A.units + 8 < cLine) (hc : X.calm = true) (hN : X.N.Nodup) (hi : PI X tg iter wi) (ok : BlkOk X.N X.env.scope scope own)
    (hg : ∀ (s : Shared) (H : Hp) (C : Addr) (cl : List (Str × Addr)) (fp : List Addr), PG (X.blk s H scope (compEnvC scope cl C X.env) fp) tg g) (ht : ∀ (s : Shared) (H : Hp) (C : Addr) (cl : List (Str × Addr)) (fp : List Addr), PTs (X.blk s H scope (compEnvC scope cl C X.env) fp) ifs tt)
    (hk : ∀ (s : Shared) (H : Hp) (C : Addr) (cl : List (Str × Addr)) (fp : List Addr), PE (X.blk s H scope (compEnvC scope cl C X.env) fp) kx tk)
    (he : ∀ (s : Shared) (H : Hp) (C : Addr) (cl : List (Str × Addr)) (fp : List Addr), PE (X.blk s H scope (compEnvC scope cl C X.env) fp) vx tv) (hs : ∀ x, foldedSetIterable iter X.env x = pure x := by intro _; rfl) :
    PE X (.DictComp kx vx [⟨tg, iter, ifs, 0⟩] scope pos) (tDcN X.K X.w wi g tt tk tv (own.map (·.2))) := by
  refine ⟨fun pins s σ H Q I h => ?_⟩
  rw [arm_eval_DictComp]
  refine dcN_core hu hc hN I hi ok hg ht hk he hs h fun D C s' m H' I' q hn f => ⟨m, hn, fun h'' sb => ?_⟩
  obtain ⟨f0, f1, f2, f3, f4, f5⟩ := f
  exact ⟨.ref D, H', I'.turned (t' := s'.toks) (fun b o hb e => (sb.2 b hb).trans e) f0 f1 f3 f4 f5, rfl, q⟩

end
end RH

set_option Elab.async false
set_option linter.all false
set_option maxRecDepth 100000
set_option maxHeartbeats 2000000
/-! the data layer, part qb: {tuple: True}, d.update(d2) -/
namespace RH
open PySem PySem.Spec PyProof.Rows L2

def mergeN (xs more : List NK) : List NK := more.foldl (fun acc m => putN acc m.1 m.2) xs
theorem storedAll_tri : ∀ (more xs : List NK), storedAllH (xs.map tri) (more.map tri) = (mergeN xs more).map tri
  | [], _ => rfl
  | m :: more, xs => by
    show storedAllH (storedH (xs.map tri) m.1 m.2 (.bool true)) (more.map tri) = _
    rw [stored_tri, storedAll_tri more]
    rfl
theorem mergeN_len : ∀ (more xs : List NK), (mergeN xs more).length ≤ xs.length + more.length
  | [], _ => Nat.le_refl _
  | m :: more, xs => by
    have h1 := mergeN_len more (putN xs m.1 m.2)
    have h2 := putN_len xs m.1 m.2
    show (mergeN (putN xs m.1 m.2) more).length ≤ _
    rw [List.length_cons]
    omega
section
variable {X : Cx} {k v : Expr} {tk tv : TE} {pos : Pos}
def tDispN1 (K : PySem.W.Frag) (w : World) (tk tv : TE) : TE := fun σ H Q => ∀ p, H p = none → tk σ (upd H p (dNO w p [])) fun x H1 => tv σ H1 fun y H2 => ∃ key a, x = .ref a ∧ y = .bl true ∧ KeyN K H2 (key, a) ∧ H2 p = some (dNO w p []) ∧ Q (.ref p) (upd H2 p (dNO w p [(key, a)]))
theorem pe_dispN1 (hu : X.A.units + 8 < cLine) (hk : PE X k tk) (hv : PE X v tv) : PE X (.Dict [some k] [v] pos) (tDispN1 X.K X.w tk tv) := by
  refine ⟨fun pins s σ H Q I q => ?_⟩
  have hn := I.hok.fresh (Nat.le_refl s.heap.objs.size)
  have I1 := I.laid (a := s.heap.objs.size) (o := dNO X.w s.heap.objs.size []) (h' := s.heap.push { cls := .type "dict", data := .dict #[] }) (t' := s.toks) (fun _ _ q => Heap.get?_push_of_some _ q) (Nat.le_refl _)
    (dNO_ok ⟨beq_eq_false_iff_ne.mpr (Ne.symm (Nat.ne_of_lt I.big)), Nat.zero_le _, _, #[], 0, Heap.get?_push_size _ rfl, ⟨rfl, rfl, rfl⟩, rfl, rfl, List.nodup_nil⟩)
  have hshape := zip_pairTrees [some k] [v] X.env pos rfl rfl
  rw [arm_eval_Dict, hshape, dictDisplay_pairs (pairTrees [some k] [v] X.env pos) (by simp [pairTrees]) (by simp [pairTrees])]
  refine wpAny_bind (wpAny_standAt (wpAny_bind (wpAny_subDictH (knd := nestedKind X.prog X.w) (Q := fun d s' => wpAny (model X.prog X.w) X.A (pure (Value.ref d)) _ X.xe s') hu (by simp [pairTrees]) ?_)))
  refine pairTrees_cons_walk (thn (hk.run pins _ σ _ _ I1 (q _ hn)) fun u s1 ⟨x, H1, I2, rx, q1⟩ => thn (hv.run pins s1 σ H1 _ I2 q1) fun w2 s2 ⟨y, H2, I3, ry, key, a, ex, ey, hkey, hD, q2⟩ => pairTrees_nil_walk ?_)
  subst ex ey
  cases rx
  cases ry
  have hm : s2.heap.DictOfH (nestedKind X.prog X.w) s.heap.objs.size [] := dict_of (xs := []) I3 hD (fun x hx => by cases hx)
  obtain ⟨hd, _, _⟩ := dNO_at I3.hok hD
  refine ⟨[(key, a, .bool true)], ⟨rfl, rfl, hkey.is I3, trivial⟩, hm, fun h' tk' hd' hs => wpAny_pure ⟨.ref s.heap.objs.size, _, ?_, rfl, q2⟩⟩
  have e : storedAllH [] [(key, a, Value.bool true)] = ([(key, a)] : List NK).map tri := storedAll_tri [(key, a)] []
  rw [e] at hd'
  have he : ∃ q, h'.get? s.heap.objs.size = some q := let ⟨q, _, _, hq, _⟩ := hd'; ⟨q, hq⟩
  exact d_write (t' := tk') I3 (by rw [hD]; exact True.intro) hs he (dNO_ok (raw_of hd (show 1 ≤ sizeLine by decide) hd'))
end
section
variable {X : Cx} {o e : Expr} {to te : TE} {apos cpos : Pos}
def tUpdN (K : PySem.W.Frag) (w : World) (to te : TE) : TE := fun σ H Q => to σ H fun x H1 => ∃ d, x = .ref d ∧ (∃ xs, H1 d = some (dNO w d xs)) ∧ te σ H1 fun y H2 => ∃ d2 xs more, y = .ref d2 ∧ d ≠ d2 ∧ H2 d = some (dNO w d xs) ∧ H2 d2 = some (dNO w d2 more) ∧
  (∀ x ∈ xs, KeyN K H2 x) ∧ (∀ x ∈ more, KeyN K H2 x) ∧ xs ≠ [] ∧ xs.length + more.length ≤ sizeLine ∧ Q .non (upd H2 d (dNO w d (mergeN xs more)))
theorem pe_updN (hu : X.A.units + 9 < cLine) (ho : PE X o to) (he : PE X e te) (hbase : attributeBase o "update" X.env (eval o X.env) = eval o X.env := by rfl)
    (hfew : ((backTo cpos (starEach [e] X.env)).all (fun x => !x.1) && (backToKw cpos (keywordEach [] X.env)).all (fun x => x.1.isSome)
      && decide ([e].length + ([] : List Keyword).length + (if ([] : List Keyword).isEmpty then 0 else 1) < 30)) = true := by rfl)
    (hline : (apos.endLine == cpos.line) = true := by rfl) (hs : starEach [e] X.env = (false, eval e X.env) :: starEach [] X.env := by rfl) (hplain : (backTo cpos (starEach [] X.env)).any (·.1) = false := by rfl) :
    PE X (.Call (.Attribute o "update" apos) [e] [] cpos) (tUpdN X.K X.w to te) := by
  refine ⟨fun pins s σ H Q I h => ?_⟩
  refine wpAny_Call_method_late hbase hfew hline rfl (thn (ho.run pins s σ H _ I h) fun v s1 ⟨x, H1, I1, r1, d, ex, ⟨xs1, hd1⟩, q1⟩ => ?_)
  subst ex
  cases r1
  obtain ⟨_, _, ob, es, ep, hob, hc, _, _⟩ := dNO_at I1.hok hd1
  refine ⟨"dict", "dict.update", PySem.F.plainAttrs_dict, PySem.F.slot_dict_update, PySem.F.type_dict_update, ⟨ob, hob, hc.1⟩, fun a ea => by cases ea; exact ⟨ob, hob, hc.2.1⟩, ?_⟩
  have hA := (pa_cons he pa_nil hs).run cpos pins s1 σ H1 (fun vs H2 => match vs with
    | [y] => ∃ d2 xs more, y = .ref d2 ∧ d ≠ d2 ∧ H2 d = some (dNO X.w d xs) ∧ H2 d2 = some (dNO X.w d2 more) ∧ (∀ x ∈ xs, KeyN X.K H2 x) ∧ (∀ x ∈ more, KeyN X.K H2 x) ∧ xs ≠ [] ∧ xs.length + more.length ≤ sizeLine ∧ Q .non (upd H2 d (dNO X.w d (mergeN xs more)))
    | _ => False) I1 q1
  rw [hs] at hA ⊢
  refine Calls.callWith_builtin (by show (false || (backTo cpos (starEach [] X.env)).any (·.1)) = false; rw [hplain] <;> rfl) (Calls.evalArgs_plain ?_)
  refine thn hA fun us s2 ⟨vs, H2, I2, r2, q2⟩ => ?_
  obtain ⟨y, rfl⟩ : ∃ y, vs = [y] := by
    match vs, q2 with
    | [y], _ => exact ⟨y, rfl⟩
  obtain ⟨d2, xs, more, ed, hne, h1, h2, k1, k2, hx, hz, q2⟩ := q2
  obtain ⟨u, rfl, ru⟩ := vals1 r2
  subst ed
  cases ru
  obtain ⟨b1, _, _⟩ := dNO_at I2.hok h1
  obtain ⟨b2, _, _⟩ := dNO_at I2.hok h2
  refine call_update_dictH (knd := nestedKind X.prog X.w) (by show X.A.units + 1 + 8 < cLine; omega) hne b2 (dict_of I2 h1 k1) (dict_of I2 h2 k2) (.inl (by simpa using hx)) (by rw [List.length_map, List.length_map]; exact hz) fun h' hd' _ hs' => ?_
  rw [storedAll_tri] at hd'
  have he : ∃ q, h'.get? d = some q := let ⟨q, _, _, hq, _⟩ := hd'; ⟨q, hq⟩
  exact ⟨.non, _, d_write (t' := s2.toks) I2 (by rw [h1]; exact True.intro) hs' he (dNO_ok (raw_of b1 (by have := mergeN_len more xs; omega) hd')), rfl, q2⟩
end
end RH

set_option Elab.async false
set_option linter.all false
set_option maxRecDepth 100000
set_option maxHeartbeats 2000000
/-! the data layer, part qc: sorted of such a dict -/
namespace RH
open PySem PySem.Spec PyProof.Rows L2

section
open PySem.W
variable {prog : Program} {w : World} {d : Addr} {es : Array DictEntry} {ep : Nat}
theorem kdl_raw (lo : (d == sysModules) = false) : KdlSrc prog w "dict" d d es.size (fun i v => ∃ h : i < es.size, v = es[i].key) (fun h => h.DictRaw d es ep) where
  type := fun _ hm => hm.typeIs
  there := fun _ hm => by obtain ⟨o, ho, _⟩ := hm; exact ⟨Heap.lt_size ho, Heap.lt_size ho⟩
  keep := fun _ _ hm hk => hm.at fun o e => hk d (.inl rfl) o e
  notList := by decide
  notTuple := by decide
  hint := fun _ _ _ _ hm hq => kdl_hint_dict hm.typeIs hq
  iter := fun A s hh hm => by
    have hlt : d < s.heap.objs.size := by obtain ⟨o, ho, _⟩ := hm; exact Heap.lt_size ho
    exact ⟨_, _, (fun _ _ hq => wpAny_pyIter_dict_raw lo hm hq), Walks.rawKeys hh _ d (Nat.ne_of_lt hlt) es ep, ⟨⟨_, Heap.get?_push_size _ rfl, rfl, rfl⟩, hm.at fun o e => Heap.get?_push_of_some _ e⟩⟩
end

section
open PySem.W PySem.Calls
variable {prog : Program} {w : World} {A : Around} {E : Value → Shared → Prop} {s : Shared}
/-- sorted(d): the new list is the one that collect's items are laid in -/
theorem sorted_dict {d : Addr} {es : Array DictEntry} {ep : Nat} {κ : PyProof.Rows.KeyKind} {Q : Value → Shared → Prop} (lo : (d == sysModules) = false) (hh : A.handled = none) (hm : s.heap.DictRaw d es ep) (hL : es.size ≤ sizeLine)
    (S : ∀ (h' : Heap) (tk : Tok), (∀ b o, s.heap.get? b = some o → h'.get? b = some o) → SortsAt prog w A.in1.in1 { s with heap := h', toks := tk } κ (es.toList.map (·.key)))
    (h : ∀ (h1 h' : Heap) (tk : Tok), (∀ b o, s.heap.get? b = some o → h1.get? b = some o) → (∀ b o, h1.get? b = some o → h'.get? b = some o) → (∃ e, h'.get? h1.objs.size = some (seqObj "list" (sortVals κ false (es.toList.map (·.key)) (es.toList.map (·.key))).toArray e)) → Q (.ref h1.objs.size) { s with heap := h', toks := tk }) :
    wpAny (model prog w) A (call (.builtin "sorted") [.ref d]) Q E s := by
  refine call_function_entry_kw kind_sorted plain_sorted entry_sorted (args_sorted1 _) ?_
  unfold Builtin.«sorted»
  refine wpAny_bind (m := checkCount "sorted" 1 1 _) (wpAny_pure ?_)
  refine wpAny_bind (PySem.W.kdu_collect (A := A.in1) (kdl_raw lo) hh hm hL fun h1 tk acc hk hacc => ?_)
  have hacc' : acc.toList = es.toList.map (·.key) := by
    apply List.ext_getElem?
    intro j
    rw [List.getElem?_map, Array.getElem?_toList, Array.getElem?_toList]
    by_cases hj : j < es.size
    · have hj' : j < acc.size := by rw [hacc.1]; exact hj
      obtain ⟨_, e⟩ := hacc.2 j acc[j] (Array.getElem?_eq_getElem hj')
      rw [Array.getElem?_eq_getElem hj', Array.getElem?_eq_getElem hj, e]
      rfl
    · rw [Array.getElem?_eq_none (by rw [hacc.1]; omega), Array.getElem?_eq_none (by omega)]
      rfl
  rw [hacc']
  generalize hits : es.toList.map (·.key) = its at S h
  have hLi : its.length ≤ sizeLine := by rw [← hits, List.length_map, Array.length_toList]; exact hL
  refine wpAny_bind (wpAny_newList ?_ (by simpa using hLi))
  have hp : (h1.push (seqObj "list" its.toArray 0)).get? h1.objs.size = some (seqObj "list" its.toArray 0) := Heap.get?_push_size _ rfl
  have keep : ∀ b o, s.heap.get? b = some o → (h1.push (seqObj "list" its.toArray 0)).get? b = some o := fun b o e => Heap.get?_push_of_some _ (hk b o e)
  show wpAny _ _ _ _ _ { s with heap := h1.push (seqObj "list" its.toArray 0), toks := tk }
  refine wpAny_bind (wpAny_holding (wpAny_call_entry_kw slot_list_sort ⟨_, hp, rfl⟩ entry_list_sort ?body (args_list_sort _)))
  case body =>
    show wpAny (model prog w) A.in1.in1 (Builtin.«list.sort» ⟨[.ref h1.objs.size], []⟩) _ _ _
    have hne1 : ∀ b o, h1.get? b = some o → b ≠ h1.objs.size := fun b o e => Nat.ne_of_lt (Heap.lt_size e)
    have hne : ∀ b o, s.heap.get? b = some o → b ≠ h1.objs.size := fun b o e => hne1 b o (hk b o e)
    have keep1 : ∀ b o, h1.get? b = some o → (h1.push (seqObj "list" its.toArray 0)).get? b = some o := fun b o e => Heap.get?_push_of_some _ e
    refine wpAny_mono (list_sort_vals (κ := κ) (s := { s with heap := h1.push (seqObj "list" its.toArray 0), toks := tk }) (P := fun f s' => f = .done (.ret .none) ∧ Q (.ref h1.objs.size) s') (E := E) hp
      (S _ tk fun b o e => sortingHeap_old (hne b o e) (keep b o e)) hLi ⟨rfl, h h1 _ tk hk (fun b o e => ?_) (sortedHeap_at hp)⟩) (fun f s' hf => ?_) fun _ _ e => e
    · rw [sortedHeap_old (hne1 b o e) (Heap.lt_size (keep1 b o e))]
      exact keep1 b o e
    · obtain ⟨rfl, hq⟩ := hf
      exact ⟨_, rfl, wpAny_pure ⟨_, rfl, hq⟩⟩
end

def rSortN (K : PySem.W.Frag) (w : World) : List V → Hp → VK → Prop := fun vs H Q => ∃ (d : Addr) (xs : List NK) (bs : List PD), vs = [.ref d] ∧ H d = some (dNO w d xs) ∧ bs.map (·.1) = xs.map (fun x => V.ref x.2) ∧ (∀ b ∈ bs, RH.RD K H b.2 b.1 ∧ plain b.2 = true ∧ (py b.2).depth ≤ 40) ∧
  (∀ d ∈ bs.map encP, d.canLay0 = true) ∧ (∀ d ∈ bs.map encP, ∀ d' ∈ bs.map encP, cmpb d d' = true) ∧ SortableC (bs.map encP) ∧ ∀ p, H p = none → Q (.ref p) (upd H p (.lst ((bs.mergeSort (PySem.W.dataLe false encP)).map (·.1))))
theorem vals_refs : ∀ xs : List NK, Vals (xs.map fun x => V.ref x.2) (xs.map fun x => Value.ref x.2)
  | [] => .nil
  | _ :: xs => .cons rfl (vals_refs xs)
theorem call_sortN {X : Cx} (hcalm : X.calm = true) (hu : X.A.units + 64 < cLine) : CallR X (.builtin "sorted") (rSortN X.K X.w) := by
  intro pins s σ H vs us Q I r h
  obtain ⟨d, xs, bs, rfl, hd, hbx, hb, hcan, hcmp, hk, q⟩ := h
  obtain ⟨u, rfl, rx⟩ := vals1 r
  cases rx
  obtain ⟨lo, hz, o, es, ep, ho, hc, hdat, hes, hn⟩ := dNO_at I.hok hd
  have hkeys : es.toList.map (·.key) = xs.map fun x => Value.ref x.2 := by rw [hes, List.map_map]; rfl
  have rv : Vals (bs.map (·.1)) (es.toList.map (·.key)) := by rw [hkeys, hbx]; exact vals_refs xs
  have hsz : es.size ≤ sizeLine := by
    have := congrArg List.length hes
    rw [List.length_map, Array.length_toList] at this
    omega
  have hlen : bs.length = xs.length := by
    have := congrArg List.length hbx
    simpa using this
  have e1 := vals_each rv
  have er : PySem.W.EachIs (fun v (b : PD) => ∃ as, Reads s.heap v (encP b) as) (es.toList.map (·.key)) bs := (PySem.W.each_mem e1).mono fun v b ⟨r, hm⟩ => by
    obtain ⟨h1, h2, _⟩ := hb b hm
    exact Dp.reads I _ _ _ (RD.dp _ _ h1 h2) r
  refine sorted_dict (κ := PySem.W.dataKind s.heap (bs.map encP)) lo (I.ok.hd hcalm) ⟨o, ho, hc, hdat⟩ hsz (fun h' tk hk' => ?_) fun h1 h' tk hk1 hkeep hat => ?_
  · have er' : PySem.W.EachIs (fun v (b : PD) => ∃ as, Reads h' v (encP b) as) (es.toList.map (·.key)) bs := er.mono fun _ _ ⟨as, r⟩ => ⟨as, PyProof.Rows.Reads.keeps hk' r⟩
    have S := sortsAtC (prog := X.prog) (w := X.w) (A := X.A.in1.in1) (s := { s with heap := h', toks := tk }) (PySem.W.each_map (R := fun v d => ∃ as, Reads h' v d as) encP er') hcan hcmp hk (PySem.W.bound_map fun b hbm => by
      have := (hb b hbm).2.2
      show X.A.units + 1 + 1 + (encP b).depth < cLine
      unfold encP
      omega)
    exact ⟨fun v hv => by
      obtain ⟨b, hbm, as, rr⟩ := er.left v hv
      exact ⟨_, dataKindC hcan (List.mem_map.mpr ⟨b, hbm, rfl⟩) rr⟩, by
      obtain ⟨kd, l1, l2⟩ := S.kind
      refine ⟨kd, fun E x y ka kb Q hx hy hq => ?_, l2⟩
      obtain ⟨d1, as1, m1, r1, k1⟩ := PySem.W.dataKind_inv hx
      obtain ⟨d2, as2, m2, r2, k2⟩ := PySem.W.dataKind_inv hy
      subst k1 k2
      exact l1 E x y _ _ (dataKindC hcan m1 (PyProof.Rows.Reads.keeps hk' r1)) (dataKindC hcan m2 (PyProof.Rows.Reads.keeps hk' r2)) hq⟩
  · obtain ⟨e, he⟩ := hat
    have eo := sortValsC e1 er hcan
    have hv := each_vals eo
    have I1 : Inv X pins σ H { s with heap := h1, toks := tk } := I.kept (t' := tk) hk1
    refine ⟨.ref h1.objs.size, _, I1.laid (t' := tk) hkeep (Nat.le_refl _) ?_, rfl, q _ (I1.hok.fresh (Nat.le_refl _))⟩
    refine ⟨?_, _, e, hv, he⟩
    rw [List.length_map, List.length_mergeSort, hlen]
    exact hz
end RH

set_option Elab.async false
set_option linter.all false
set_option maxRecDepth 100000
set_option maxHeartbeats 1000000
/-! readings: what the defs that all these laws share compute, over data -/
namespace RH
open PySem PySem.Spec PyProof.Rows L2


theorem look_val {d : DS} {x : D} : look d (.val x) = some x := rfl
theorem look_own {d : DS} {k : Nat} : look d (.own k) = (d.o[k]?).map fun e => .lst e.2 := rfl
theorem fz_val {d : DS} {x : D} : fz d (.val x) = some (x, d) := rfl
theorem fz_own {d : DS} {k : Nat} : fz d (.own k) = (d.o[k]?).map fun e => (.lst e.2, { d with o := d.o.set k (false, e.2) }) := rfl
theorem fzs_nil {d : DS} : fzs d [] = some ([], d) := rfl
theorem fzs_cons {d : DS} {s : S} {r : List S} : fzs d (s :: r) = (fz d s).bind fun p => (fzs p.2 r).map fun q => (p.1 :: q.1, q.2) := by
  show (match fz d s with | none => none | some (x, d1) => match fzs d1 r with | none => none | some (l, d2) => some (x :: l, d2)) = _
  cases fz d s with
  | none => rfl
  | some p =>
    obtain ⟨x, d1⟩ := p
    show (match fzs d1 r with | none => none | some (l, d2) => some (x :: l, d2)) = _
    cases h : fzs d1 r with
    | none => simp [h]
    | some q => simp [h]
theorem ret_val {Ψ : R → Nat → Prop} {x : D} {d : DS} : ret Ψ (.val x) d = Ψ (.val x) d.n := rfl
theorem ret_own {Ψ : R → Nat → Prop} {k : Nat} {d : DS} : ret Ψ (.own k) d = match d.o[k]? with
    | some (true, l) => Ψ (.new l) d.n
    | some (false, l) => Ψ (.val (.lst l)) d.n
    | none => False := rfl
theorem resume_val {x : D} {d : DS} {Ψ : S → DS → Prop} : resume (.val x) d Ψ = Ψ (.val x) d := rfl
theorem resume_new {l : List D} {d : DS} {Ψ : S → DS → Prop} : resume (.new l) d Ψ = Ψ (.own d.o.length) (d.new l) := rfl
theorem trimS_un {m : Nat} : trimS m .un = .un := rfl
theorem trimS_strm {m : Nat} : trimS m .strm = .strm := rfl
theorem trimS_val {m : Nat} {x : D} : trimS m (.val x) = .val x := rfl
theorem trimS_own {m k : Nat} : trimS m (.own k) = if k < m then .own k else .un := rfl
theorem iceS_un {o : List (Bool × List D)} : iceS o .un = .un := rfl
theorem iceS_strm {o : List (Bool × List D)} : iceS o .strm = .strm := rfl
theorem iceS_val {o : List (Bool × List D)} {x : D} : iceS o (.val x) = .val x := rfl
theorem iceS_own {o : List (Bool × List D)} {k : Nat} : iceS o (.own k) = match o[k]? with
    | some e => .val (.lst e.2)
    | none => .un := rfl
theorem seqD_lst {l : List D} : seqD (.lst l) = some l := rfl
theorem seqD_tup {l : List D} : seqD (.tup l) = some l := rfl
theorem iterD_lst {l : List D} : iterD (.lst l) = some l := rfl
theorem iterD_tup {l : List D} : iterD (.tup l) = some l := rfl
theorem iterD_str {y : Str} : iterD (.str y) = some (signs y) := rfl
theorem lenD_lst {l : List D} : lenD (.lst l) = some l.length := rfl
theorem lenD_tup {l : List D} : lenD (.tup l) = some l.length := rfl
theorem lenD_str {y : Str} : lenD (.str y) = if y.length ≤ 1000000 then some y.length else none := rfl
theorem tyD_non : tyD .non = some "NoneType" := rfl
theorem tyD_bl {b : Bool} : tyD (.bl b) = some "bool" := rfl
theorem tyD_int {i : Int} : tyD (.int i) = some "int" := rfl
theorem tyD_str {y : Str} : tyD (.str y) = some "str" := rfl
theorem tyD_lst {l : List D} : tyD (.lst l) = some "list" := rfl
theorem tyD_tup {l : List D} : tyD (.tup l) = some "tuple" := rfl
theorem tyD_dic {l : List (Key × D)} : tyD (.dic l) = some "dict" := rfl
theorem flatD_non : flatD .non = some .non := rfl
theorem flatD_bl {b : Bool} : flatD (.bl b) = some (.bl b) := rfl
theorem flatD_int {i : Int} : flatD (.int i) = some (.int i) := rfl
theorem flatD_str {y : Str} : flatD (.str y) = some (.str y) := rfl
theorem atD_lst {l : List D} {i : Int} : atD (.lst l) i = atI l i := rfl
theorem atD_tup {l : List D} {i : Int} : atD (.tup l) i = atI l i := rfl
theorem atD_of {x : D} {l : List D} {i : Int} (h : seqD x = some l) : atD x i = atI l i := by cases x <;> cases h <;> rfl
theorem lenD_of {x : D} {l : List D} (h : seqD x = some l) : lenD x = some l.length := by cases x <;> cases h <;> rfl
theorem iterD_of {x : D} {l : List D} (h : seqD x = some l) : iterD x = some l := by cases x <;> cases h <;> rfl
/-! ### data that may be compared: its depth, its texts -/
mutual
def pl : Nat → D → Bool
  | _, .non => true
  | _, .bl _ => true
  | _, .int _ => true
  | _, .str x => PyData.strOk x && decide (x.length ≤ 1000000)
  | 0, .lst _ => false
  | 0, .tup _ => false
  | n + 1, .lst l => pls n l
  | n + 1, .tup l => pls n l
  | _, .dic _ => false
  | _, .obj _ _ => false
def pls : Nat → List D → Bool
  | _, [] => true
  | n, x :: l => pl n x && pls n l
end
theorem pls_iff {n : Nat} : ∀ {l : List D}, pls n l = true ↔ ∀ x ∈ l, pl n x = true
  | [] => by simp [pls]
  | x :: l => by simp [pls, pls_iff (l := l)]
mutual
theorem pl_plain : ∀ (n : Nat) (x : D), pl n x = true → plain x = true ∧ (py x).canLay0 = true ∧ (py x).depth ≤ n
  | n, .non, _ => ⟨rfl, by simp [py, PyData.canLay0], by simp [py, PyData.depth]⟩
  | n, .bl _, _ => ⟨rfl, by simp [py, PyData.canLay0], by simp [py, PyData.depth]⟩
  | n, .int _, _ => ⟨rfl, by simp [py, PyData.canLay0], by simp [py, PyData.depth]⟩
  | n, .str x, h => by
    have h' : (PyData.strOk x && decide (x.length ≤ 1000000)) = true := by cases n <;> exact h
    rw [Bool.and_eq_true] at h'
    exact ⟨rfl, by simp [py, PyData.canLay0, h'.1], by simp [py, PyData.depth]⟩
  | 0, .lst l, h => by cases h
  | 0, .tup l, h => by cases h
  | n + 1, .lst l, h => by
    obtain ⟨h1, h2, h3⟩ := pls_plain n l h
    exact ⟨h1, by simp [py, PyData.canLay0, h2], by simp [py, PyData.depth]; exact h3⟩
  | n + 1, .tup l, h => by
    obtain ⟨h1, h2, h3⟩ := pls_plain n l h
    exact ⟨h1, by simp [py, PyData.canLay0, h2], by simp [py, PyData.depth]; exact h3⟩
  | n, .dic _, h => by cases n <;> cases h
  | n, .obj _ _, h => by cases n <;> cases h
theorem pls_plain : ∀ (n : Nat) (l : List D), pls n l = true → plains l = true ∧ PyData.canLayAll0 (pys l) = true ∧ PyData.depthAll (pys l) ≤ n
  | n, [], _ => ⟨rfl, by simp [pys, PyData.canLayAll0], by simp [pys, PyData.depthAll]⟩
  | n, x :: l, h => by
    have h' : (pl n x && pls n l) = true := h
    rw [Bool.and_eq_true] at h'
    obtain ⟨a1, a2, a3⟩ := pl_plain n x h'.1
    obtain ⟨b1, b2, b3⟩ := pls_plain n l h'.2
    refine ⟨by show (plain x && plains l) = true; rw [a1, b1]; rfl, by simp [pys, PyData.canLayAll0, a2, b2], ?_⟩
    simp only [pys, PyData.depthAll]
    omega
end
theorem pl_eqs {n : Nat} {x : D} (h : pl n x = true) (hn : n ≤ 64) : Eqs x := by
  obtain ⟨h1, h2, h3⟩ := pl_plain n x h
  exact ⟨h1, by unfold SeqAt.shaped; rw [h2, decide_eq_true (by omega)]; rfl⟩
theorem py_int (i : Int) : py (.int i) = .int i := rfl
theorem py_bl (i : Bool) : py (.bl i) = .bool i := rfl
theorem py_str (i : Str) : py (.str i) = .str i := rfl
theorem eqv_int (i j : Int) : PyData.eqv (.int i) (.int j) = decide (i = j) := by
  show (i == j) = decide (i = j)
  rw [Bool.eq_iff_iff]; simp
theorem eqv_bl (i j : Bool) : PyData.eqv (.bool i) (.bool j) = (i == j) := rfl
theorem eqv_str (i j : Str) : PyData.eqv (.str i) (.str j) = (i == j) := rfl
theorem eqs_int (i : Int) : Eqs (.int i) := pl_eqs (n := 0) rfl (by decide)
theorem eqs_bl (i : Bool) : Eqs (.bl i) := pl_eqs (n := 0) rfl (by decide)
theorem pl_ty {n : Nat} {x : D} (h : pl n x = true) : ∃ T, tyD x = some T := by
  cases x <;> first | exact ⟨_, rfl⟩ | (cases n <;> cases h)

/-! ### basics -/
def isInt : D → Bool
  | .int _ => true
  | _ => false
def isNum : D → Bool
  | .int i => decide (0 ≤ i)
  | _ => false
def isLst (x : D) : Bool := (seqD x).isSome
def isRow (x : D) (k : Int) : Bool := match seqD x with
  | some l => decide ((l.length : Int) = k)
  | none => false
def m_is_integer : FM := fun ds n Ψ => ∃ x T, ds = [x] ∧ tyD x = some T ∧ Ψ (.val (.bl (isInt x))) n
def m_is_number : FM := fun ds n Ψ => ∃ x T, ds = [x] ∧ tyD x = some T ∧ Ψ (.val (.bl (isNum x))) n
def m_is_list : FM := fun ds n Ψ => ∃ x T, ds = [x] ∧ tyD x = some T ∧ Ψ (.val (.bl (isLst x))) n
def m_is_row : FM := fun ds n Ψ => ∃ x T k, ds = [x, .int k] ∧ tyD x = some T ∧ Ψ (.val (.bl (isRow x k))) n
/-- is_integer: thing -/
def w_is_integer : DTS :=
  (dRet (dAndV (dIsi ["int"] (dVar 0)) (dNotV (dIsi ["bool"] (dVar 0)))))
theorem rd_is_integer : ∀ ds n Ψ, ds.length = 1 → m_is_integer ds n Ψ → w_is_integer (fnStart false ds 0 n) (fnEnds Ψ) := by
  rintro ds n Ψ - ⟨x, T, rfl, ht, h⟩
  cases x <;> cases ht <;> simpa [dRet, dAndV, dOrV, dNotV, dIsi, dVar, dC, dOp, dCB, dCons, dNil, dLst, dTup, dSeq, dIfS, dOr, dAnd, dNot, dTest, dChain, dInG, gLen, gI0, gEq, gIx, gList, gTuple, gBls, look_val, look_own, fz_val, fz_own, fzs_nil, fzs_cons, fnStart, fnEnds, ret_val, ret_own, gCall, dCall, resume_val, resume_new, dSet, dgName, dgCons, dgNil, dgTup, dgSeq, DS.put, DS.new, DS.trim, trimS_un, trimS_val, trimS_strm, trimS_own, wipeR, dYes, seqD_lst, seqD_tup, iterD_lst, iterD_tup, iterD_str, lenD_lst, lenD_tup, lenD_str, tyD_non, tyD_bl, tyD_int, tyD_str, tyD_lst, tyD_tup, tyD_dic, isiD, flatD_non, flatD_bl, flatD_int, flatD_str, atD_lst, atD_tup, dPar, dIf, dDrop, dBM, gAppend, gExtend, gPopAt, gClear, diSeq, diRng1, diRng2, diEnum, diZip, dSl, dPart, dNo, gSl, gInS, gIn, gPlus, gOr, gCat, gCatS, gTimes, gRep, gI, blsD, putAll, dParT, dStar, DS.ice, iceS_un, iceS_val, iceS_strm, iceS_own, dOr2, gNeS, and_assoc, w_is_integer, isInt] using h
/-- is_number: thing -/
def w_is_number : DTS :=
  (dRet (dAndV (dCall false 1 m_is_integer (dCons (dVar 0) dNil)) (dOp (gI0 fun i j => .bl (decide (j ≤ i))) (dVar 0) (dC (.int 0)))))
theorem rd_is_number : ∀ ds n Ψ, ds.length = 1 → m_is_number ds n Ψ → w_is_number (fnStart false ds 0 n) (fnEnds Ψ) := by
  rintro ds n Ψ - ⟨x, T, rfl, ht, h⟩
  cases x <;> cases ht <;> simpa [dRet, dAndV, dOrV, dNotV, dIsi, dVar, dC, dOp, dCB, dCons, dNil, dLst, dTup, dSeq, dIfS, dOr, dAnd, dNot, dTest, dChain, dInG, gLen, gI0, gEq, gIx, gList, gTuple, gBls, look_val, look_own, fz_val, fz_own, fzs_nil, fzs_cons, fnStart, fnEnds, ret_val, ret_own, gCall, dCall, resume_val, resume_new, dSet, dgName, dgCons, dgNil, dgTup, dgSeq, DS.put, DS.new, DS.trim, trimS_un, trimS_val, trimS_strm, trimS_own, wipeR, dYes, seqD_lst, seqD_tup, iterD_lst, iterD_tup, iterD_str, lenD_lst, lenD_tup, lenD_str, tyD_non, tyD_bl, tyD_int, tyD_str, tyD_lst, tyD_tup, tyD_dic, isiD, flatD_non, flatD_bl, flatD_int, flatD_str, atD_lst, atD_tup, dPar, dIf, dDrop, dBM, gAppend, gExtend, gPopAt, gClear, diSeq, diRng1, diRng2, diEnum, diZip, dSl, dPart, dNo, gSl, gInS, gIn, gPlus, gOr, gCat, gCatS, gTimes, gRep, gI, blsD, putAll, dParT, dStar, DS.ice, iceS_un, iceS_val, iceS_strm, iceS_own, dOr2, gNeS, and_assoc, w_is_number, m_is_integer, isInt, isNum] using h
/-- is_list: thing -/
def w_is_list : DTS :=
  (dRet (dIsi ["list", "tuple"] (dVar 0)))
theorem rd_is_list : ∀ ds n Ψ, ds.length = 1 → m_is_list ds n Ψ → w_is_list (fnStart false ds 0 n) (fnEnds Ψ) := by
  rintro ds n Ψ - ⟨x, T, rfl, ht, h⟩
  cases x <;> cases ht <;> simpa [dRet, dAndV, dOrV, dNotV, dIsi, dVar, dC, dOp, dCB, dCons, dNil, dLst, dTup, dSeq, dIfS, dOr, dAnd, dNot, dTest, dChain, dInG, gLen, gI0, gEq, gIx, gList, gTuple, gBls, look_val, look_own, fz_val, fz_own, fzs_nil, fzs_cons, fnStart, fnEnds, ret_val, ret_own, gCall, dCall, resume_val, resume_new, dSet, dgName, dgCons, dgNil, dgTup, dgSeq, DS.put, DS.new, DS.trim, trimS_un, trimS_val, trimS_strm, trimS_own, wipeR, dYes, seqD_lst, seqD_tup, iterD_lst, iterD_tup, iterD_str, lenD_lst, lenD_tup, lenD_str, tyD_non, tyD_bl, tyD_int, tyD_str, tyD_lst, tyD_tup, tyD_dic, isiD, flatD_non, flatD_bl, flatD_int, flatD_str, atD_lst, atD_tup, dPar, dIf, dDrop, dBM, gAppend, gExtend, gPopAt, gClear, diSeq, diRng1, diRng2, diEnum, diZip, dSl, dPart, dNo, gSl, gInS, gIn, gPlus, gOr, gCat, gCatS, gTimes, gRep, gI, blsD, putAll, dParT, dStar, DS.ice, iceS_un, iceS_val, iceS_strm, iceS_own, dOr2, gNeS, and_assoc, w_is_list, isLst, seqD] using h
/-- is_row: thing, many -/
def w_is_row : DTS :=
  (dRet (dAndV (dCall false 1 m_is_list (dCons (dVar 0) dNil)) (dOp (gEq id) (dCB gLen (dCons (dVar 0) dNil)) (dVar 1))))
theorem rd_is_row : ∀ ds n Ψ, ds.length = 2 → m_is_row ds n Ψ → w_is_row (fnStart false ds 0 n) (fnEnds Ψ) := by
  rintro ds n Ψ - ⟨x, T, k, rfl, ht, h⟩
  cases x <;> cases ht <;> simpa [dRet, dAndV, dOrV, dNotV, dIsi, dVar, dC, dOp, dCB, dCons, dNil, dLst, dTup, dSeq, dIfS, dOr, dAnd, dNot, dTest, dChain, dInG, gLen, gI0, gEq, gIx, gList, gTuple, gBls, look_val, look_own, fz_val, fz_own, fzs_nil, fzs_cons, fnStart, fnEnds, ret_val, ret_own, gCall, dCall, resume_val, resume_new, dSet, dgName, dgCons, dgNil, dgTup, dgSeq, DS.put, DS.new, DS.trim, trimS_un, trimS_val, trimS_strm, trimS_own, wipeR, dYes, seqD_lst, seqD_tup, iterD_lst, iterD_tup, iterD_str, lenD_lst, lenD_tup, lenD_str, tyD_non, tyD_bl, tyD_int, tyD_str, tyD_lst, tyD_tup, tyD_dic, isiD, flatD_non, flatD_bl, flatD_int, flatD_str, atD_lst, atD_tup, dPar, dIf, dDrop, dBM, gAppend, gExtend, gPopAt, gClear, diSeq, diRng1, diRng2, diEnum, diZip, dSl, dPart, dNo, gSl, gInS, gIn, gPlus, gOr, gCat, gCatS, gTimes, gRep, gI, blsD, putAll, dParT, dStar, DS.ice, iceS_un, iceS_val, iceS_strm, iceS_own, dOr2, gNeS, and_assoc, w_is_row, m_is_list, isLst, isRow, seqD, eqs_int, py_int, eqv_int] using h

/-! ### comprehensions, each item by itself -/
theorem dLc_map {wi : DTI} {g : DTG} {we : DTE} {vs : List Nat} {d d1 : DS} {Ψ : S → DS → Prop} (items : List D) (f : D → D) (h1 : ∀ Φ : List D → DS → Prop, Φ items d1 → wi d Φ) (hl : items.length ≤ 1000000)
    (hs : ∀ x ∈ items, ∀ (acc : List D) (Θ : S → DS → Prop), (∀ s d4 d5, fz d4 s = some (f x, d5) → wipeR d5.r vs = wipeR d1.r vs → d5.o.take (d1.o.length + 1) = d1.o ++ [(true, acc)] → d5.n = d1.n → Θ s d4) → g (.val x) ⟨wipeR d1.r vs, d1.o ++ [(true, acc)], d1.n⟩ fun d2 => we d2 Θ)
    (fin : Ψ (.own d1.o.length) ⟨wipeR d1.r vs, d1.o ++ [(true, items.map f)], d1.n⟩) : dLc wi g dYes we vs d Ψ := by
  refine h1 _ ⟨fun i acc n => acc = (items.take i).map f ∧ n = d1.n, ⟨by simp, rfl⟩, fun i x acc n hx ⟨e1, e2⟩ => ?_, fun acc n ⟨e1, e2⟩ => ?_⟩
  · subst e2
    have hm := List.mem_of_getElem? hx
    have := hs x hm acc (fun s d4 => ∃ e d5, fz d4 s = some (e, d5) ∧ wipeR d5.r vs = wipeR d1.r vs ∧ d5.o.take (d1.o.length + 1) = d1.o ++ [(true, acc)] ∧ acc.length ≤ 1000000 ∧ acc ++ [e] = (items.take (i + 1)).map f ∧ d5.n = d1.n) fun s d4 d5 a1 a2 a3 a4 => ⟨_, d5, a1, a2, a3, by rw [e1, List.length_map, List.length_take]; omega, by rw [e1, List.take_add_one, hx]; simp, a4⟩
    simpa [dYes] using this
  · subst e1 e2
    rw [List.take_length]
    exact fin
/-- with draws: what is made and how many draws there have been -/
theorem dLc_rel {wi : DTI} {g : DTG} {we : DTE} {vs : List Nat} {d d1 : DS} {Ψ : S → DS → Prop} (items : List D) (P : Nat → D → D → Prop) (k : Nat) (h1 : ∀ Φ : List D → DS → Prop, Φ items d1 → wi d Φ) (hl : items.length ≤ 1000000)
    (hs : ∀ i x, items[i]? = some x → ∀ (acc : List D) (n : Nat), n ≤ d1.n + i * k → ∀ Θ : S → DS → Prop, (∀ s d4 d5 e, fz d4 s = some (e, d5) → P i x e → wipeR d5.r vs = wipeR d1.r vs → d5.o.take (d1.o.length + 1) = d1.o ++ [(true, acc)] → d5.n ≤ n + k → Θ s d4) → g (.val x) ⟨wipeR d1.r vs, d1.o ++ [(true, acc)], n⟩ fun d2 => we d2 Θ)
    (fin : ∀ (l : List D) (n : Nat), l.length = items.length → (∀ i x e, items[i]? = some x → l[i]? = some e → P i x e) → n ≤ d1.n + items.length * k → Ψ (.own d1.o.length) ⟨wipeR d1.r vs, d1.o ++ [(true, l)], n⟩) : dLc wi g dYes we vs d Ψ := by
  refine h1 _ ⟨fun i acc n => i ≤ items.length ∧ acc.length = i ∧ (∀ j x e, items[j]? = some x → acc[j]? = some e → P j x e) ∧ n ≤ d1.n + i * k, ⟨Nat.zero_le _, rfl, fun j x e _ h => by simp at h, by omega⟩, fun i x acc n hx ⟨e0, e1, e2, e3⟩ => ?_, fun acc n ⟨_, e1, e2, e3⟩ => fin acc n e1 e2 e3⟩
  have hlt := (List.getElem?_eq_some_iff.mp hx).1
  have := hs i x hx acc n e3 (fun s d4 => ∃ e d5, fz d4 s = some (e, d5) ∧ wipeR d5.r vs = wipeR d1.r vs ∧ d5.o.take (d1.o.length + 1) = d1.o ++ [(true, acc)] ∧ acc.length ≤ 1000000 ∧ (i + 1 ≤ items.length ∧ (acc ++ [e]).length = i + 1 ∧ (∀ j x e', items[j]? = some x → (acc ++ [e])[j]? = some e' → P j x e') ∧ d5.n ≤ d1.n + (i + 1) * k)) fun s d4 d5 e a1 a0 a2 a3 a4 => ⟨e, d5, a1, a2, a3, by omega, hlt, by simp [e1], fun j y e' hy he => ?_, by rw [Nat.add_mul]; omega⟩
  · simpa [dYes] using this
  · by_cases hj : j < acc.length
    · rw [List.getElem?_append_left hj] at he
      exact e2 j y e' hy he
    · have hj2 := (List.getElem?_eq_some_iff.mp he).1
      simp at hj2
      have : j = i := by omega
      subst this
      rw [hx] at hy
      cases hy
      rw [← e1, List.getElem?_append_right (Nat.le_refl _)] at he
      simp at he
      subst he
      exact a0

/-! ### agents, layers -/
def l_WORDS : List V := [.str "cipher", .str "seal", .str "label", .str "word", .str "nothing", .str "takes", .str "puts", .str "protocol"]
def l_KINDS : List V := [.str "cipher", .str "seal", .str "label"]
def c_ALPHABET : D := .str "abcdefghijklmnopqrstuvwxyz"
def isSign (x : D) : Bool := match x with
  | .str s => s.cps.toList.all fun c => decide (c ∈ ("abcdefghijklmnopqrstuvwxyz" : Str).cps.toList)
  | _ => false
def isAgent : D → Bool
  | .str s => decide ((1 : Int) ≤ s.length) && decide ((s.length : Int) ≤ 8) && !(inV (.str s) l_WORDS) && (signs s).all isSign
  | _ => false
def m_is_agent : FM := fun ds n Ψ => ∃ x T, ds = [x] ∧ tyD x = some T ∧ (∀ s, x = .str s → s.length ≤ 1000000) ∧ Ψ (.val (.bl (isAgent x))) n
theorem blsD_map (f : D → Bool) (l : List D) : blsD (l.map fun x => .bl (f x)) = some (l.map f) := by
  induction l with
  | nil => rfl
  | cons x l ih => simp [blsD, ih]
/-- is_agent: thing, sign -/
def w_is_agent : DTS :=
  (dSeq (dIfS (dOr (dNot (dTest (dIsi ["str"] (dVar 0)))) (dOr (dNot (dTest (dChain (fun i j => decide (i ≤ j)) (fun i j => decide (i ≤ j)) (dC (.int 1)) (dCB gLen (dCons (dVar 0) dNil)) (dC (.int 8))))) (dTest (dInG l_WORDS (dVar 0)))))
      (dRet (dC (.bl false)))
      (fun d Φ => Φ.nx d))
    (dRet (dCB (gBls fun bs => bs.all id) (dCons (dLc (diSeq (dVar 0)) (dgName 1) dYes (dOp (gInS id) (dVar 1) (dC c_ALPHABET)) [1]) dNil))))
theorem rd_is_agent : ∀ ds n Ψ, ds.length = 1 → m_is_agent ds n Ψ → w_is_agent (fnStart false ds 1 n) (fnEnds Ψ) := by
  rintro ds n Ψ - ⟨x, T, rfl, ht, hl, h⟩
  cases x with
  | str s =>
    have hl := hl s rfl
    have e : decide (s.length ≤ 1000000) = true := decide_eq_true hl
    simp [dRet, dAndV, dOrV, dNotV, dIsi, dVar, dC, dOp, dCB, dCons, dNil, dLst, dTup, dSeq, dIfS, dOr, dAnd, dNot, dTest, dChain, dInG, gLen, gI0, gEq, gIx, gList, gTuple, gBls, look_val, look_own, fz_val, fz_own, fzs_nil, fzs_cons, fnStart, fnEnds, ret_val, ret_own, gCall, dCall, resume_val, resume_new, dSet, dgName, dgCons, dgNil, dgTup, dgSeq, DS.put, DS.new, DS.trim, trimS_un, trimS_val, trimS_strm, trimS_own, wipeR, dYes, seqD_lst, seqD_tup, iterD_lst, iterD_tup, iterD_str, lenD_lst, lenD_tup, lenD_str, tyD_non, tyD_bl, tyD_int, tyD_str, tyD_lst, tyD_tup, tyD_dic, isiD, flatD_non, flatD_bl, flatD_int, flatD_str, atD_lst, atD_tup, dPar, dIf, dDrop, dBM, gAppend, gExtend, gPopAt, gClear, diSeq, diRng1, diRng2, diEnum, diZip, dSl, dPart, dNo, gSl, gInS, gIn, gPlus, gOr, gCat, gCatS, gTimes, gRep, gI, blsD, putAll, dParT, dStar, DS.ice, iceS_un, iceS_val, iceS_strm, iceS_own, dOr2, gNeS, and_assoc, w_is_agent, hl]
    by_cases h1 : (1 : Int) ≤ s.length
    · by_cases h2 : (s.length : Int) ≤ 8
      · by_cases h3 : inV (.str s) l_WORDS = true
        · simpa [isAgent, h1, h2, h3] using h
        · simp [h1, h2, h3]
          refine dLc_map (d1 := ⟨[.val (.str s), .un], [], n⟩) (signs s) (fun x => .bl (isSign x)) (fun Φ h => ?_) ?_ (fun x hx acc Θ hΘ => ?_) ?_
          · simpa [dRet, dAndV, dOrV, dNotV, dIsi, dVar, dC, dOp, dCB, dCons, dNil, dLst, dTup, dSeq, dIfS, dOr, dAnd, dNot, dTest, dChain, dInG, gLen, gI0, gEq, gIx, gList, gTuple, gBls, look_val, look_own, fz_val, fz_own, fzs_nil, fzs_cons, fnStart, fnEnds, ret_val, ret_own, gCall, dCall, resume_val, resume_new, dSet, dgName, dgCons, dgNil, dgTup, dgSeq, DS.put, DS.new, DS.trim, trimS_un, trimS_val, trimS_strm, trimS_own, wipeR, dYes, seqD_lst, seqD_tup, iterD_lst, iterD_tup, iterD_str, lenD_lst, lenD_tup, lenD_str, tyD_non, tyD_bl, tyD_int, tyD_str, tyD_lst, tyD_tup, tyD_dic, isiD, flatD_non, flatD_bl, flatD_int, flatD_str, atD_lst, atD_tup, dPar, dIf, dDrop, dBM, gAppend, gExtend, gPopAt, gClear, diSeq, diRng1, diRng2, diEnum, diZip, dSl, dPart, dNo, gSl, gInS, gIn, gPlus, gOr, gCat, gCatS, gTimes, gRep, gI, blsD, putAll, dParT, dStar, DS.ice, iceS_un, iceS_val, iceS_strm, iceS_own, dOr2, gNeS, and_assoc] using h
          · simpa [signs] using (show s.cps.size ≤ 1000000 from hl)
          · obtain ⟨c, hc, rfl⟩ := List.mem_map.mp hx
            simp [dRet, dAndV, dOrV, dNotV, dIsi, dVar, dC, dOp, dCB, dCons, dNil, dLst, dTup, dSeq, dIfS, dOr, dAnd, dNot, dTest, dChain, dInG, gLen, gI0, gEq, gIx, gList, gTuple, gBls, look_val, look_own, fz_val, fz_own, fzs_nil, fzs_cons, fnStart, fnEnds, ret_val, ret_own, gCall, dCall, resume_val, resume_new, dSet, dgName, dgCons, dgNil, dgTup, dgSeq, DS.put, DS.new, DS.trim, trimS_un, trimS_val, trimS_strm, trimS_own, wipeR, dYes, seqD_lst, seqD_tup, iterD_lst, iterD_tup, iterD_str, lenD_lst, lenD_tup, lenD_str, tyD_non, tyD_bl, tyD_int, tyD_str, tyD_lst, tyD_tup, tyD_dic, isiD, flatD_non, flatD_bl, flatD_int, flatD_str, atD_lst, atD_tup, dPar, dIf, dDrop, dBM, gAppend, gExtend, gPopAt, gClear, diSeq, diRng1, diRng2, diEnum, diZip, dSl, dPart, dNo, gSl, gInS, gIn, gPlus, gOr, gCat, gCatS, gTimes, gRep, gI, blsD, putAll, dParT, dStar, DS.ice, iceS_un, iceS_val, iceS_strm, iceS_own, dOr2, gNeS, and_assoc, c_ALPHABET]
            refine hΘ _ _ ⟨[.val (.str s), .val (.str ⟨#[c]⟩)], [(true, acc)], n⟩ ?_ rfl rfl rfl
            simp [dRet, dAndV, dOrV, dNotV, dIsi, dVar, dC, dOp, dCB, dCons, dNil, dLst, dTup, dSeq, dIfS, dOr, dAnd, dNot, dTest, dChain, dInG, gLen, gI0, gEq, gIx, gList, gTuple, gBls, look_val, look_own, fz_val, fz_own, fzs_nil, fzs_cons, fnStart, fnEnds, ret_val, ret_own, gCall, dCall, resume_val, resume_new, dSet, dgName, dgCons, dgNil, dgTup, dgSeq, DS.put, DS.new, DS.trim, trimS_un, trimS_val, trimS_strm, trimS_own, wipeR, dYes, seqD_lst, seqD_tup, iterD_lst, iterD_tup, iterD_str, lenD_lst, lenD_tup, lenD_str, tyD_non, tyD_bl, tyD_int, tyD_str, tyD_lst, tyD_tup, tyD_dic, isiD, flatD_non, flatD_bl, flatD_int, flatD_str, atD_lst, atD_tup, dPar, dIf, dDrop, dBM, gAppend, gExtend, gPopAt, gClear, diSeq, diRng1, diRng2, diEnum, diZip, dSl, dPart, dNo, gSl, gInS, gIn, gPlus, gOr, gCat, gCatS, gTimes, gRep, gI, blsD, putAll, dParT, dStar, DS.ice, iceS_un, iceS_val, iceS_strm, iceS_own, dOr2, gNeS, and_assoc, isSign]
          · simpa [dRet, dAndV, dOrV, dNotV, dIsi, dVar, dC, dOp, dCB, dCons, dNil, dLst, dTup, dSeq, dIfS, dOr, dAnd, dNot, dTest, dChain, dInG, gLen, gI0, gEq, gIx, gList, gTuple, gBls, look_val, look_own, fz_val, fz_own, fzs_nil, fzs_cons, fnStart, fnEnds, ret_val, ret_own, gCall, dCall, resume_val, resume_new, dSet, dgName, dgCons, dgNil, dgTup, dgSeq, DS.put, DS.new, DS.trim, trimS_un, trimS_val, trimS_strm, trimS_own, wipeR, dYes, seqD_lst, seqD_tup, iterD_lst, iterD_tup, iterD_str, lenD_lst, lenD_tup, lenD_str, tyD_non, tyD_bl, tyD_int, tyD_str, tyD_lst, tyD_tup, tyD_dic, isiD, flatD_non, flatD_bl, flatD_int, flatD_str, atD_lst, atD_tup, dPar, dIf, dDrop, dBM, gAppend, gExtend, gPopAt, gClear, diSeq, diRng1, diRng2, diEnum, diZip, dSl, dPart, dNo, gSl, gInS, gIn, gPlus, gOr, gCat, gCatS, gTimes, gRep, gI, blsD, putAll, dParT, dStar, DS.ice, iceS_un, iceS_val, iceS_strm, iceS_own, dOr2, gNeS, and_assoc, blsD_map, isAgent, h1, h2, h3] using h
      · simpa [isAgent, h1, h2] using h
    · simpa [isAgent, h1] using h
  | _ => cases ht <;> simpa [dRet, dAndV, dOrV, dNotV, dIsi, dVar, dC, dOp, dCB, dCons, dNil, dLst, dTup, dSeq, dIfS, dOr, dAnd, dNot, dTest, dChain, dInG, gLen, gI0, gEq, gIx, gList, gTuple, gBls, look_val, look_own, fz_val, fz_own, fzs_nil, fzs_cons, fnStart, fnEnds, ret_val, ret_own, gCall, dCall, resume_val, resume_new, dSet, dgName, dgCons, dgNil, dgTup, dgSeq, DS.put, DS.new, DS.trim, trimS_un, trimS_val, trimS_strm, trimS_own, wipeR, dYes, seqD_lst, seqD_tup, iterD_lst, iterD_tup, iterD_str, lenD_lst, lenD_tup, lenD_str, tyD_non, tyD_bl, tyD_int, tyD_str, tyD_lst, tyD_tup, tyD_dic, isiD, flatD_non, flatD_bl, flatD_int, flatD_str, atD_lst, atD_tup, dPar, dIf, dDrop, dBM, gAppend, gExtend, gPopAt, gClear, diSeq, diRng1, diRng2, diEnum, diZip, dSl, dPart, dNo, gSl, gInS, gIn, gPlus, gOr, gCat, gCatS, gTimes, gRep, gI, blsD, putAll, dParT, dStar, DS.ice, iceS_un, iceS_val, iceS_strm, iceS_own, dOr2, gNeS, and_assoc, w_is_agent, isAgent] using h
end RH

set_option Elab.async false
set_option linter.all false
set_option maxRecDepth 100000
set_option maxHeartbeats 2000000
/-! readings, on: layers -/
namespace RH
open PySem PySem.Spec PyProof.Rows L2

theorem at0 {α : Type} {a : α} {l : List α} : atI (a :: l) 0 = some a := by
  have h : (0 : Int) < (l.length : Int) + 1 := by omega
  simp [atI, ixN, h]
theorem at1 {α : Type} {a b : α} {l : List α} : atI (a :: b :: l) 1 = some b := by
  have h : (1 : Int) < (l.length : Int) + 1 + 1 := by omega
  simp [atI, ixN, h]
theorem at2 {α : Type} {a b c : α} {l : List α} : atI (a :: b :: c :: l) 2 = some c := by
  have h : (2 : Int) < (l.length : Int) + 1 + 1 + 1 := by omega
  simp [atI, ixN, h]
theorem atN {α : Type} {l : List α} {i : Int} {x : α} (h0 : 0 ≤ i) (h : l[i.toNat]? = some x) : atI l i = some x := by
  have h1 : i < l.length := by
    have := (List.getElem?_eq_some_iff.mp h).1
    omega
  have h2 := List.getElem?_eq_some_iff.mp h
  obtain ⟨h3, h4⟩ := h2
  simp [atI, ixN, h0, h1, h4]
theorem pl_seq {n : Nat} {x : D} {l : List D} (h : pl (n + 1) x = true) (e : seqD x = some l) : ∀ y ∈ l, pl n y = true := by
  cases x with
  | lst l' => cases e; exact pls_iff.mp h
  | tup l' => cases e; exact pls_iff.mp h
  | _ => cases e
theorem pl_str {n : Nat} {s : Str} (h : pl n (.str s) = true) : Eqs (.str s) ∧ s.length ≤ 1000000 := by
  have h' : (PyData.strOk s && decide (s.length ≤ 1000000)) = true := by cases n <;> exact h
  rw [Bool.and_eq_true, decide_eq_true_eq] at h'
  exact ⟨pl_eqs (n := 0) (by show (PyData.strOk s && decide (s.length ≤ 1000000)) = true; rw [h'.1, decide_eq_true h'.2]; rfl) (by decide), h'.2⟩
theorem eqs_word : Eqs (.str "word") := pl_eqs (n := 0) (by decide +kernel) (by decide)

def isStr (x : D) (y : Str) : Bool := match x with
  | .str s => s == y
  | _ => false
def isDigit : D → Bool
  | .int i => decide (0 ≤ i) && decide (i ≤ 9)
  | _ => false
def isWord (x : D) : Bool := match seqD x with
  | some [a, b] => isStr a "word" && isDigit b
  | _ => false
def m_is_word : FM := fun ds n Ψ => ∃ x, ds = [x] ∧ pl 60 x = true ∧ Ψ (.val (.bl (isWord x))) n
/-- is_word: thing -/
def w_is_word : DTS :=
  (dSeq (dIfS (dOr (dNot (dTest (dCall false 2 m_is_row (dCons (dVar 0) (dCons (dC (.int 2)) dNil))))) (dOr (dNot (dTest (dIsi ["str"] (dOp gIx (dVar 0) (dC (.int 0)))))) (dTest (dOp (gEq (!·)) (dOp gIx (dVar 0) (dC (.int 0))) (dC (.str "word"))))))
      (dRet (dC (.bl false)))
      (fun d Φ => Φ.nx d))
    (dRet (dAndV (dCall false 1 m_is_integer (dCons (dOp gIx (dVar 0) (dC (.int 1))) dNil)) (dChain (fun i j => decide (i ≤ j)) (fun i j => decide (i ≤ j)) (dC (.int 0)) (dOp gIx (dVar 0) (dC (.int 1))) (dC (.int 9))))))
def isS : D → Bool
  | .str _ => true
  | _ => false
theorem isi_str {x : D} {T : String} (h : tyD x = some T) : isiD ["str"] T = isS x := by cases x <;> cases h <;> rfl
theorem ty_ns {x : D} {T : String} (h : tyD x = some T) (e : isS x = false) : ¬ T = "str" := by cases x <;> cases h <;> first | decide | cases e
theorem isRow_none {x : D} {k : Int} (h : seqD x = none) : isRow x k = false := by simp [isRow, h]
theorem isRow_some {x : D} {k : Int} {l : List D} (h : seqD x = some l) : isRow x k = decide ((l.length : Int) = k) := by simp [isRow, h]
theorem len2 {l : List D} (h : (l.length : Int) = 2) : ∃ a b, l = [a, b] := by
  match l, h with
  | [a, b], _ => exact ⟨a, b, rfl⟩
  | [], h => simp at h
  | [_], h => simp at h
  | _ :: _ :: _ :: _, h => simp only [List.length_cons] at h; omega
theorem isWord_row {x : D} (h : isRow x 2 = false) : isWord x = false := by
  unfold isWord
  cases e : seqD x with
  | none => rfl
  | some l =>
    rw [isRow_some e, decide_eq_false_iff_not] at h
    match l, h with
    | [], _ => rfl
    | [_], _ => rfl
    | [_, _], h => exact absurd rfl h
    | _ :: _ :: _ :: _, _ => rfl
theorem isStr_of {x : D} {y : Str} (h : isS x = false) : isStr x y = false := by cases x <;> first | rfl | cases h
theorem isDigit_of {x : D} (h : isInt x = false) : isDigit x = false := by cases x <;> first | rfl | cases h
theorem rd_is_word : ∀ ds n Ψ, ds.length = 1 → m_is_word ds n Ψ → w_is_word (fnStart false ds 0 n) (fnEnds Ψ) := by
  rintro ds n Ψ - ⟨x, rfl, hp, h⟩
  obtain ⟨T, hT⟩ := pl_ty hp
  by_cases hr : isRow x 2 = true
  · obtain ⟨l, hs⟩ : ∃ l, seqD x = some l := by
      cases e : seqD x with
      | none => rw [isRow_none e] at hr; cases hr
      | some l => exact ⟨l, rfl⟩
    have hl := pl_seq (n := 59) hp hs
    rw [isRow_some hs, decide_eq_true_eq] at hr
    obtain ⟨a, b, rfl⟩ := len2 hr
    have ha := hl a (by simp)
    have hb := hl b (by simp)
    obtain ⟨Ta, hta⟩ := pl_ty ha
    obtain ⟨Tb, htb⟩ := pl_ty hb
    have i1 := isi_str hta
    simp only [isWord, hs] at h
    cases hsa : isS a with
    | false =>
      have i2 := ty_ns hta hsa
      rw [isStr_of hsa] at h
      simpa [dRet, dAndV, dOrV, dNotV, dIsi, dVar, dC, dOp, dCB, dCons, dNil, dLst, dTup, dSeq, dIfS, dOr, dAnd, dNot, dTest, dChain, dInG, gLen, gI0, gEq, gIx, gList, gTuple, gBls, look_val, look_own, fz_val, fz_own, fzs_nil, fzs_cons, fnStart, fnEnds, ret_val, ret_own, gCall, dCall, resume_val, resume_new, dSet, dgName, dgCons, dgNil, dgTup, dgSeq, DS.put, DS.new, DS.trim, trimS_un, trimS_val, trimS_strm, trimS_own, wipeR, dYes, seqD_lst, seqD_tup, iterD_lst, iterD_tup, iterD_str, lenD_lst, lenD_tup, lenD_str, tyD_non, tyD_bl, tyD_int, tyD_str, tyD_lst, tyD_tup, tyD_dic, isiD, flatD_non, flatD_bl, flatD_int, flatD_str, atD_lst, atD_tup, dPar, dIf, dDrop, dBM, gAppend, gExtend, gPopAt, gClear, diSeq, diRng1, diRng2, diEnum, diZip, dSl, dPart, dNo, gSl, gInS, gIn, gPlus, gOr, gCat, gCatS, gTimes, gRep, gI, blsD, putAll, dParT, dStar, DS.ice, iceS_un, iceS_val, iceS_strm, iceS_own, dOr2, gNeS, and_assoc, w_is_word, m_is_row, isRow_some hs, hT, atD_of hs, at0, at1, hta, i2] using h
    | true =>
      obtain ⟨s, rfl⟩ : ∃ s, a = .str s := by cases a <;> first | exact ⟨_, rfl⟩ | cases hsa
      obtain ⟨h1, h2⟩ := pl_str ha
      by_cases hw : s = "word"
      · subst hw
        cases hi : isInt b with
        | false =>
          rw [isDigit_of hi] at h
          simpa [dRet, dAndV, dOrV, dNotV, dIsi, dVar, dC, dOp, dCB, dCons, dNil, dLst, dTup, dSeq, dIfS, dOr, dAnd, dNot, dTest, dChain, dInG, gLen, gI0, gEq, gIx, gList, gTuple, gBls, look_val, look_own, fz_val, fz_own, fzs_nil, fzs_cons, fnStart, fnEnds, ret_val, ret_own, gCall, dCall, resume_val, resume_new, dSet, dgName, dgCons, dgNil, dgTup, dgSeq, DS.put, DS.new, DS.trim, trimS_un, trimS_val, trimS_strm, trimS_own, wipeR, dYes, seqD_lst, seqD_tup, iterD_lst, iterD_tup, iterD_str, lenD_lst, lenD_tup, lenD_str, tyD_non, tyD_bl, tyD_int, tyD_str, tyD_lst, tyD_tup, tyD_dic, isiD, flatD_non, flatD_bl, flatD_int, flatD_str, atD_lst, atD_tup, dPar, dIf, dDrop, dBM, gAppend, gExtend, gPopAt, gClear, diSeq, diRng1, diRng2, diEnum, diZip, dSl, dPart, dNo, gSl, gInS, gIn, gPlus, gOr, gCat, gCatS, gTimes, gRep, gI, blsD, putAll, dParT, dStar, DS.ice, iceS_un, iceS_val, iceS_strm, iceS_own, dOr2, gNeS, and_assoc, w_is_word, m_is_row, isRow_some hs, hT, atD_of hs, at0, at1, eqs_word, py_str, eqv_str, m_is_integer, htb, hi] using h
        | true =>
          obtain ⟨i, rfl⟩ : ∃ i, b = .int i := by cases b <;> first | exact ⟨_, rfl⟩ | cases hi
          by_cases h0 : 0 ≤ i
          · simpa [dRet, dAndV, dOrV, dNotV, dIsi, dVar, dC, dOp, dCB, dCons, dNil, dLst, dTup, dSeq, dIfS, dOr, dAnd, dNot, dTest, dChain, dInG, gLen, gI0, gEq, gIx, gList, gTuple, gBls, look_val, look_own, fz_val, fz_own, fzs_nil, fzs_cons, fnStart, fnEnds, ret_val, ret_own, gCall, dCall, resume_val, resume_new, dSet, dgName, dgCons, dgNil, dgTup, dgSeq, DS.put, DS.new, DS.trim, trimS_un, trimS_val, trimS_strm, trimS_own, wipeR, dYes, seqD_lst, seqD_tup, iterD_lst, iterD_tup, iterD_str, lenD_lst, lenD_tup, lenD_str, tyD_non, tyD_bl, tyD_int, tyD_str, tyD_lst, tyD_tup, tyD_dic, isiD, flatD_non, flatD_bl, flatD_int, flatD_str, atD_lst, atD_tup, dPar, dIf, dDrop, dBM, gAppend, gExtend, gPopAt, gClear, diSeq, diRng1, diRng2, diEnum, diZip, dSl, dPart, dNo, gSl, gInS, gIn, gPlus, gOr, gCat, gCatS, gTimes, gRep, gI, blsD, putAll, dParT, dStar, DS.ice, iceS_un, iceS_val, iceS_strm, iceS_own, dOr2, gNeS, and_assoc, w_is_word, m_is_row, isRow_some hs, hT, atD_of hs, at0, at1, eqs_word, py_str, eqv_str, isStr, isDigit, m_is_integer, isInt, h0] using h
          · simpa [dRet, dAndV, dOrV, dNotV, dIsi, dVar, dC, dOp, dCB, dCons, dNil, dLst, dTup, dSeq, dIfS, dOr, dAnd, dNot, dTest, dChain, dInG, gLen, gI0, gEq, gIx, gList, gTuple, gBls, look_val, look_own, fz_val, fz_own, fzs_nil, fzs_cons, fnStart, fnEnds, ret_val, ret_own, gCall, dCall, resume_val, resume_new, dSet, dgName, dgCons, dgNil, dgTup, dgSeq, DS.put, DS.new, DS.trim, trimS_un, trimS_val, trimS_strm, trimS_own, wipeR, dYes, seqD_lst, seqD_tup, iterD_lst, iterD_tup, iterD_str, lenD_lst, lenD_tup, lenD_str, tyD_non, tyD_bl, tyD_int, tyD_str, tyD_lst, tyD_tup, tyD_dic, isiD, flatD_non, flatD_bl, flatD_int, flatD_str, atD_lst, atD_tup, dPar, dIf, dDrop, dBM, gAppend, gExtend, gPopAt, gClear, diSeq, diRng1, diRng2, diEnum, diZip, dSl, dPart, dNo, gSl, gInS, gIn, gPlus, gOr, gCat, gCatS, gTimes, gRep, gI, blsD, putAll, dParT, dStar, DS.ice, iceS_un, iceS_val, iceS_strm, iceS_own, dOr2, gNeS, and_assoc, w_is_word, m_is_row, isRow_some hs, hT, atD_of hs, at0, at1, eqs_word, py_str, eqv_str, isStr, isDigit, m_is_integer, isInt, h0] using h
      · have : isStr (.str s) "word" = false := by simp [isStr, hw]
        rw [this] at h
        simpa [dRet, dAndV, dOrV, dNotV, dIsi, dVar, dC, dOp, dCB, dCons, dNil, dLst, dTup, dSeq, dIfS, dOr, dAnd, dNot, dTest, dChain, dInG, gLen, gI0, gEq, gIx, gList, gTuple, gBls, look_val, look_own, fz_val, fz_own, fzs_nil, fzs_cons, fnStart, fnEnds, ret_val, ret_own, gCall, dCall, resume_val, resume_new, dSet, dgName, dgCons, dgNil, dgTup, dgSeq, DS.put, DS.new, DS.trim, trimS_un, trimS_val, trimS_strm, trimS_own, wipeR, dYes, seqD_lst, seqD_tup, iterD_lst, iterD_tup, iterD_str, lenD_lst, lenD_tup, lenD_str, tyD_non, tyD_bl, tyD_int, tyD_str, tyD_lst, tyD_tup, tyD_dic, isiD, flatD_non, flatD_bl, flatD_int, flatD_str, atD_lst, atD_tup, dPar, dIf, dDrop, dBM, gAppend, gExtend, gPopAt, gClear, diSeq, diRng1, diRng2, diEnum, diZip, dSl, dPart, dNo, gSl, gInS, gIn, gPlus, gOr, gCat, gCatS, gTimes, gRep, gI, blsD, putAll, dParT, dStar, DS.ice, iceS_un, iceS_val, iceS_strm, iceS_own, dOr2, gNeS, and_assoc, w_is_word, m_is_row, isRow_some hs, hT, atD_of hs, at0, at1, eqs_word, h1, py_str, eqv_str, hw] using h
  · have hr : isRow x 2 = false := by simpa using hr
    rw [isWord_row hr] at h
    simpa [dRet, dAndV, dOrV, dNotV, dIsi, dVar, dC, dOp, dCB, dCons, dNil, dLst, dTup, dSeq, dIfS, dOr, dAnd, dNot, dTest, dChain, dInG, gLen, gI0, gEq, gIx, gList, gTuple, gBls, look_val, look_own, fz_val, fz_own, fzs_nil, fzs_cons, fnStart, fnEnds, ret_val, ret_own, gCall, dCall, resume_val, resume_new, dSet, dgName, dgCons, dgNil, dgTup, dgSeq, DS.put, DS.new, DS.trim, trimS_un, trimS_val, trimS_strm, trimS_own, wipeR, dYes, seqD_lst, seqD_tup, iterD_lst, iterD_tup, iterD_str, lenD_lst, lenD_tup, lenD_str, tyD_non, tyD_bl, tyD_int, tyD_str, tyD_lst, tyD_tup, tyD_dic, isiD, flatD_non, flatD_bl, flatD_int, flatD_str, atD_lst, atD_tup, dPar, dIf, dDrop, dBM, gAppend, gExtend, gPopAt, gClear, diSeq, diRng1, diRng2, diEnum, diZip, dSl, dPart, dNo, gSl, gInS, gIn, gPlus, gOr, gCat, gCatS, gTimes, gRep, gI, blsD, putAll, dParT, dStar, DS.ice, iceS_un, iceS_val, iceS_strm, iceS_own, dOr2, gNeS, and_assoc, w_is_word, m_is_row, hr, hT] using h

/-! ### layers, lists of layers, rules -/
def isKind (x : D) : Bool := match x with
  | .str s => inV (.str s) l_KINDS
  | _ => false
def isLayer (x : D) : Bool := isWord x || match seqD x with
  | some [a, b] => isKind a && isAgent b
  | _ => false
def m_is_layer : FM := fun ds n Ψ => ∃ x, ds = [x] ∧ pl 60 x = true ∧ Ψ (.val (.bl (isLayer x))) n
/-- is_layer: thing -/
def w_is_layer : DTS :=
  (dSeq (dIfS (dTest (dCall false 1 m_is_word (dCons (dVar 0) dNil)))
      (dRet (dC (.bl true)))
      (fun d Φ => Φ.nx d))
    (dRet (dAndV (dCall false 2 m_is_row (dCons (dVar 0) (dCons (dC (.int 2)) dNil))) (dAndV (dIsi ["str"] (dOp gIx (dVar 0) (dC (.int 0)))) (dAndV (dInG l_KINDS (dOp gIx (dVar 0) (dC (.int 0)))) (dCall false 1 m_is_agent (dCons (dOp gIx (dVar 0) (dC (.int 1))) dNil)))))))
theorem isLayer_row {x : D} (h : isRow x 2 = false) : isLayer x = false := by
  have h1 := isWord_row h
  unfold isLayer
  rw [h1]
  cases e : seqD x with
  | none => rfl
  | some l =>
    rw [isRow_some e, decide_eq_false_iff_not] at h
    match l, h with
    | [], _ => rfl
    | [_], _ => rfl
    | [_, _], h => exact absurd rfl h
    | _ :: _ :: _ :: _, _ => rfl
theorem pl_len {n : Nat} {x : D} (h : pl n x = true) : ∀ s, x = .str s → s.length ≤ 1000000 := fun s e => by subst e; exact (pl_str h).2
theorem rd_is_layer : ∀ ds n Ψ, ds.length = 1 → m_is_layer ds n Ψ → w_is_layer (fnStart false ds 0 n) (fnEnds Ψ) := by
  rintro ds n Ψ - ⟨x, rfl, hp, h⟩
  obtain ⟨T, hT⟩ := pl_ty hp
  by_cases hw : isWord x = true
  · have : isLayer x = true := by unfold isLayer; rw [hw]; rfl
    rw [this] at h
    simpa [dRet, dAndV, dOrV, dNotV, dIsi, dVar, dC, dOp, dCB, dCons, dNil, dLst, dTup, dSeq, dIfS, dOr, dAnd, dNot, dTest, dChain, dInG, gLen, gI0, gEq, gIx, gList, gTuple, gBls, look_val, look_own, fz_val, fz_own, fzs_nil, fzs_cons, fnStart, fnEnds, ret_val, ret_own, gCall, dCall, resume_val, resume_new, dSet, dgName, dgCons, dgNil, dgTup, dgSeq, DS.put, DS.new, DS.trim, trimS_un, trimS_val, trimS_strm, trimS_own, wipeR, dYes, seqD_lst, seqD_tup, iterD_lst, iterD_tup, iterD_str, lenD_lst, lenD_tup, lenD_str, tyD_non, tyD_bl, tyD_int, tyD_str, tyD_lst, tyD_tup, tyD_dic, isiD, flatD_non, flatD_bl, flatD_int, flatD_str, atD_lst, atD_tup, dPar, dIf, dDrop, dBM, gAppend, gExtend, gPopAt, gClear, diSeq, diRng1, diRng2, diEnum, diZip, dSl, dPart, dNo, gSl, gInS, gIn, gPlus, gOr, gCat, gCatS, gTimes, gRep, gI, blsD, putAll, dParT, dStar, DS.ice, iceS_un, iceS_val, iceS_strm, iceS_own, dOr2, gNeS, and_assoc, w_is_layer, m_is_word, hp, hw] using h
  · have hw : isWord x = false := by simpa using hw
    by_cases hr : isRow x 2 = true
    · obtain ⟨l, hs⟩ : ∃ l, seqD x = some l := by
        cases e : seqD x with
        | none => rw [isRow_none e] at hr; cases hr
        | some l => exact ⟨l, rfl⟩
      have hl := pl_seq (n := 59) hp hs
      rw [isRow_some hs, decide_eq_true_eq] at hr
      obtain ⟨a, b, rfl⟩ := len2 hr
      have ha := hl a (by simp)
      have hb := hl b (by simp)
      obtain ⟨Ta, hta⟩ := pl_ty ha
      obtain ⟨Tb, htb⟩ := pl_ty hb
      simp only [isLayer, hw, hs, Bool.false_or] at h
      cases hsa : isS a with
      | false =>
        have i2 := ty_ns hta hsa
        have : isKind a = false := by cases a <;> first | rfl | cases hsa
        rw [this] at h
        simpa [dRet, dAndV, dOrV, dNotV, dIsi, dVar, dC, dOp, dCB, dCons, dNil, dLst, dTup, dSeq, dIfS, dOr, dAnd, dNot, dTest, dChain, dInG, gLen, gI0, gEq, gIx, gList, gTuple, gBls, look_val, look_own, fz_val, fz_own, fzs_nil, fzs_cons, fnStart, fnEnds, ret_val, ret_own, gCall, dCall, resume_val, resume_new, dSet, dgName, dgCons, dgNil, dgTup, dgSeq, DS.put, DS.new, DS.trim, trimS_un, trimS_val, trimS_strm, trimS_own, wipeR, dYes, seqD_lst, seqD_tup, iterD_lst, iterD_tup, iterD_str, lenD_lst, lenD_tup, lenD_str, tyD_non, tyD_bl, tyD_int, tyD_str, tyD_lst, tyD_tup, tyD_dic, isiD, flatD_non, flatD_bl, flatD_int, flatD_str, atD_lst, atD_tup, dPar, dIf, dDrop, dBM, gAppend, gExtend, gPopAt, gClear, diSeq, diRng1, diRng2, diEnum, diZip, dSl, dPart, dNo, gSl, gInS, gIn, gPlus, gOr, gCat, gCatS, gTimes, gRep, gI, blsD, putAll, dParT, dStar, DS.ice, iceS_un, iceS_val, iceS_strm, iceS_own, dOr2, gNeS, and_assoc, w_is_layer, m_is_word, hp, hw, m_is_row, isRow_some hs, hT, atD_of hs, at0, at1, hta, i2] using h
      | true =>
        obtain ⟨s, rfl⟩ : ∃ s, a = .str s := by cases a <;> first | exact ⟨_, rfl⟩ | cases hsa
        have hlb := pl_len hb
        by_cases hk : inV (.str s) l_KINDS = true
        · simpa [dRet, dAndV, dOrV, dNotV, dIsi, dVar, dC, dOp, dCB, dCons, dNil, dLst, dTup, dSeq, dIfS, dOr, dAnd, dNot, dTest, dChain, dInG, gLen, gI0, gEq, gIx, gList, gTuple, gBls, look_val, look_own, fz_val, fz_own, fzs_nil, fzs_cons, fnStart, fnEnds, ret_val, ret_own, gCall, dCall, resume_val, resume_new, dSet, dgName, dgCons, dgNil, dgTup, dgSeq, DS.put, DS.new, DS.trim, trimS_un, trimS_val, trimS_strm, trimS_own, wipeR, dYes, seqD_lst, seqD_tup, iterD_lst, iterD_tup, iterD_str, lenD_lst, lenD_tup, lenD_str, tyD_non, tyD_bl, tyD_int, tyD_str, tyD_lst, tyD_tup, tyD_dic, isiD, flatD_non, flatD_bl, flatD_int, flatD_str, atD_lst, atD_tup, dPar, dIf, dDrop, dBM, gAppend, gExtend, gPopAt, gClear, diSeq, diRng1, diRng2, diEnum, diZip, dSl, dPart, dNo, gSl, gInS, gIn, gPlus, gOr, gCat, gCatS, gTimes, gRep, gI, blsD, putAll, dParT, dStar, DS.ice, iceS_un, iceS_val, iceS_strm, iceS_own, dOr2, gNeS, and_assoc, w_is_layer, m_is_word, hp, hw, m_is_row, isRow_some hs, hT, atD_of hs, at0, at1, hk, isKind, m_is_agent, htb] using And.intro hlb h
        · simpa [dRet, dAndV, dOrV, dNotV, dIsi, dVar, dC, dOp, dCB, dCons, dNil, dLst, dTup, dSeq, dIfS, dOr, dAnd, dNot, dTest, dChain, dInG, gLen, gI0, gEq, gIx, gList, gTuple, gBls, look_val, look_own, fz_val, fz_own, fzs_nil, fzs_cons, fnStart, fnEnds, ret_val, ret_own, gCall, dCall, resume_val, resume_new, dSet, dgName, dgCons, dgNil, dgTup, dgSeq, DS.put, DS.new, DS.trim, trimS_un, trimS_val, trimS_strm, trimS_own, wipeR, dYes, seqD_lst, seqD_tup, iterD_lst, iterD_tup, iterD_str, lenD_lst, lenD_tup, lenD_str, tyD_non, tyD_bl, tyD_int, tyD_str, tyD_lst, tyD_tup, tyD_dic, isiD, flatD_non, flatD_bl, flatD_int, flatD_str, atD_lst, atD_tup, dPar, dIf, dDrop, dBM, gAppend, gExtend, gPopAt, gClear, diSeq, diRng1, diRng2, diEnum, diZip, dSl, dPart, dNo, gSl, gInS, gIn, gPlus, gOr, gCat, gCatS, gTimes, gRep, gI, blsD, putAll, dParT, dStar, DS.ice, iceS_un, iceS_val, iceS_strm, iceS_own, dOr2, gNeS, and_assoc, w_is_layer, m_is_word, hp, hw, m_is_row, isRow_some hs, hT, atD_of hs, at0, at1, hk, isKind] using h
    · have hr : isRow x 2 = false := by simpa using hr
      rw [isLayer_row hr] at h
      simpa [dRet, dAndV, dOrV, dNotV, dIsi, dVar, dC, dOp, dCB, dCons, dNil, dLst, dTup, dSeq, dIfS, dOr, dAnd, dNot, dTest, dChain, dInG, gLen, gI0, gEq, gIx, gList, gTuple, gBls, look_val, look_own, fz_val, fz_own, fzs_nil, fzs_cons, fnStart, fnEnds, ret_val, ret_own, gCall, dCall, resume_val, resume_new, dSet, dgName, dgCons, dgNil, dgTup, dgSeq, DS.put, DS.new, DS.trim, trimS_un, trimS_val, trimS_strm, trimS_own, wipeR, dYes, seqD_lst, seqD_tup, iterD_lst, iterD_tup, iterD_str, lenD_lst, lenD_tup, lenD_str, tyD_non, tyD_bl, tyD_int, tyD_str, tyD_lst, tyD_tup, tyD_dic, isiD, flatD_non, flatD_bl, flatD_int, flatD_str, atD_lst, atD_tup, dPar, dIf, dDrop, dBM, gAppend, gExtend, gPopAt, gClear, diSeq, diRng1, diRng2, diEnum, diZip, dSl, dPart, dNo, gSl, gInS, gIn, gPlus, gOr, gCat, gCatS, gTimes, gRep, gI, blsD, putAll, dParT, dStar, DS.ice, iceS_un, iceS_val, iceS_strm, iceS_own, dOr2, gNeS, and_assoc, w_is_layer, m_is_word, hp, hw, m_is_row, hr, hT] using h
def areLayers (x : D) : Bool := match seqD x with
  | some l => l.all isLayer
  | none => false
def m_are_layers : FM := fun ds n Ψ => ∃ x, ds = [x] ∧ pl 61 x = true ∧ (∀ l, seqD x = some l → l.length ≤ 1000000) ∧ Ψ (.val (.bl (areLayers x))) n
/-- are_layers: thing, one -/
def w_are_layers : DTS :=
  (dRet (dAndV (dCall false 1 m_is_list (dCons (dVar 0) dNil)) (dCB (gBls fun bs => bs.all id) (dCons (dLc (diSeq (dVar 0)) (dgName 1) dYes (dCall false 1 m_is_layer (dCons (dVar 1) dNil)) [1]) dNil))))
theorem rd_are_layers : ∀ ds n Ψ, ds.length = 1 → m_are_layers ds n Ψ → w_are_layers (fnStart false ds 1 n) (fnEnds Ψ) := by
  rintro ds n Ψ - ⟨x, rfl, hp, hlen, h⟩
  obtain ⟨T, hT⟩ := pl_ty hp
  cases hs : seqD x with
  | none =>
    have e1 : isLst x = false := by cases x <;> first | rfl | cases hs
    simp only [areLayers, hs] at h
    simpa [dRet, dAndV, dOrV, dNotV, dIsi, dVar, dC, dOp, dCB, dCons, dNil, dLst, dTup, dSeq, dIfS, dOr, dAnd, dNot, dTest, dChain, dInG, gLen, gI0, gEq, gIx, gList, gTuple, gBls, look_val, look_own, fz_val, fz_own, fzs_nil, fzs_cons, fnStart, fnEnds, ret_val, ret_own, gCall, dCall, resume_val, resume_new, dSet, dgName, dgCons, dgNil, dgTup, dgSeq, DS.put, DS.new, DS.trim, trimS_un, trimS_val, trimS_strm, trimS_own, wipeR, dYes, seqD_lst, seqD_tup, iterD_lst, iterD_tup, iterD_str, lenD_lst, lenD_tup, lenD_str, tyD_non, tyD_bl, tyD_int, tyD_str, tyD_lst, tyD_tup, tyD_dic, isiD, flatD_non, flatD_bl, flatD_int, flatD_str, atD_lst, atD_tup, dPar, dIf, dDrop, dBM, gAppend, gExtend, gPopAt, gClear, diSeq, diRng1, diRng2, diEnum, diZip, dSl, dPart, dNo, gSl, gInS, gIn, gPlus, gOr, gCat, gCatS, gTimes, gRep, gI, blsD, putAll, dParT, dStar, DS.ice, iceS_un, iceS_val, iceS_strm, iceS_own, dOr2, gNeS, and_assoc, w_are_layers, m_is_list, hT, e1] using h
  | some l =>
    have e1 : isLst x = true := by cases x <;> first | rfl | cases hs
    simp only [areLayers, hs] at h
    simp [dRet, dAndV, dOrV, dNotV, dIsi, dVar, dC, dOp, dCB, dCons, dNil, dLst, dTup, dSeq, dIfS, dOr, dAnd, dNot, dTest, dChain, dInG, gLen, gI0, gEq, gIx, gList, gTuple, gBls, look_val, look_own, fz_val, fz_own, fzs_nil, fzs_cons, fnStart, fnEnds, ret_val, ret_own, gCall, dCall, resume_val, resume_new, dSet, dgName, dgCons, dgNil, dgTup, dgSeq, DS.put, DS.new, DS.trim, trimS_un, trimS_val, trimS_strm, trimS_own, wipeR, dYes, seqD_lst, seqD_tup, iterD_lst, iterD_tup, iterD_str, lenD_lst, lenD_tup, lenD_str, tyD_non, tyD_bl, tyD_int, tyD_str, tyD_lst, tyD_tup, tyD_dic, isiD, flatD_non, flatD_bl, flatD_int, flatD_str, atD_lst, atD_tup, dPar, dIf, dDrop, dBM, gAppend, gExtend, gPopAt, gClear, diSeq, diRng1, diRng2, diEnum, diZip, dSl, dPart, dNo, gSl, gInS, gIn, gPlus, gOr, gCat, gCatS, gTimes, gRep, gI, blsD, putAll, dParT, dStar, DS.ice, iceS_un, iceS_val, iceS_strm, iceS_own, dOr2, gNeS, and_assoc, w_are_layers, m_is_list, hT, e1]
    refine dLc_map (d1 := ⟨[.val x, .un], [], n⟩) l (fun x => .bl (isLayer x)) (fun Φ h => ?_) (hlen l hs) (fun y hy acc Θ hΘ => ?_) ?_
    · simpa [dRet, dAndV, dOrV, dNotV, dIsi, dVar, dC, dOp, dCB, dCons, dNil, dLst, dTup, dSeq, dIfS, dOr, dAnd, dNot, dTest, dChain, dInG, gLen, gI0, gEq, gIx, gList, gTuple, gBls, look_val, look_own, fz_val, fz_own, fzs_nil, fzs_cons, fnStart, fnEnds, ret_val, ret_own, gCall, dCall, resume_val, resume_new, dSet, dgName, dgCons, dgNil, dgTup, dgSeq, DS.put, DS.new, DS.trim, trimS_un, trimS_val, trimS_strm, trimS_own, wipeR, dYes, seqD_lst, seqD_tup, iterD_lst, iterD_tup, iterD_str, lenD_lst, lenD_tup, lenD_str, tyD_non, tyD_bl, tyD_int, tyD_str, tyD_lst, tyD_tup, tyD_dic, isiD, flatD_non, flatD_bl, flatD_int, flatD_str, atD_lst, atD_tup, dPar, dIf, dDrop, dBM, gAppend, gExtend, gPopAt, gClear, diSeq, diRng1, diRng2, diEnum, diZip, dSl, dPart, dNo, gSl, gInS, gIn, gPlus, gOr, gCat, gCatS, gTimes, gRep, gI, blsD, putAll, dParT, dStar, DS.ice, iceS_un, iceS_val, iceS_strm, iceS_own, dOr2, gNeS, and_assoc, iterD_of hs] using h
    · have hpy := pl_seq (n := 60) hp hs y hy
      simp [dRet, dAndV, dOrV, dNotV, dIsi, dVar, dC, dOp, dCB, dCons, dNil, dLst, dTup, dSeq, dIfS, dOr, dAnd, dNot, dTest, dChain, dInG, gLen, gI0, gEq, gIx, gList, gTuple, gBls, look_val, look_own, fz_val, fz_own, fzs_nil, fzs_cons, fnStart, fnEnds, ret_val, ret_own, gCall, dCall, resume_val, resume_new, dSet, dgName, dgCons, dgNil, dgTup, dgSeq, DS.put, DS.new, DS.trim, trimS_un, trimS_val, trimS_strm, trimS_own, wipeR, dYes, seqD_lst, seqD_tup, iterD_lst, iterD_tup, iterD_str, lenD_lst, lenD_tup, lenD_str, tyD_non, tyD_bl, tyD_int, tyD_str, tyD_lst, tyD_tup, tyD_dic, isiD, flatD_non, flatD_bl, flatD_int, flatD_str, atD_lst, atD_tup, dPar, dIf, dDrop, dBM, gAppend, gExtend, gPopAt, gClear, diSeq, diRng1, diRng2, diEnum, diZip, dSl, dPart, dNo, gSl, gInS, gIn, gPlus, gOr, gCat, gCatS, gTimes, gRep, gI, blsD, putAll, dParT, dStar, DS.ice, iceS_un, iceS_val, iceS_strm, iceS_own, dOr2, gNeS, and_assoc, m_is_layer, hpy]
      exact hΘ _ _ ⟨[.val x, .val y], [(true, acc)], n⟩ rfl rfl rfl rfl
    · simpa [dRet, dAndV, dOrV, dNotV, dIsi, dVar, dC, dOp, dCB, dCons, dNil, dLst, dTup, dSeq, dIfS, dOr, dAnd, dNot, dTest, dChain, dInG, gLen, gI0, gEq, gIx, gList, gTuple, gBls, look_val, look_own, fz_val, fz_own, fzs_nil, fzs_cons, fnStart, fnEnds, ret_val, ret_own, gCall, dCall, resume_val, resume_new, dSet, dgName, dgCons, dgNil, dgTup, dgSeq, DS.put, DS.new, DS.trim, trimS_un, trimS_val, trimS_strm, trimS_own, wipeR, dYes, seqD_lst, seqD_tup, iterD_lst, iterD_tup, iterD_str, lenD_lst, lenD_tup, lenD_str, tyD_non, tyD_bl, tyD_int, tyD_str, tyD_lst, tyD_tup, tyD_dic, isiD, flatD_non, flatD_bl, flatD_int, flatD_str, atD_lst, atD_tup, dPar, dIf, dDrop, dBM, gAppend, gExtend, gPopAt, gClear, diSeq, diRng1, diRng2, diEnum, diZip, dSl, dPart, dNo, gSl, gInS, gIn, gPlus, gOr, gCat, gCatS, gTimes, gRep, gI, blsD, putAll, dParT, dStar, DS.ice, iceS_un, iceS_val, iceS_strm, iceS_own, dOr2, gNeS, and_assoc, blsD_map, List.all_map] using h
/-- a tuple of what stands in a list or a tuple -/
def tupD (x : D) : D := match seqD x with
  | some l => .tup l
  | none => x
def m_kept : FM := fun ds n Ψ => ∃ x l, ds = [x] ∧ seqD x = some l ∧ l.length ≤ 1000000 ∧ (∀ y ∈ l, (seqD y).isSome = true) ∧ Ψ (.val (.tup (l.map tupD))) n
/-- kept: layers, one -/
def w_kept : DTS :=
  (dRet (dCB gTuple (dCons (dLc (diSeq (dVar 0)) (dgName 1) dYes (dCB gTuple (dCons (dVar 1) dNil)) [1]) dNil)))
theorem rd_kept : ∀ ds n Ψ, ds.length = 1 → m_kept ds n Ψ → w_kept (fnStart false ds 1 n) (fnEnds Ψ) := by
  rintro ds n Ψ - ⟨x, l, rfl, hs, hlen, hy, h⟩
  simp [dRet, dAndV, dOrV, dNotV, dIsi, dVar, dC, dOp, dCB, dCons, dNil, dLst, dTup, dSeq, dIfS, dOr, dAnd, dNot, dTest, dChain, dInG, gLen, gI0, gEq, gIx, gList, gTuple, gBls, look_val, look_own, fz_val, fz_own, fzs_nil, fzs_cons, fnStart, fnEnds, ret_val, ret_own, gCall, dCall, resume_val, resume_new, dSet, dgName, dgCons, dgNil, dgTup, dgSeq, DS.put, DS.new, DS.trim, trimS_un, trimS_val, trimS_strm, trimS_own, wipeR, dYes, seqD_lst, seqD_tup, iterD_lst, iterD_tup, iterD_str, lenD_lst, lenD_tup, lenD_str, tyD_non, tyD_bl, tyD_int, tyD_str, tyD_lst, tyD_tup, tyD_dic, isiD, flatD_non, flatD_bl, flatD_int, flatD_str, atD_lst, atD_tup, dPar, dIf, dDrop, dBM, gAppend, gExtend, gPopAt, gClear, diSeq, diRng1, diRng2, diEnum, diZip, dSl, dPart, dNo, gSl, gInS, gIn, gPlus, gOr, gCat, gCatS, gTimes, gRep, gI, blsD, putAll, dParT, dStar, DS.ice, iceS_un, iceS_val, iceS_strm, iceS_own, dOr2, gNeS, and_assoc, w_kept]
  refine dLc_map (d1 := ⟨[.val x, .un], [], n⟩) l tupD (fun Φ h => ?_) hlen (fun y hm acc Θ hΘ => ?_) ?_
  · simpa [dRet, dAndV, dOrV, dNotV, dIsi, dVar, dC, dOp, dCB, dCons, dNil, dLst, dTup, dSeq, dIfS, dOr, dAnd, dNot, dTest, dChain, dInG, gLen, gI0, gEq, gIx, gList, gTuple, gBls, look_val, look_own, fz_val, fz_own, fzs_nil, fzs_cons, fnStart, fnEnds, ret_val, ret_own, gCall, dCall, resume_val, resume_new, dSet, dgName, dgCons, dgNil, dgTup, dgSeq, DS.put, DS.new, DS.trim, trimS_un, trimS_val, trimS_strm, trimS_own, wipeR, dYes, seqD_lst, seqD_tup, iterD_lst, iterD_tup, iterD_str, lenD_lst, lenD_tup, lenD_str, tyD_non, tyD_bl, tyD_int, tyD_str, tyD_lst, tyD_tup, tyD_dic, isiD, flatD_non, flatD_bl, flatD_int, flatD_str, atD_lst, atD_tup, dPar, dIf, dDrop, dBM, gAppend, gExtend, gPopAt, gClear, diSeq, diRng1, diRng2, diEnum, diZip, dSl, dPart, dNo, gSl, gInS, gIn, gPlus, gOr, gCat, gCatS, gTimes, gRep, gI, blsD, putAll, dParT, dStar, DS.ice, iceS_un, iceS_val, iceS_strm, iceS_own, dOr2, gNeS, and_assoc, iterD_of hs] using h
  · obtain ⟨m, hm2⟩ := Option.isSome_iff_exists.mp (hy y hm)
    simp [dRet, dAndV, dOrV, dNotV, dIsi, dVar, dC, dOp, dCB, dCons, dNil, dLst, dTup, dSeq, dIfS, dOr, dAnd, dNot, dTest, dChain, dInG, gLen, gI0, gEq, gIx, gList, gTuple, gBls, look_val, look_own, fz_val, fz_own, fzs_nil, fzs_cons, fnStart, fnEnds, ret_val, ret_own, gCall, dCall, resume_val, resume_new, dSet, dgName, dgCons, dgNil, dgTup, dgSeq, DS.put, DS.new, DS.trim, trimS_un, trimS_val, trimS_strm, trimS_own, wipeR, dYes, seqD_lst, seqD_tup, iterD_lst, iterD_tup, iterD_str, lenD_lst, lenD_tup, lenD_str, tyD_non, tyD_bl, tyD_int, tyD_str, tyD_lst, tyD_tup, tyD_dic, isiD, flatD_non, flatD_bl, flatD_int, flatD_str, atD_lst, atD_tup, dPar, dIf, dDrop, dBM, gAppend, gExtend, gPopAt, gClear, diSeq, diRng1, diRng2, diEnum, diZip, dSl, dPart, dNo, gSl, gInS, gIn, gPlus, gOr, gCat, gCatS, gTimes, gRep, gI, blsD, putAll, dParT, dStar, DS.ice, iceS_un, iceS_val, iceS_strm, iceS_own, dOr2, gNeS, and_assoc, hm2]
    refine hΘ _ _ ⟨[.val x, .val y], [(true, acc)], n⟩ ?_ rfl rfl rfl
    simp [dRet, dAndV, dOrV, dNotV, dIsi, dVar, dC, dOp, dCB, dCons, dNil, dLst, dTup, dSeq, dIfS, dOr, dAnd, dNot, dTest, dChain, dInG, gLen, gI0, gEq, gIx, gList, gTuple, gBls, look_val, look_own, fz_val, fz_own, fzs_nil, fzs_cons, fnStart, fnEnds, ret_val, ret_own, gCall, dCall, resume_val, resume_new, dSet, dgName, dgCons, dgNil, dgTup, dgSeq, DS.put, DS.new, DS.trim, trimS_un, trimS_val, trimS_strm, trimS_own, wipeR, dYes, seqD_lst, seqD_tup, iterD_lst, iterD_tup, iterD_str, lenD_lst, lenD_tup, lenD_str, tyD_non, tyD_bl, tyD_int, tyD_str, tyD_lst, tyD_tup, tyD_dic, isiD, flatD_non, flatD_bl, flatD_int, flatD_str, atD_lst, atD_tup, dPar, dIf, dDrop, dBM, gAppend, gExtend, gPopAt, gClear, diSeq, diRng1, diRng2, diEnum, diZip, dSl, dPart, dNo, gSl, gInS, gIn, gPlus, gOr, gCat, gCatS, gTimes, gRep, gI, blsD, putAll, dParT, dStar, DS.ice, iceS_un, iceS_val, iceS_strm, iceS_own, dOr2, gNeS, and_assoc, tupD, hm2]
  · simpa [dRet, dAndV, dOrV, dNotV, dIsi, dVar, dC, dOp, dCB, dCons, dNil, dLst, dTup, dSeq, dIfS, dOr, dAnd, dNot, dTest, dChain, dInG, gLen, gI0, gEq, gIx, gList, gTuple, gBls, look_val, look_own, fz_val, fz_own, fzs_nil, fzs_cons, fnStart, fnEnds, ret_val, ret_own, gCall, dCall, resume_val, resume_new, dSet, dgName, dgCons, dgNil, dgTup, dgSeq, DS.put, DS.new, DS.trim, trimS_un, trimS_val, trimS_strm, trimS_own, wipeR, dYes, seqD_lst, seqD_tup, iterD_lst, iterD_tup, iterD_str, lenD_lst, lenD_tup, lenD_str, tyD_non, tyD_bl, tyD_int, tyD_str, tyD_lst, tyD_tup, tyD_dic, isiD, flatD_non, flatD_bl, flatD_int, flatD_str, atD_lst, atD_tup, dPar, dIf, dDrop, dBM, gAppend, gExtend, gPopAt, gClear, diSeq, diRng1, diRng2, diEnum, diZip, dSl, dPart, dNo, gSl, gInS, gIn, gPlus, gOr, gCat, gCatS, gTimes, gRep, gI, blsD, putAll, dParT, dStar, DS.ice, iceS_un, iceS_val, iceS_strm, iceS_own, dOr2, gNeS, and_assoc] using h
end RH

set_option Elab.async false
set_option linter.all false
set_option maxRecDepth 100000
set_option maxHeartbeats 2000000
/-! readings, on: rules -/
namespace RH
open PySem PySem.Spec PyProof.Rows L2

/-- an item's length is no more than m -/
def few (m : Nat) (x : D) : Prop := ∀ l, seqD x = some l → l.length ≤ m
def isRule (x : D) : Bool := match seqD x with
  | some [a, b, _] => areLayers a && areLayers b
  | _ => false
theorem len3 {l : List D} (h : (l.length : Int) = 3) : ∃ a b c, l = [a, b, c] := by
  match l, h with
  | [a, b, c], _ => exact ⟨a, b, c, rfl⟩
  | [], h => simp at h
  | [_], h => simp at h
  | [_, _], h => simp at h
  | _ :: _ :: _ :: _ :: _, h => simp only [List.length_cons] at h; omega
/-- only of what is one -/
def m_is_rule : FM := fun ds n Ψ => ∃ x a b c, ds = [x] ∧ seqD x = some [a, b, c] ∧ pl 61 a = true ∧ few 1000000 a ∧ pl 61 b = true ∧ few 1000000 b ∧ areLayers a = true ∧ areLayers b = true ∧ Ψ (.val (.bl true)) n
/-- is_rule: thing -/
def w_is_rule : DTS :=
  (dRet (dAndV (dCall false 2 m_is_row (dCons (dVar 0) (dCons (dC (.int 3)) dNil))) (dAndV (dCall false 1 m_are_layers (dCons (dOp gIx (dVar 0) (dC (.int 0))) dNil)) (dCall false 1 m_are_layers (dCons (dOp gIx (dVar 0) (dC (.int 1))) dNil)))))
theorem ty_of {x : D} {l : List D} (h : seqD x = some l) : ∃ T, tyD x = some T := by cases x <;> cases h <;> exact ⟨_, rfl⟩
theorem rd_is_rule : ∀ ds n Ψ, ds.length = 1 → m_is_rule ds n Ψ → w_is_rule (fnStart false ds 0 n) (fnEnds Ψ) := by
  rintro ds n Ψ - ⟨x, a, b, c, rfl, hs, ha, fa, hb, fb, la, lb, h⟩
  obtain ⟨T, hT⟩ := ty_of hs
  simp only [few] at fa fb
  simp [dRet, dAndV, dOrV, dNotV, dIsi, dVar, dC, dOp, dCB, dCons, dNil, dLst, dTup, dSeq, dIfS, dOr, dAnd, dNot, dTest, dChain, dInG, gLen, gI0, gEq, gIx, gList, gTuple, gBls, look_val, look_own, fz_val, fz_own, fzs_nil, fzs_cons, fnStart, fnEnds, ret_val, ret_own, gCall, dCall, resume_val, resume_new, dSet, dgName, dgCons, dgNil, dgTup, dgSeq, DS.put, DS.new, DS.trim, trimS_un, trimS_val, trimS_strm, trimS_own, wipeR, dYes, seqD_lst, seqD_tup, iterD_lst, iterD_tup, iterD_str, lenD_lst, lenD_tup, lenD_str, tyD_non, tyD_bl, tyD_int, tyD_str, tyD_lst, tyD_tup, tyD_dic, isiD, flatD_non, flatD_bl, flatD_int, flatD_str, atD_lst, atD_tup, dPar, dIf, dDrop, dBM, gAppend, gExtend, gPopAt, gClear, diSeq, diRng1, diRng2, diEnum, diZip, dSl, dPart, dNo, gSl, gInS, gIn, gPlus, gOr, gCat, gCatS, gTimes, gRep, gI, blsD, putAll, dParT, dStar, DS.ice, iceS_un, iceS_val, iceS_strm, iceS_own, dOr2, gNeS, and_assoc, w_is_rule, m_is_row, isRow_some hs, hT, atD_of hs, at0, at1, m_are_layers, ha, hb, la, lb, h]
  exact ⟨fa, fb⟩
/-- (takes, puts) of a rule -/
def keptD (x : D) : D := match seqD x with
  | some l => .tup (l.map tupD)
  | none => x
def ruleD (x : D) : D := match seqD x with
  | some [a, b, _] => .tup [keptD a, keptD b]
  | _ => x
structure Rule (x : D) : Prop where
  ex : ∃ a b c, seqD x = some [a, b, c] ∧ pl 61 a = true ∧ few 1000000 a ∧ pl 61 b = true ∧ few 1000000 b ∧ areLayers a = true ∧ areLayers b = true
theorem areLayers_seq {x : D} (h : areLayers x = true) : ∃ l, seqD x = some l ∧ ∀ y ∈ l, isLayer y = true ∧ (seqD y).isSome = true := by
  unfold areLayers at h
  cases e : seqD x with
  | none => rw [e] at h; cases h
  | some l =>
    rw [e] at h
    refine ⟨l, rfl, fun y hy => ?_⟩
    have hl := List.all_eq_true.mp h y hy
    refine ⟨hl, ?_⟩
    cases f : seqD y with
    | some _ => rfl
    | none =>
      have : isLayer y = false := isLayer_row (isRow_none f)
      rw [hl] at this; cases this
def m_checked_rules : FM := fun ds n Ψ => ∃ x l, ds = [x] ∧ seqD x = some l ∧ l.length ≤ 1000000 ∧ (∀ y ∈ l, Rule y) ∧ Ψ (.new (l.map ruleD)) n
/-- checked_rules: some, index, thing, takes, puts, _ -/
def w_checked_rules : DTS :=
  (dSeq (dIfS (dNot (dTest (dCall false 1 m_is_list (dCons (dVar 0) dNil))))
      (fun _ _ => False)
      (fun d Φ => Φ.nx d))
    (dSeq (dFor (diEnum (dCons (dVar 0) dNil)) (dgSeq 2 (dgCons 1 (dgCons 2 dgNil)))
      (dIfS (dNot (dTest (dCall false 1 m_is_rule (dCons (dVar 2) dNil))))
      (fun _ _ => False)
      (fun d Φ => Φ.nx d)))
    (dRet (dLc (diSeq (dVar 0)) (dgSeq 3 (dgCons 3 (dgCons 4 (dgCons 5 dgNil)))) dYes (dTup (dCons (dCall false 1 m_kept (dCons (dVar 3) dNil)) (dCons (dCall false 1 m_kept (dCons (dVar 4) dNil)) dNil))) [3, 4, 5]))))
theorem rd_checked_rules : ∀ ds n Ψ, ds.length = 1 → m_checked_rules ds n Ψ → w_checked_rules (fnStart false ds 5 n) (fnEnds Ψ) := by
  rintro ds n Ψ - ⟨x, l, rfl, hs, hlen, hr, h⟩
  obtain ⟨T, hT⟩ := ty_of hs
  have e1 : isLst x = true := by cases x <;> first | rfl | cases hs
  simp [dRet, dAndV, dOrV, dNotV, dIsi, dVar, dC, dOp, dCB, dCons, dNil, dLst, dTup, dSeq, dIfS, dOr, dAnd, dNot, dTest, dChain, dInG, gLen, gI0, gEq, gIx, gList, gTuple, gBls, look_val, look_own, fz_val, fz_own, fzs_nil, fzs_cons, fnStart, fnEnds, ret_val, ret_own, gCall, dCall, resume_val, resume_new, dSet, dgName, dgCons, dgNil, dgTup, dgSeq, DS.put, DS.new, DS.trim, trimS_un, trimS_val, trimS_strm, trimS_own, wipeR, dYes, seqD_lst, seqD_tup, iterD_lst, iterD_tup, iterD_str, lenD_lst, lenD_tup, lenD_str, tyD_non, tyD_bl, tyD_int, tyD_str, tyD_lst, tyD_tup, tyD_dic, isiD, flatD_non, flatD_bl, flatD_int, flatD_str, atD_lst, atD_tup, dPar, dIf, dDrop, dBM, gAppend, gExtend, gPopAt, gClear, diSeq, diRng1, diRng2, diEnum, diZip, dSl, dPart, dNo, gSl, gInS, gIn, gPlus, gOr, gCat, gCatS, gTimes, gRep, gI, blsD, putAll, dParT, dStar, DS.ice, iceS_un, iceS_val, iceS_strm, iceS_own, dOr2, gNeS, and_assoc, w_checked_rules, m_is_list, hT, e1, hs, dFor]
  refine ⟨fun i d => ∃ s1 s2, d = ⟨[.val x, s1, s2, .un, .un, .un], [], n⟩, ⟨_, _, rfl⟩, ?_, ?_⟩
  · rintro i y d hy ⟨s1, s2, rfl⟩
    obtain ⟨z, hz, rfl⟩ := enumD_get hy
    obtain ⟨a, b, c, g1, g2, g3, g4, g5, g6, g7⟩ := (hr z (List.mem_of_getElem? hz)).ex
    simp only [few] at g3 g5
    simp [dRet, dAndV, dOrV, dNotV, dIsi, dVar, dC, dOp, dCB, dCons, dNil, dLst, dTup, dSeq, dIfS, dOr, dAnd, dNot, dTest, dChain, dInG, gLen, gI0, gEq, gIx, gList, gTuple, gBls, look_val, look_own, fz_val, fz_own, fzs_nil, fzs_cons, fnStart, fnEnds, ret_val, ret_own, gCall, dCall, resume_val, resume_new, dSet, dgName, dgCons, dgNil, dgTup, dgSeq, DS.put, DS.new, DS.trim, trimS_un, trimS_val, trimS_strm, trimS_own, wipeR, dYes, seqD_lst, seqD_tup, iterD_lst, iterD_tup, iterD_str, lenD_lst, lenD_tup, lenD_str, tyD_non, tyD_bl, tyD_int, tyD_str, tyD_lst, tyD_tup, tyD_dic, isiD, flatD_non, flatD_bl, flatD_int, flatD_str, atD_lst, atD_tup, dPar, dIf, dDrop, dBM, gAppend, gExtend, gPopAt, gClear, diSeq, diRng1, diRng2, diEnum, diZip, dSl, dPart, dNo, gSl, gInS, gIn, gPlus, gOr, gCat, gCatS, gTimes, gRep, gI, blsD, putAll, dParT, dStar, DS.ice, iceS_un, iceS_val, iceS_strm, iceS_own, dOr2, gNeS, and_assoc, m_is_rule, g1, g2, g4, g6, g7, few]
    exact ⟨g3, g5⟩
  · rintro d ⟨s1, s2, rfl⟩
    refine dLc_map (d1 := ⟨[.val x, s1, s2, .un, .un, .un], [], n⟩) l ruleD (fun Φ h => ?_) hlen (fun y hm acc Θ hΘ => ?_) ?_
    · simpa [dRet, dAndV, dOrV, dNotV, dIsi, dVar, dC, dOp, dCB, dCons, dNil, dLst, dTup, dSeq, dIfS, dOr, dAnd, dNot, dTest, dChain, dInG, gLen, gI0, gEq, gIx, gList, gTuple, gBls, look_val, look_own, fz_val, fz_own, fzs_nil, fzs_cons, fnStart, fnEnds, ret_val, ret_own, gCall, dCall, resume_val, resume_new, dSet, dgName, dgCons, dgNil, dgTup, dgSeq, DS.put, DS.new, DS.trim, trimS_un, trimS_val, trimS_strm, trimS_own, wipeR, dYes, seqD_lst, seqD_tup, iterD_lst, iterD_tup, iterD_str, lenD_lst, lenD_tup, lenD_str, tyD_non, tyD_bl, tyD_int, tyD_str, tyD_lst, tyD_tup, tyD_dic, isiD, flatD_non, flatD_bl, flatD_int, flatD_str, atD_lst, atD_tup, dPar, dIf, dDrop, dBM, gAppend, gExtend, gPopAt, gClear, diSeq, diRng1, diRng2, diEnum, diZip, dSl, dPart, dNo, gSl, gInS, gIn, gPlus, gOr, gCat, gCatS, gTimes, gRep, gI, blsD, putAll, dParT, dStar, DS.ice, iceS_un, iceS_val, iceS_strm, iceS_own, dOr2, gNeS, and_assoc, iterD_of hs] using h
    · obtain ⟨a, b, c, g1, g2, g3, g4, g5, g6, g7⟩ := (hr y hm).ex
      obtain ⟨la, ha1, ha2⟩ := areLayers_seq g6
      obtain ⟨lb, hb1, hb2⟩ := areLayers_seq g7
      have k1 : la.length ≤ 1000000 := g3 la ha1
      have k2 : lb.length ≤ 1000000 := g5 lb hb1
      simp [dRet, dAndV, dOrV, dNotV, dIsi, dVar, dC, dOp, dCB, dCons, dNil, dLst, dTup, dSeq, dIfS, dOr, dAnd, dNot, dTest, dChain, dInG, gLen, gI0, gEq, gIx, gList, gTuple, gBls, look_val, look_own, fz_val, fz_own, fzs_nil, fzs_cons, fnStart, fnEnds, ret_val, ret_own, gCall, dCall, resume_val, resume_new, dSet, dgName, dgCons, dgNil, dgTup, dgSeq, DS.put, DS.new, DS.trim, trimS_un, trimS_val, trimS_strm, trimS_own, wipeR, dYes, seqD_lst, seqD_tup, iterD_lst, iterD_tup, iterD_str, lenD_lst, lenD_tup, lenD_str, tyD_non, tyD_bl, tyD_int, tyD_str, tyD_lst, tyD_tup, tyD_dic, isiD, flatD_non, flatD_bl, flatD_int, flatD_str, atD_lst, atD_tup, dPar, dIf, dDrop, dBM, gAppend, gExtend, gPopAt, gClear, diSeq, diRng1, diRng2, diEnum, diZip, dSl, dPart, dNo, gSl, gInS, gIn, gPlus, gOr, gCat, gCatS, gTimes, gRep, gI, blsD, putAll, dParT, dStar, DS.ice, iceS_un, iceS_val, iceS_strm, iceS_own, dOr2, gNeS, and_assoc, g1, m_kept, ha1, hb1, k1, k2]
      refine ⟨fun z hz => (ha2 z hz).2, fun z hz => (hb2 z hz).2, ?_⟩
      refine hΘ _ _ ⟨[.val x, s1, s2, .val a, .val b, .val c], [(true, acc)], n⟩ ?_ rfl rfl rfl
      simp [dRet, dAndV, dOrV, dNotV, dIsi, dVar, dC, dOp, dCB, dCons, dNil, dLst, dTup, dSeq, dIfS, dOr, dAnd, dNot, dTest, dChain, dInG, gLen, gI0, gEq, gIx, gList, gTuple, gBls, look_val, look_own, fz_val, fz_own, fzs_nil, fzs_cons, fnStart, fnEnds, ret_val, ret_own, gCall, dCall, resume_val, resume_new, dSet, dgName, dgCons, dgNil, dgTup, dgSeq, DS.put, DS.new, DS.trim, trimS_un, trimS_val, trimS_strm, trimS_own, wipeR, dYes, seqD_lst, seqD_tup, iterD_lst, iterD_tup, iterD_str, lenD_lst, lenD_tup, lenD_str, tyD_non, tyD_bl, tyD_int, tyD_str, tyD_lst, tyD_tup, tyD_dic, isiD, flatD_non, flatD_bl, flatD_int, flatD_str, atD_lst, atD_tup, dPar, dIf, dDrop, dBM, gAppend, gExtend, gPopAt, gClear, diSeq, diRng1, diRng2, diEnum, diZip, dSl, dPart, dNo, gSl, gInS, gIn, gPlus, gOr, gCat, gCatS, gTimes, gRep, gI, blsD, putAll, dParT, dStar, DS.ice, iceS_un, iceS_val, iceS_strm, iceS_own, dOr2, gNeS, and_assoc, ruleD, g1, keptD, ha1, hb1]
    · simpa [dRet, dAndV, dOrV, dNotV, dIsi, dVar, dC, dOp, dCB, dCons, dNil, dLst, dTup, dSeq, dIfS, dOr, dAnd, dNot, dTest, dChain, dInG, gLen, gI0, gEq, gIx, gList, gTuple, gBls, look_val, look_own, fz_val, fz_own, fzs_nil, fzs_cons, fnStart, fnEnds, ret_val, ret_own, gCall, dCall, resume_val, resume_new, dSet, dgName, dgCons, dgNil, dgTup, dgSeq, DS.put, DS.new, DS.trim, trimS_un, trimS_val, trimS_strm, trimS_own, wipeR, dYes, seqD_lst, seqD_tup, iterD_lst, iterD_tup, iterD_str, lenD_lst, lenD_tup, lenD_str, tyD_non, tyD_bl, tyD_int, tyD_str, tyD_lst, tyD_tup, tyD_dic, isiD, flatD_non, flatD_bl, flatD_int, flatD_str, atD_lst, atD_tup, dPar, dIf, dDrop, dBM, gAppend, gExtend, gPopAt, gClear, diSeq, diRng1, diRng2, diEnum, diZip, dSl, dPart, dNo, gSl, gInS, gIn, gPlus, gOr, gCat, gCatS, gTimes, gRep, gI, blsD, putAll, dParT, dStar, DS.ice, iceS_un, iceS_val, iceS_strm, iceS_own, dOr2, gNeS, and_assoc] using h
def m_checked_layers : FM := fun ds n Ψ => ∃ x l, ds = [x] ∧ pl 61 x = true ∧ seqD x = some l ∧ l.length ≤ 1000000 ∧ areLayers x = true ∧ Ψ (.val (keptD x)) n
/-- checked_layers: layers -/
def w_checked_layers : DTS :=
  (dSeq (dIfS (dNot (dTest (dCall false 1 m_are_layers (dCons (dVar 0) dNil))))
      (fun _ _ => False)
      (fun d Φ => Φ.nx d))
    (dRet (dCall false 1 m_kept (dCons (dVar 0) dNil))))
theorem rd_checked_layers : ∀ ds n Ψ, ds.length = 1 → m_checked_layers ds n Ψ → w_checked_layers (fnStart false ds 0 n) (fnEnds Ψ) := by
  rintro ds n Ψ - ⟨x, l, rfl, hp, hs, hlen, hl, h⟩
  obtain ⟨l', e1, e2⟩ := areLayers_seq hl
  rw [hs] at e1
  cases e1
  have e3 : keptD x = .tup (l.map tupD) := by simp [keptD, hs]
  rw [e3] at h
  have fx : ∀ m, seqD x = some m → m.length ≤ 1000000 := fun m e => by rw [hs] at e; cases e; exact hlen
  have hy : ∀ y ∈ l, (seqD y).isSome = true := fun y hy => (e2 y hy).2
  simp [dRet, dAndV, dOrV, dNotV, dIsi, dVar, dC, dOp, dCB, dCons, dNil, dLst, dTup, dSeq, dIfS, dOr, dAnd, dNot, dTest, dChain, dInG, gLen, gI0, gEq, gIx, gList, gTuple, gBls, look_val, look_own, fz_val, fz_own, fzs_nil, fzs_cons, fnStart, fnEnds, ret_val, ret_own, gCall, dCall, resume_val, resume_new, dSet, dgName, dgCons, dgNil, dgTup, dgSeq, DS.put, DS.new, DS.trim, trimS_un, trimS_val, trimS_strm, trimS_own, wipeR, dYes, seqD_lst, seqD_tup, iterD_lst, iterD_tup, iterD_str, lenD_lst, lenD_tup, lenD_str, tyD_non, tyD_bl, tyD_int, tyD_str, tyD_lst, tyD_tup, tyD_dic, isiD, flatD_non, flatD_bl, flatD_int, flatD_str, atD_lst, atD_tup, dPar, dIf, dDrop, dBM, gAppend, gExtend, gPopAt, gClear, diSeq, diRng1, diRng2, diEnum, diZip, dSl, dPart, dNo, gSl, gInS, gIn, gPlus, gOr, gCat, gCatS, gTimes, gRep, gI, blsD, putAll, dParT, dStar, DS.ice, iceS_un, iceS_val, iceS_strm, iceS_own, dOr2, gNeS, and_assoc, w_checked_layers, m_are_layers, hp, hl, m_kept, hs, hlen, h]
  exact hy

/-! ### after -/
theorem cut_take {l : List D} {k : Nat} : cutD l none (some (k : Int)) = l.take k := by
  unfold cutD
  rw [HT.sIx_none, HT.sIx_nat]
  simp [List.take_take, Nat.min_comm]
theorem cut_drop {l : List D} {k : Nat} : cutD l (some (k : Int)) none = l.drop k := by
  unfold cutD
  rw [HT.sIx_none, HT.sIx_nat]
  by_cases h : k ≤ l.length
  · rw [Nat.min_eq_left h, List.take_of_length_le (by rw [List.length_drop]; omega)]
  · rw [Nat.min_eq_right (by omega), List.drop_of_length_le (Nat.le_refl _), List.drop_of_length_le (by omega)]
    simp
theorem pl_tupD {n : Nat} {x : D} (h : pl n x = true) : pl n (tupD x) = true := by
  cases n with
  | zero => cases x <;> first | exact h | cases h
  | succ n => cases x <;> exact h
def eqL (l m : List D) : Bool := PyData.eqvAll (pys l) (pys m)
theorem eqv_tup (l m : List D) : PyData.eqv (py (.tup l)) (py (.tup m)) = eqL l m := by
  show PyData.eqv (.tuple (pys l)) (.tuple (pys m)) = _
  simp [PyData.eqv, eqL]
theorem eqv_lst (l m : List D) : PyData.eqv (py (.lst l)) (py (.lst m)) = eqL l m := by
  show PyData.eqv (.list (pys l)) (.list (pys m)) = _
  simp [PyData.eqv, eqL]
theorem eqs_tup {l : List D} {n : Nat} (h : ∀ y ∈ l, pl n y = true) (hn : n + 1 ≤ 64) : Eqs (.tup l) := pl_eqs (n := n + 1) (show pls n l = true from pls_iff.mpr h) hn
theorem eqs_lst {l : List D} {n : Nat} (h : ∀ y ∈ l, pl n y = true) (hn : n + 1 ≤ 64) : Eqs (.lst l) := pl_eqs (n := n + 1) (show pls n l = true from pls_iff.mpr h) hn
theorem fzs_vals (d : DS) : ∀ l : List D, fzs d (l.map S.val) = some (l, d)
  | [] => rfl
  | x :: l => by
    have := fzs_vals d l
    rw [List.map_cons, fzs_cons, fz_val]
    simp [this]
/-- what after tells: known's rule with takes la, puts lb; layers lh -/
def afterR (la lb lh : List D) : R := if eqL ((lh.map tupD).take la.length) (la.map tupD) = true then .new (lb.map tupD ++ (lh.map tupD).drop la.length) else .val .non
def m_after : FM := fun ds n Ψ => ∃ x l lay i y a b c la lb lh, ds = [x, lay, .int i] ∧ seqD x = some l ∧ l.length ≤ 1000000 ∧ (∀ y ∈ l, Rule y) ∧ 0 ≤ i ∧ l[i.toNat]? = some y ∧ seqD y = some [a, b, c] ∧ seqD a = some la ∧ seqD b = some lb ∧ la.length ≤ 300 ∧ lb.length ≤ 300 ∧
  pl 61 lay = true ∧ seqD lay = some lh ∧ lh.length ≤ 300 ∧ areLayers lay = true ∧ Ψ (afterR la lb lh) n
/-- after: rules, layers, rule, known, here, takes, puts -/
def w_after : DTS :=
  (dSeq (dPar 3 4 (dCons (dCall false 1 m_checked_rules (dCons (dVar 0) dNil)) (dCons (dCall false 1 m_checked_layers (dCons (dVar 1) dNil)) dNil)))
    (dSeq (dIfS (dOr (dNot (dTest (dCall false 1 m_is_number (dCons (dVar 2) dNil)))) (dTest (dOp (gI0 fun i j => .bl (decide (j ≤ i))) (dVar 2) (dCB gLen (dCons (dVar 3) dNil)))))
      (fun _ _ => False)
      (fun d Φ => Φ.nx d))
    (dSeq (dSet (dOp gIx (dVar 3) (dVar 2)) (dgSeq 2 (dgCons 5 (dgCons 6 dgNil))))
    (dRet (dIf (dTest (dOp (gEq id) (dSl (dVar 4) dNo (dPart (dCB gLen (dCons (dVar 5) dNil)))) (dVar 5))) (dLst (dStar (dVar 6) (dStar (dSl (dVar 4) (dPart (dCB gLen (dCons (dVar 5) dNil))) dNo) dNil))) (dC .non))))))
theorem rd_after : ∀ ds n Ψ, ds.length = 3 → m_after ds n Ψ → w_after (fnStart false ds 4 n) (fnEnds Ψ) := by
  rintro ds n Ψ - ⟨x, l, lay, i, y, a, b, c, la, lb, lh, rfl, hs, hlen, hr, i0, hy, h1, h2, h3, h4, h5, h6, h7, h8, h9, h⟩
  obtain ⟨T, hT⟩ := ty_of hs
  have hi : i < l.length := by
    have := (List.getElem?_eq_some_iff.mp hy).1
    omega
  have hR := hr y (List.mem_of_getElem? hy)
  obtain ⟨a', b', c', g1, g2, g3, g4, g5, g6, g7⟩ := hR.ex
  rw [h1] at g1
  cases g1
  have e1 : ruleD y = .tup [.tup (la.map tupD), .tup (lb.map tupD)] := by simp [ruleD, h1, keptD, h2, h3]
  have e2 : keptD lay = .tup (lh.map tupD) := by simp [keptD, h7]
  have e3 : atI (l.map ruleD) i = some (.tup [.tup (la.map tupD), .tup (lb.map tupD)]) := atN i0 (by rw [List.getElem?_map, hy, ← e1]; rfl)
  have p1 : ∀ z ∈ la.map tupD, pl 60 z = true := fun z hz => by
    obtain ⟨u, hu, rfl⟩ := List.mem_map.mp hz
    exact pl_tupD (pl_seq (n := 60) g2 h2 u hu)
  have p2 : ∀ z ∈ (lh.map tupD).take la.length, pl 60 z = true := fun z hz => by
    obtain ⟨u, hu, rfl⟩ := List.mem_map.mp (List.mem_of_mem_take hz)
    exact pl_tupD (pl_seq (n := 60) h6 h7 u hu)
  have q1 : Eqs (.tup (la.map tupD)) := eqs_tup p1 (by decide)
  have q2 : Eqs (.tup ((lh.map tupD).take la.length)) := eqs_tup p2 (by decide)
  have c1 : cutD (lh.map tupD) none (some (la.length : Int)) = (lh.map tupD).take la.length := cut_take
  have c2 : cutD (lh.map tupD) (some (la.length : Int)) none = (lh.map tupD).drop la.length := cut_drop
  have nl : ¬ ((l.length : Int) ≤ i) := by omega
  have s1 : lb.length ≤ 100000 := by omega
  have s2 : lh.length - la.length ≤ 100000 := by omega
  have s3 : lb.length + (lh.length - la.length) ≤ 1000 := by omega
  simp [dRet, dAndV, dOrV, dNotV, dIsi, dVar, dC, dOp, dCB, dCons, dNil, dLst, dTup, dSeq, dIfS, dOr, dAnd, dNot, dTest, dChain, dInG, gLen, gI0, gEq, gIx, gList, gTuple, gBls, look_val, look_own, fz_val, fz_own, fzs_nil, fzs_cons, fnStart, fnEnds, ret_val, ret_own, gCall, dCall, resume_val, resume_new, dSet, dgName, dgCons, dgNil, dgTup, dgSeq, DS.put, DS.new, DS.trim, trimS_un, trimS_val, trimS_strm, trimS_own, wipeR, dYes, seqD_lst, seqD_tup, iterD_lst, iterD_tup, iterD_str, lenD_lst, lenD_tup, lenD_str, tyD_non, tyD_bl, tyD_int, tyD_str, tyD_lst, tyD_tup, tyD_dic, isiD, flatD_non, flatD_bl, flatD_int, flatD_str, atD_lst, atD_tup, dPar, dIf, dDrop, dBM, gAppend, gExtend, gPopAt, gClear, diSeq, diRng1, diRng2, diEnum, diZip, dSl, dPart, dNo, gSl, gInS, gIn, gPlus, gOr, gCat, gCatS, gTimes, gRep, gI, blsD, putAll, dParT, dStar, DS.ice, iceS_un, iceS_val, iceS_strm, iceS_own, dOr2, gNeS, and_assoc, w_after, m_checked_rules, hs, hlen, m_checked_layers, h6, h7, h9, show lh.length ≤ 1000000 by omega, e2, m_is_number, isNum, i0, nl, e3, c1, c2, q1, q2, eqv_tup]
  refine ⟨hr, ?_⟩
  unfold afterR at h
  by_cases he : eqL ((lh.map tupD).take la.length) (la.map tupD) = true
  · rw [if_pos he] at h
    rw [if_pos he]
    have e4 : List.map (S.val ∘ tupD) lb ++ List.drop la.length (List.map (S.val ∘ tupD) lh) = (lb.map tupD ++ (lh.map tupD).drop la.length).map S.val := by simp
    exact ⟨hi, s1, by omega, s3, _, _, by rw [e4]; exact fzs_vals _ _, h⟩
  · rw [if_neg he] at h
    rw [if_neg he]
    exact ⟨hi, h⟩
end RH

set_option Elab.async false
set_option linter.all false
set_option maxRecDepth 100000
set_option maxHeartbeats 2000000
/-! readings, on: the helpers of the laws -/
namespace RH
open PySem PySem.Spec PyProof.Rows L2

/-! ### draws -/
def m__law_pick : FM := fun ds n Ψ => ∃ x l, ds = [x] ∧ seqD x = some l ∧ 0 < l.length ∧ l.length < 1000000 ∧ n < 1000000 ∧ ∀ y ∈ l, Ψ (.val y) (n + 1)
/-- _law_pick: _law_stream_here, _law_things -/
def w__law_pick : DTS :=
  (dRet (dOp gIx (dVar 1) (dCall true 1 m__law_draw (dCons (dVar 0) (dCons (dCB gLen (dCons (dVar 1) dNil)) dNil)))))
theorem rd__law_pick : ∀ ds n Ψ, ds.length = 1 → m__law_pick ds n Ψ → w__law_pick (fnStart true ds 0 n) (fnEnds Ψ) := by
  rintro ds n Ψ - ⟨x, l, rfl, hs, h0, h1, h2, h⟩
  simp [dRet, dAndV, dOrV, dNotV, dIsi, dVar, dC, dOp, dCB, dCons, dNil, dLst, dTup, dSeq, dIfS, dOr, dAnd, dNot, dTest, dChain, dInG, gLen, gI0, gEq, gIx, gList, gTuple, gBls, look_val, look_own, fz_val, fz_own, fzs_nil, fzs_cons, fnStart, fnEnds, ret_val, ret_own, gCall, dCall, resume_val, resume_new, dSet, dgName, dgCons, dgNil, dgTup, dgSeq, DS.put, DS.new, DS.trim, trimS_un, trimS_val, trimS_strm, trimS_own, wipeR, dYes, seqD_lst, seqD_tup, iterD_lst, iterD_tup, iterD_str, lenD_lst, lenD_tup, lenD_str, tyD_non, tyD_bl, tyD_int, tyD_str, tyD_lst, tyD_tup, tyD_dic, isiD, flatD_non, flatD_bl, flatD_int, flatD_str, atD_lst, atD_tup, dPar, dIf, dDrop, dBM, gAppend, gExtend, gPopAt, gClear, diSeq, diRng1, diRng2, diEnum, diZip, dSl, dPart, dNo, gSl, gInS, gIn, gPlus, gOr, gCat, gCatS, gTimes, gRep, gI, blsD, putAll, dParT, dStar, DS.ice, iceS_un, iceS_val, iceS_strm, iceS_own, dOr2, gNeS, and_assoc, w__law_pick, lenD_of hs, m__law_draw, h2]
  refine ⟨h0, by omega, fun i i0 i1 => ?_⟩
  have hlt : i.toNat < l.length := by omega
  refine ⟨l[i.toNat], ?_, h _ (List.getElem_mem _)⟩
  rw [atD_of hs]
  exact atN i0 (List.getElem?_eq_getElem hlt)
theorem erase_perm {α : Type} : ∀ {l : List α} {i : Nat} (h : i < l.length), (l[i] :: l.eraseIdx i).Perm l
  | _ :: _, 0, _ => List.Perm.refl _
  | a :: l, i + 1, h => (List.Perm.swap _ _ _).trans ((erase_perm (l := l) (i := i) (Nat.lt_of_succ_lt_succ h)).cons a)
/-- the things in another order -/
def m__law_mixed : FM := fun ds n Ψ => ∃ x l, ds = [x] ∧ seqD x = some l ∧ l.length ≤ 1000 ∧ n + l.length ≤ 900000 ∧ ∀ p : List D, p.Perm l → Ψ (.new p) (n + l.length)
/-- _law_mixed: _law_stream_here, _law_things, _law_left, _law_found, _law_k -/
def w__law_mixed : DTS :=
  (dSeq (dPar 2 3 (dCons (dCB gList (dCons (dVar 1) dNil)) (dCons (dLst dNil) dNil)))
    (dSeq (dFor (diRng1 (dCons (dCB gLen (dCons (dVar 2) dNil)) dNil)) (dgName 4)
      (dDrop (dBM gAppend (dVar 3) (dCons (dBM gPopAt (dVar 2) (dCons (dCall true 1 m__law_draw (dCons (dVar 0) (dCons (dCB gLen (dCons (dVar 2) dNil)) dNil))) dNil)) dNil))))
    (dRet (dVar 3))))
theorem rd__law_mixed : ∀ ds n Ψ, ds.length = 1 → m__law_mixed ds n Ψ → w__law_mixed (fnStart true ds 3 n) (fnEnds Ψ) := by
  rintro ds n Ψ - ⟨x, l, rfl, hs, h0, h1, h⟩
  simp [dRet, dAndV, dOrV, dNotV, dIsi, dVar, dC, dOp, dCB, dCons, dNil, dLst, dTup, dSeq, dIfS, dOr, dAnd, dNot, dTest, dChain, dInG, gLen, gI0, gEq, gIx, gList, gTuple, gBls, look_val, look_own, fz_val, fz_own, fzs_nil, fzs_cons, fnStart, fnEnds, ret_val, ret_own, gCall, dCall, resume_val, resume_new, dSet, dgName, dgCons, dgNil, dgTup, dgSeq, DS.put, DS.new, DS.trim, trimS_un, trimS_val, trimS_strm, trimS_own, wipeR, dYes, seqD_lst, seqD_tup, iterD_lst, iterD_tup, iterD_str, lenD_lst, lenD_tup, lenD_str, tyD_non, tyD_bl, tyD_int, tyD_str, tyD_lst, tyD_tup, tyD_dic, isiD, flatD_non, flatD_bl, flatD_int, flatD_str, atD_lst, atD_tup, dPar, dIf, dDrop, dBM, gAppend, gExtend, gPopAt, gClear, diSeq, diRng1, diRng2, diEnum, diZip, dSl, dPart, dNo, gSl, gInS, gIn, gPlus, gOr, gCat, gCatS, gTimes, gRep, gI, blsD, putAll, dParT, dStar, DS.ice, iceS_un, iceS_val, iceS_strm, iceS_own, dOr2, gNeS, and_assoc, w__law_mixed, hs, dFor]
  refine ⟨by omega, fun i d => i ≤ l.length ∧ ∃ left found s, d = ⟨[.strm, .val x, .own 0, .own 1, s], [(true, left), (true, found)], n + i⟩ ∧ found.length = i ∧ (found ++ left).Perm l, ⟨Nat.zero_le _, l, [], .un, rfl, rfl, by simp⟩, ?_, ?_⟩
  · rintro i y d hy ⟨hi, left, found, s, rfl, hf, hp⟩
    obtain ⟨hlt, rfl⟩ := rng_get hy
    have hl := hp.length_eq
    rw [List.length_append] at hl
    simp [dRet, dAndV, dOrV, dNotV, dIsi, dVar, dC, dOp, dCB, dCons, dNil, dLst, dTup, dSeq, dIfS, dOr, dAnd, dNot, dTest, dChain, dInG, gLen, gI0, gEq, gIx, gList, gTuple, gBls, look_val, look_own, fz_val, fz_own, fzs_nil, fzs_cons, fnStart, fnEnds, ret_val, ret_own, gCall, dCall, resume_val, resume_new, dSet, dgName, dgCons, dgNil, dgTup, dgSeq, DS.put, DS.new, DS.trim, trimS_un, trimS_val, trimS_strm, trimS_own, wipeR, dYes, seqD_lst, seqD_tup, iterD_lst, iterD_tup, iterD_str, lenD_lst, lenD_tup, lenD_str, tyD_non, tyD_bl, tyD_int, tyD_str, tyD_lst, tyD_tup, tyD_dic, isiD, flatD_non, flatD_bl, flatD_int, flatD_str, atD_lst, atD_tup, dPar, dIf, dDrop, dBM, gAppend, gExtend, gPopAt, gClear, diSeq, diRng1, diRng2, diEnum, diZip, dSl, dPart, dNo, gSl, gInS, gIn, gPlus, gOr, gCat, gCatS, gTimes, gRep, gI, blsD, putAll, dParT, dStar, DS.ice, iceS_un, iceS_val, iceS_strm, iceS_own, dOr2, gNeS, and_assoc, m__law_draw]
    refine ⟨by omega, by omega, by omega, fun j j0 j1 => ?_⟩
    have hj : j.toNat < left.length := by omega
    refine ⟨j0, by omega, left[j.toNat], List.getElem?_eq_getElem hj, by omega, by omega, by omega, hf, ?_⟩
    refine List.Perm.trans ?_ hp
    refine List.Perm.append_left _ ?_
    exact erase_perm hj
  · rintro d ⟨hi, left, found, s, hd, hf, hp⟩
    have hl := hp.length_eq
    rw [List.length_append] at hl
    have hle : left = [] := by
      rw [rng_len] at hf
      exact List.length_eq_zero_iff.mp (by omega)
    subst hle
    rw [List.append_nil] at hp
    have := h found hp
    subst hd
    simpa [dRet, dAndV, dOrV, dNotV, dIsi, dVar, dC, dOp, dCB, dCons, dNil, dLst, dTup, dSeq, dIfS, dOr, dAnd, dNot, dTest, dChain, dInG, gLen, gI0, gEq, gIx, gList, gTuple, gBls, look_val, look_own, fz_val, fz_own, fzs_nil, fzs_cons, fnStart, fnEnds, ret_val, ret_own, gCall, dCall, resume_val, resume_new, dSet, dgName, dgCons, dgNil, dgTup, dgSeq, DS.put, DS.new, DS.trim, trimS_un, trimS_val, trimS_strm, trimS_own, wipeR, dYes, seqD_lst, seqD_tup, iterD_lst, iterD_tup, iterD_str, lenD_lst, lenD_tup, lenD_str, tyD_non, tyD_bl, tyD_int, tyD_str, tyD_lst, tyD_tup, tyD_dic, isiD, flatD_non, flatD_bl, flatD_int, flatD_str, atD_lst, atD_tup, dPar, dIf, dDrop, dBM, gAppend, gExtend, gPopAt, gClear, diSeq, diRng1, diRng2, diEnum, diZip, dSl, dPart, dNo, gSl, gInS, gIn, gPlus, gOr, gCat, gCatS, gTimes, gRep, gI, blsD, putAll, dParT, dStar, DS.ice, iceS_un, iceS_val, iceS_strm, iceS_own, dOr2, gNeS, and_assoc, rng_len] using this

/-! ### each once -/
def onceD (acc : List D) : List D → List D
  | [] => acc
  | x :: l => onceD (acc ++ if (!inD x acc) = true then [x] else []) l
theorem onceD_mem {y : D} : ∀ {l acc : List D}, y ∈ onceD acc l → y ∈ acc ∨ y ∈ l
  | [], acc, h => .inl h
  | x :: l, acc, h => by
    rcases onceD_mem (l := l) h with h | h
    · rcases List.mem_append.mp h with h | h
      · exact .inl h
      · split at h
        · exact .inr (by rcases List.mem_singleton.mp h with rfl; exact List.mem_cons_self)
        · cases h
    · exact .inr (List.mem_cons_of_mem _ h)
theorem onceD_len : ∀ (l acc : List D), (onceD acc l).length ≤ acc.length + l.length
  | [], acc => by simp [onceD]
  | x :: l, acc => by
    have := onceD_len l (acc ++ if (!inD x acc) = true then [x] else [])
    show (onceD _ l).length ≤ _
    rw [List.length_append] at this
    have h2 : (if (!inD x acc) = true then [x] else []).length ≤ 1 := by split <;> simp
    simp only [List.length_cons]
    omega
theorem onceD_snoc : ∀ (l acc : List D) (x : D), onceD acc (l ++ [x]) = onceD acc l ++ if (!inD x (onceD acc l)) = true then [x] else []
  | [], acc, x => rfl
  | y :: l, acc, x => onceD_snoc l _ x
def m__law_each_once : FM := fun ds n Ψ => ∃ x l, ds = [x] ∧ seqD x = some l ∧ l.length ≤ 100000 ∧ (∀ y ∈ l, pl 60 y = true) ∧ Ψ (.new (onceD [] l)) n
/-- _law_each_once: _law_some, _law_found, _law_thing -/
def w__law_each_once : DTS :=
  (dSeq (dSet (dLst dNil) (dgName 1))
    (dSeq (dFor (diSeq (dVar 0)) (dgName 2)
      (dDrop (dBM gExtend (dVar 1) (dCons (dIf (dTest (dOp (gIn (!·)) (dVar 2) (dVar 1))) (dLst (dCons (dVar 2) dNil)) (dLst dNil)) dNil))))
    (dRet (dVar 1))))
theorem rd__law_each_once : ∀ ds n Ψ, ds.length = 1 → m__law_each_once ds n Ψ → w__law_each_once (fnStart false ds 2 n) (fnEnds Ψ) := by
  rintro ds n Ψ - ⟨x, l, rfl, hs, h0, h1, h⟩
  simp [dRet, dAndV, dOrV, dNotV, dIsi, dVar, dC, dOp, dCB, dCons, dNil, dLst, dTup, dSeq, dIfS, dOr, dAnd, dNot, dTest, dChain, dInG, gLen, gI0, gEq, gIx, gList, gTuple, gBls, look_val, look_own, fz_val, fz_own, fzs_nil, fzs_cons, fnStart, fnEnds, ret_val, ret_own, gCall, dCall, resume_val, resume_new, dSet, dgName, dgCons, dgNil, dgTup, dgSeq, DS.put, DS.new, DS.trim, trimS_un, trimS_val, trimS_strm, trimS_own, wipeR, dYes, seqD_lst, seqD_tup, iterD_lst, iterD_tup, iterD_str, lenD_lst, lenD_tup, lenD_str, tyD_non, tyD_bl, tyD_int, tyD_str, tyD_lst, tyD_tup, tyD_dic, isiD, flatD_non, flatD_bl, flatD_int, flatD_str, atD_lst, atD_tup, dPar, dIf, dDrop, dBM, gAppend, gExtend, gPopAt, gClear, diSeq, diRng1, diRng2, diEnum, diZip, dSl, dPart, dNo, gSl, gInS, gIn, gPlus, gOr, gCat, gCatS, gTimes, gRep, gI, blsD, putAll, dParT, dStar, DS.ice, iceS_un, iceS_val, iceS_strm, iceS_own, dOr2, gNeS, and_assoc, w__law_each_once, hs, dFor, iterD_of hs]
  refine ⟨fun i d => i ≤ l.length ∧ ∃ s, d = ⟨[.val x, .own 0, s], [(true, onceD [] (l.take i))], n⟩, ⟨Nat.zero_le _, .un, rfl⟩, ?_, ?_⟩
  · rintro i y d hy ⟨hi, s, rfl⟩
    have hlt := (List.getElem?_eq_some_iff.mp hy).1
    have hly := List.mem_of_getElem? hy
    have e1 : Eqs y := pl_eqs (h1 y hly) (by decide)
    have e2 : Eqs (.lst (onceD [] (l.take i))) := eqs_lst (n := 60) (fun z hz => (onceD_mem hz).elim (fun h => by cases h) fun h => h1 z (List.mem_of_mem_take h)) (by decide)
    have e3 := onceD_len (l.take i) []
    have e4 : (onceD [] (l.take i)).length ≤ 100000 := by
      rw [List.length_take] at e3
      simp at e3
      omega
    have e5 : l.take (i + 1) = l.take i ++ [y] := by rw [List.take_add_one, hy]; rfl
    simp [dRet, dAndV, dOrV, dNotV, dIsi, dVar, dC, dOp, dCB, dCons, dNil, dLst, dTup, dSeq, dIfS, dOr, dAnd, dNot, dTest, dChain, dInG, gLen, gI0, gEq, gIx, gList, gTuple, gBls, look_val, look_own, fz_val, fz_own, fzs_nil, fzs_cons, fnStart, fnEnds, ret_val, ret_own, gCall, dCall, resume_val, resume_new, dSet, dgName, dgCons, dgNil, dgTup, dgSeq, DS.put, DS.new, DS.trim, trimS_un, trimS_val, trimS_strm, trimS_own, wipeR, dYes, seqD_lst, seqD_tup, iterD_lst, iterD_tup, iterD_str, lenD_lst, lenD_tup, lenD_str, tyD_non, tyD_bl, tyD_int, tyD_str, tyD_lst, tyD_tup, tyD_dic, isiD, flatD_non, flatD_bl, flatD_int, flatD_str, atD_lst, atD_tup, dPar, dIf, dDrop, dBM, gAppend, gExtend, gPopAt, gClear, diSeq, diRng1, diRng2, diEnum, diZip, dSl, dPart, dNo, gSl, gInS, gIn, gPlus, gOr, gCat, gCatS, gTimes, gRep, gI, blsD, putAll, dParT, dStar, DS.ice, iceS_un, iceS_val, iceS_strm, iceS_own, dOr2, gNeS, and_assoc, e1, e2, e5, onceD_snoc]
    cases hb : inD y (onceD [] (l.take i)) with
    | true => simp [dRet, dAndV, dOrV, dNotV, dIsi, dVar, dC, dOp, dCB, dCons, dNil, dLst, dTup, dSeq, dIfS, dOr, dAnd, dNot, dTest, dChain, dInG, gLen, gI0, gEq, gIx, gList, gTuple, gBls, look_val, look_own, fz_val, fz_own, fzs_nil, fzs_cons, fnStart, fnEnds, ret_val, ret_own, gCall, dCall, resume_val, resume_new, dSet, dgName, dgCons, dgNil, dgTup, dgSeq, DS.put, DS.new, DS.trim, trimS_un, trimS_val, trimS_strm, trimS_own, wipeR, dYes, seqD_lst, seqD_tup, iterD_lst, iterD_tup, iterD_str, lenD_lst, lenD_tup, lenD_str, tyD_non, tyD_bl, tyD_int, tyD_str, tyD_lst, tyD_tup, tyD_dic, isiD, flatD_non, flatD_bl, flatD_int, flatD_str, atD_lst, atD_tup, dPar, dIf, dDrop, dBM, gAppend, gExtend, gPopAt, gClear, diSeq, diRng1, diRng2, diEnum, diZip, dSl, dPart, dNo, gSl, gInS, gIn, gPlus, gOr, gCat, gCatS, gTimes, gRep, gI, blsD, putAll, dParT, dStar, DS.ice, iceS_un, iceS_val, iceS_strm, iceS_own, dOr2, gNeS, and_assoc]; omega
    | false => simp [dRet, dAndV, dOrV, dNotV, dIsi, dVar, dC, dOp, dCB, dCons, dNil, dLst, dTup, dSeq, dIfS, dOr, dAnd, dNot, dTest, dChain, dInG, gLen, gI0, gEq, gIx, gList, gTuple, gBls, look_val, look_own, fz_val, fz_own, fzs_nil, fzs_cons, fnStart, fnEnds, ret_val, ret_own, gCall, dCall, resume_val, resume_new, dSet, dgName, dgCons, dgNil, dgTup, dgSeq, DS.put, DS.new, DS.trim, trimS_un, trimS_val, trimS_strm, trimS_own, wipeR, dYes, seqD_lst, seqD_tup, iterD_lst, iterD_tup, iterD_str, lenD_lst, lenD_tup, lenD_str, tyD_non, tyD_bl, tyD_int, tyD_str, tyD_lst, tyD_tup, tyD_dic, isiD, flatD_non, flatD_bl, flatD_int, flatD_str, atD_lst, atD_tup, dPar, dIf, dDrop, dBM, gAppend, gExtend, gPopAt, gClear, diSeq, diRng1, diRng2, diEnum, diZip, dSl, dPart, dNo, gSl, gInS, gIn, gPlus, gOr, gCat, gCatS, gTimes, gRep, gI, blsD, putAll, dParT, dStar, DS.ice, iceS_un, iceS_val, iceS_strm, iceS_own, dOr2, gNeS, and_assoc]; omega
  · rintro d ⟨hi, s, rfl⟩
    simpa [dRet, dAndV, dOrV, dNotV, dIsi, dVar, dC, dOp, dCB, dCons, dNil, dLst, dTup, dSeq, dIfS, dOr, dAnd, dNot, dTest, dChain, dInG, gLen, gI0, gEq, gIx, gList, gTuple, gBls, look_val, look_own, fz_val, fz_own, fzs_nil, fzs_cons, fnStart, fnEnds, ret_val, ret_own, gCall, dCall, resume_val, resume_new, dSet, dgName, dgCons, dgNil, dgTup, dgSeq, DS.put, DS.new, DS.trim, trimS_un, trimS_val, trimS_strm, trimS_own, wipeR, dYes, seqD_lst, seqD_tup, iterD_lst, iterD_tup, iterD_str, lenD_lst, lenD_tup, lenD_str, tyD_non, tyD_bl, tyD_int, tyD_str, tyD_lst, tyD_tup, tyD_dic, isiD, flatD_non, flatD_bl, flatD_int, flatD_str, atD_lst, atD_tup, dPar, dIf, dDrop, dBM, gAppend, gExtend, gPopAt, gClear, diSeq, diRng1, diRng2, diEnum, diZip, dSl, dPart, dNo, gSl, gInS, gIn, gPlus, gOr, gCat, gCatS, gTimes, gRep, gI, blsD, putAll, dParT, dStar, DS.ice, iceS_un, iceS_val, iceS_strm, iceS_own, dOr2, gNeS, and_assoc] using h
end RH

set_option Elab.async false
set_option linter.all false
set_option maxRecDepth 100000
set_option maxHeartbeats 2000000
/-! readings, on: same, loose, spoilt -/
namespace RH
open PySem PySem.Spec PyProof.Rows L2

/-- lists are no longer than W, to the depth n -/
def wid (W : Nat) : Nat → D → Bool
  | 0, _ => true
  | n + 1, x => match seqD x with
    | some l => decide (l.length ≤ W) && l.all (wid W n)
    | none => true
theorem wid_seq {W n : Nat} {x : D} {l : List D} (h : wid W (n + 1) x = true) (e : seqD x = some l) : l.length ≤ W ∧ ∀ y ∈ l, wid W n y = true := by
  simp only [wid, e, Bool.and_eq_true, decide_eq_true_eq, List.all_eq_true] at h
  exact h
theorem pl0_atom {x : D} (h : pl 0 x = true) : seqD x = none := by cases x <;> first | rfl | cases h
def m__law_same (k : Nat) : FM := fun ds n Ψ => ∃ x, ds = [x, x] ∧ pl k x = true ∧ k ≤ 60 ∧ wid 1000000 k x = true ∧ Ψ (.val (.bl true)) n
/-- _law_same: _law_found, _law_due, _law_mine, _law_theirs, _law_key -/
def w__law_same (m__law_same : FM) : DTS :=
  (dSeq (dIfS (dTest (dIsi ["list", "tuple"] (dVar 1)))
      (dSeq (dIfS (dOr (dTest (dOp (gEq (!·)) (dIsi ["list"] (dVar 0)) (dIsi ["list"] (dVar 1)))) (dTest (dOp (gEq (!·)) (dIsi ["tuple"] (dVar 0)) (dIsi ["tuple"] (dVar 1)))))
      (dRet (dC (.bl false)))
      (fun d Φ => Φ.nx d))
    (dRet (dAndV (dOp (gEq id) (dCB gLen (dCons (dVar 0) dNil)) (dCB gLen (dCons (dVar 1) dNil))) (dCB (gBls fun bs => bs.all id) (dCons (dLc (diZip (dCons (dVar 0) (dCons (dVar 1) dNil))) (dgSeq 2 (dgCons 2 (dgCons 3 dgNil))) dYes (dCall false 2 m__law_same (dCons (dVar 2) (dCons (dVar 3) dNil))) [2, 3]) dNil)))))
      (fun d Φ => Φ.nx d))
    (dSeq (dIfS (dTest (dIsi ["dict"] (dVar 1))) (fun _ _ => False)
      (fun d Φ => Φ.nx d))
    (dSeq (dIfS (dOr (dTest (dIsi ["bool"] (dVar 1))) (dTest (dIsi ["bool"] (dVar 0))))
      (dRet (dAndV (dIsi ["bool"] (dVar 1)) (dAndV (dIsi ["bool"] (dVar 0)) (dOp (gEq id) (dVar 0) (dVar 1)))))
      (fun d Φ => Φ.nx d))
    (dRet (dAndV (dNotV (dIsi ["list", "tuple", "dict"] (dVar 0))) (dOp (gEq id) (dVar 0) (dVar 1)))))))
theorem same_atom {x : D} {n : Nat} {m0 : FM} {Ψ : R → Nat → Prop} (hp : ∃ k, pl k x = true ∧ k ≤ 60) (hs : seqD x = none) (h : Ψ (.val (.bl true)) n) : w__law_same m0 (fnStart false [x, x] 3 n) (fnEnds Ψ) := by
  obtain ⟨k, hp, hk⟩ := hp
  have he := pl_eqs hp (by omega)
  cases x with
  | lst l => cases hs
  | tup l => cases hs
  | dic l => cases k <;> cases hp
  | obj c l => cases k <;> cases hp
  | non => simpa [dRet, dAndV, dOrV, dNotV, dIsi, dVar, dC, dOp, dCB, dCons, dNil, dLst, dTup, dSeq, dIfS, dOr, dAnd, dNot, dTest, dChain, dInG, gLen, gI0, gEq, gIx, gList, gTuple, gBls, look_val, look_own, fz_val, fz_own, fzs_nil, fzs_cons, fnStart, fnEnds, ret_val, ret_own, gCall, dCall, resume_val, resume_new, dSet, dgName, dgCons, dgNil, dgTup, dgSeq, DS.put, DS.new, DS.trim, trimS_un, trimS_val, trimS_strm, trimS_own, wipeR, dYes, seqD_lst, seqD_tup, iterD_lst, iterD_tup, iterD_str, lenD_lst, lenD_tup, lenD_str, tyD_non, tyD_bl, tyD_int, tyD_str, tyD_lst, tyD_tup, tyD_dic, isiD, flatD_non, flatD_bl, flatD_int, flatD_str, atD_lst, atD_tup, dPar, dIf, dDrop, dBM, gAppend, gExtend, gPopAt, gClear, diSeq, diRng1, diRng2, diEnum, diZip, dSl, dPart, dNo, gSl, gInS, gIn, gPlus, gOr, gCat, gCatS, gTimes, gRep, gI, blsD, putAll, dParT, dStar, DS.ice, iceS_un, iceS_val, iceS_strm, iceS_own, dOr2, gNeS, and_assoc, w__law_same, he, py, PyData.eqv] using h
  | bl b => simpa [dRet, dAndV, dOrV, dNotV, dIsi, dVar, dC, dOp, dCB, dCons, dNil, dLst, dTup, dSeq, dIfS, dOr, dAnd, dNot, dTest, dChain, dInG, gLen, gI0, gEq, gIx, gList, gTuple, gBls, look_val, look_own, fz_val, fz_own, fzs_nil, fzs_cons, fnStart, fnEnds, ret_val, ret_own, gCall, dCall, resume_val, resume_new, dSet, dgName, dgCons, dgNil, dgTup, dgSeq, DS.put, DS.new, DS.trim, trimS_un, trimS_val, trimS_strm, trimS_own, wipeR, dYes, seqD_lst, seqD_tup, iterD_lst, iterD_tup, iterD_str, lenD_lst, lenD_tup, lenD_str, tyD_non, tyD_bl, tyD_int, tyD_str, tyD_lst, tyD_tup, tyD_dic, isiD, flatD_non, flatD_bl, flatD_int, flatD_str, atD_lst, atD_tup, dPar, dIf, dDrop, dBM, gAppend, gExtend, gPopAt, gClear, diSeq, diRng1, diRng2, diEnum, diZip, dSl, dPart, dNo, gSl, gInS, gIn, gPlus, gOr, gCat, gCatS, gTimes, gRep, gI, blsD, putAll, dParT, dStar, DS.ice, iceS_un, iceS_val, iceS_strm, iceS_own, dOr2, gNeS, and_assoc, w__law_same, he, py, PyData.eqv] using h
  | int b => simpa [dRet, dAndV, dOrV, dNotV, dIsi, dVar, dC, dOp, dCB, dCons, dNil, dLst, dTup, dSeq, dIfS, dOr, dAnd, dNot, dTest, dChain, dInG, gLen, gI0, gEq, gIx, gList, gTuple, gBls, look_val, look_own, fz_val, fz_own, fzs_nil, fzs_cons, fnStart, fnEnds, ret_val, ret_own, gCall, dCall, resume_val, resume_new, dSet, dgName, dgCons, dgNil, dgTup, dgSeq, DS.put, DS.new, DS.trim, trimS_un, trimS_val, trimS_strm, trimS_own, wipeR, dYes, seqD_lst, seqD_tup, iterD_lst, iterD_tup, iterD_str, lenD_lst, lenD_tup, lenD_str, tyD_non, tyD_bl, tyD_int, tyD_str, tyD_lst, tyD_tup, tyD_dic, isiD, flatD_non, flatD_bl, flatD_int, flatD_str, atD_lst, atD_tup, dPar, dIf, dDrop, dBM, gAppend, gExtend, gPopAt, gClear, diSeq, diRng1, diRng2, diEnum, diZip, dSl, dPart, dNo, gSl, gInS, gIn, gPlus, gOr, gCat, gCatS, gTimes, gRep, gI, blsD, putAll, dParT, dStar, DS.ice, iceS_un, iceS_val, iceS_strm, iceS_own, dOr2, gNeS, and_assoc, w__law_same, he, py, PyData.eqv] using h
  | str b => simpa [dRet, dAndV, dOrV, dNotV, dIsi, dVar, dC, dOp, dCB, dCons, dNil, dLst, dTup, dSeq, dIfS, dOr, dAnd, dNot, dTest, dChain, dInG, gLen, gI0, gEq, gIx, gList, gTuple, gBls, look_val, look_own, fz_val, fz_own, fzs_nil, fzs_cons, fnStart, fnEnds, ret_val, ret_own, gCall, dCall, resume_val, resume_new, dSet, dgName, dgCons, dgNil, dgTup, dgSeq, DS.put, DS.new, DS.trim, trimS_un, trimS_val, trimS_strm, trimS_own, wipeR, dYes, seqD_lst, seqD_tup, iterD_lst, iterD_tup, iterD_str, lenD_lst, lenD_tup, lenD_str, tyD_non, tyD_bl, tyD_int, tyD_str, tyD_lst, tyD_tup, tyD_dic, isiD, flatD_non, flatD_bl, flatD_int, flatD_str, atD_lst, atD_tup, dPar, dIf, dDrop, dBM, gAppend, gExtend, gPopAt, gClear, diSeq, diRng1, diRng2, diEnum, diZip, dSl, dPart, dNo, gSl, gInS, gIn, gPlus, gOr, gCat, gCatS, gTimes, gRep, gI, blsD, putAll, dParT, dStar, DS.ice, iceS_un, iceS_val, iceS_strm, iceS_own, dOr2, gNeS, and_assoc, w__law_same, he, py, PyData.eqv] using h
theorem zip_self {l : List D} : (l.zip l).map (fun p => D.tup [p.1, p.2]) = l.map fun x => .tup [x, x] := by
  induction l with
  | nil => rfl
  | cons x l ih => simp [ih]
theorem rd__law_same (k : Nat) : ∀ ds n Ψ, ds.length = 2 → m__law_same k ds n Ψ → w__law_same (m__law_same (k - 1)) (fnStart false ds 3 n) (fnEnds Ψ) := by
  rintro ds n Ψ - ⟨x, rfl, hp, hk, hw, h⟩
  cases hs : seqD x with
  | none => exact same_atom ⟨k, hp, hk⟩ hs h
  | some l =>
    cases k with
    | zero => rw [pl0_atom hp] at hs; cases hs
    | succ k =>
    obtain ⟨hl, hwl⟩ := wid_seq hw hs
    have hpl := pl_seq hp hs
    have i1 : Eqs (.int (l.length : Int)) := eqs_int _
    have lc : ∀ y, (y = .lst l ∨ y = .tup l) → ∀ Θ : S → DS → Prop, Θ (.own 0) ⟨[.val y, .val y, .un, .un, .un], [(true, l.map fun _ => .bl true)], n⟩ → dLc (diZip (dCons (dVar 0) (dCons (dVar 1) dNil))) (dgSeq 2 (dgCons 2 (dgCons 3 dgNil))) dYes (dCall false 2 (m__law_same k) (dCons (dVar 2) (dCons (dVar 3) dNil))) [2, 3] ⟨[.val y, .val y, .un, .un, .un], [], n⟩ Θ := fun y hy Θ hΘ0 => by
      refine dLc_map (d1 := ⟨[.val y, .val y, .un, .un, .un], [], n⟩) (l.map fun x => .tup [x, x]) (fun _ => .bl true) (fun Φ h => ?_) (by simpa using hl) (fun z hz acc Θ hΘ => ?_) ?_
      · rcases hy with rfl | rfl <;> simpa [dRet, dAndV, dOrV, dNotV, dIsi, dVar, dC, dOp, dCB, dCons, dNil, dLst, dTup, dSeq, dIfS, dOr, dAnd, dNot, dTest, dChain, dInG, gLen, gI0, gEq, gIx, gList, gTuple, gBls, look_val, look_own, fz_val, fz_own, fzs_nil, fzs_cons, fnStart, fnEnds, ret_val, ret_own, gCall, dCall, resume_val, resume_new, dSet, dgName, dgCons, dgNil, dgTup, dgSeq, DS.put, DS.new, DS.trim, trimS_un, trimS_val, trimS_strm, trimS_own, wipeR, dYes, seqD_lst, seqD_tup, iterD_lst, iterD_tup, iterD_str, lenD_lst, lenD_tup, lenD_str, tyD_non, tyD_bl, tyD_int, tyD_str, tyD_lst, tyD_tup, tyD_dic, isiD, flatD_non, flatD_bl, flatD_int, flatD_str, atD_lst, atD_tup, dPar, dIf, dDrop, dBM, gAppend, gExtend, gPopAt, gClear, diSeq, diRng1, diRng2, diEnum, diZip, dSl, dPart, dNo, gSl, gInS, gIn, gPlus, gOr, gCat, gCatS, gTimes, gRep, gI, blsD, putAll, dParT, dStar, DS.ice, iceS_un, iceS_val, iceS_strm, iceS_own, dOr2, gNeS, and_assoc, zip_self] using h
      · obtain ⟨z, hzl, rfl⟩ := List.mem_map.mp hz
        have h1 := hpl z hzl
        have h2 := hwl z hzl
        simp [dRet, dAndV, dOrV, dNotV, dIsi, dVar, dC, dOp, dCB, dCons, dNil, dLst, dTup, dSeq, dIfS, dOr, dAnd, dNot, dTest, dChain, dInG, gLen, gI0, gEq, gIx, gList, gTuple, gBls, look_val, look_own, fz_val, fz_own, fzs_nil, fzs_cons, fnStart, fnEnds, ret_val, ret_own, gCall, dCall, resume_val, resume_new, dSet, dgName, dgCons, dgNil, dgTup, dgSeq, DS.put, DS.new, DS.trim, trimS_un, trimS_val, trimS_strm, trimS_own, wipeR, dYes, seqD_lst, seqD_tup, iterD_lst, iterD_tup, iterD_str, lenD_lst, lenD_tup, lenD_str, tyD_non, tyD_bl, tyD_int, tyD_str, tyD_lst, tyD_tup, tyD_dic, isiD, flatD_non, flatD_bl, flatD_int, flatD_str, atD_lst, atD_tup, dPar, dIf, dDrop, dBM, gAppend, gExtend, gPopAt, gClear, diSeq, diRng1, diRng2, diEnum, diZip, dSl, dPart, dNo, gSl, gInS, gIn, gPlus, gOr, gCat, gCatS, gTimes, gRep, gI, blsD, putAll, dParT, dStar, DS.ice, iceS_un, iceS_val, iceS_strm, iceS_own, dOr2, gNeS, and_assoc, m__law_same, h1, h2, show k ≤ 60 by omega]
        exact hΘ _ _ ⟨[.val y, .val y, .val z, .val z, .un], [(true, acc)], n⟩ rfl rfl rfl rfl
      · simpa [dRet, dAndV, dOrV, dNotV, dIsi, dVar, dC, dOp, dCB, dCons, dNil, dLst, dTup, dSeq, dIfS, dOr, dAnd, dNot, dTest, dChain, dInG, gLen, gI0, gEq, gIx, gList, gTuple, gBls, look_val, look_own, fz_val, fz_own, fzs_nil, fzs_cons, fnStart, fnEnds, ret_val, ret_own, gCall, dCall, resume_val, resume_new, dSet, dgName, dgCons, dgNil, dgTup, dgSeq, DS.put, DS.new, DS.trim, trimS_un, trimS_val, trimS_strm, trimS_own, wipeR, dYes, seqD_lst, seqD_tup, iterD_lst, iterD_tup, iterD_str, lenD_lst, lenD_tup, lenD_str, tyD_non, tyD_bl, tyD_int, tyD_str, tyD_lst, tyD_tup, tyD_dic, isiD, flatD_non, flatD_bl, flatD_int, flatD_str, atD_lst, atD_tup, dPar, dIf, dDrop, dBM, gAppend, gExtend, gPopAt, gClear, diSeq, diRng1, diRng2, diEnum, diZip, dSl, dPart, dNo, gSl, gInS, gIn, gPlus, gOr, gCat, gCatS, gTimes, gRep, gI, blsD, putAll, dParT, dStar, DS.ice, iceS_un, iceS_val, iceS_strm, iceS_own, dOr2, gNeS, and_assoc, Function.comp_def] using hΘ0
    have e : blsD (l.map fun _ => D.bl true) = some (l.map fun _ => true) := blsD_map (fun _ => true) l
    have e2 : (l.all fun _ => true) = true := List.all_eq_true.mpr fun _ _ => rfl
    have key : ∀ y, (y = .lst l ∨ y = .tup l) → w__law_same (m__law_same (k + 1 - 1)) (fnStart false [y, y] 3 n) (fnEnds Ψ) := by
      intro y hy
      rcases hy with rfl | rfl
      · simp [dRet, dAndV, dOrV, dNotV, dIsi, dVar, dC, dOp, dCB, dCons, dNil, dLst, dTup, dSeq, dIfS, dOr, dAnd, dNot, dTest, dChain, dInG, gLen, gI0, gEq, gIx, gList, gTuple, gBls, look_val, look_own, fz_val, fz_own, fzs_nil, fzs_cons, fnStart, fnEnds, ret_val, ret_own, gCall, dCall, resume_val, resume_new, dSet, dgName, dgCons, dgNil, dgTup, dgSeq, DS.put, DS.new, DS.trim, trimS_un, trimS_val, trimS_strm, trimS_own, wipeR, dYes, seqD_lst, seqD_tup, iterD_lst, iterD_tup, iterD_str, lenD_lst, lenD_tup, lenD_str, tyD_non, tyD_bl, tyD_int, tyD_str, tyD_lst, tyD_tup, tyD_dic, isiD, flatD_non, flatD_bl, flatD_int, flatD_str, atD_lst, atD_tup, dPar, dIf, dDrop, dBM, gAppend, gExtend, gPopAt, gClear, diSeq, diRng1, diRng2, diEnum, diZip, dSl, dPart, dNo, gSl, gInS, gIn, gPlus, gOr, gCat, gCatS, gTimes, gRep, gI, blsD, putAll, dParT, dStar, DS.ice, iceS_un, iceS_val, iceS_strm, iceS_own, dOr2, gNeS, and_assoc, w__law_same, eqs_bl, py_bl, eqv_bl, i1, py_int, eqv_int]
        refine lc _ (.inl rfl) _ ?_
        simpa [dRet, dAndV, dOrV, dNotV, dIsi, dVar, dC, dOp, dCB, dCons, dNil, dLst, dTup, dSeq, dIfS, dOr, dAnd, dNot, dTest, dChain, dInG, gLen, gI0, gEq, gIx, gList, gTuple, gBls, look_val, look_own, fz_val, fz_own, fzs_nil, fzs_cons, fnStart, fnEnds, ret_val, ret_own, gCall, dCall, resume_val, resume_new, dSet, dgName, dgCons, dgNil, dgTup, dgSeq, DS.put, DS.new, DS.trim, trimS_un, trimS_val, trimS_strm, trimS_own, wipeR, dYes, seqD_lst, seqD_tup, iterD_lst, iterD_tup, iterD_str, lenD_lst, lenD_tup, lenD_str, tyD_non, tyD_bl, tyD_int, tyD_str, tyD_lst, tyD_tup, tyD_dic, isiD, flatD_non, flatD_bl, flatD_int, flatD_str, atD_lst, atD_tup, dPar, dIf, dDrop, dBM, gAppend, gExtend, gPopAt, gClear, diSeq, diRng1, diRng2, diEnum, diZip, dSl, dPart, dNo, gSl, gInS, gIn, gPlus, gOr, gCat, gCatS, gTimes, gRep, gI, blsD, putAll, dParT, dStar, DS.ice, iceS_un, iceS_val, iceS_strm, iceS_own, dOr2, gNeS, and_assoc, e, e2] using h
      · simp [dRet, dAndV, dOrV, dNotV, dIsi, dVar, dC, dOp, dCB, dCons, dNil, dLst, dTup, dSeq, dIfS, dOr, dAnd, dNot, dTest, dChain, dInG, gLen, gI0, gEq, gIx, gList, gTuple, gBls, look_val, look_own, fz_val, fz_own, fzs_nil, fzs_cons, fnStart, fnEnds, ret_val, ret_own, gCall, dCall, resume_val, resume_new, dSet, dgName, dgCons, dgNil, dgTup, dgSeq, DS.put, DS.new, DS.trim, trimS_un, trimS_val, trimS_strm, trimS_own, wipeR, dYes, seqD_lst, seqD_tup, iterD_lst, iterD_tup, iterD_str, lenD_lst, lenD_tup, lenD_str, tyD_non, tyD_bl, tyD_int, tyD_str, tyD_lst, tyD_tup, tyD_dic, isiD, flatD_non, flatD_bl, flatD_int, flatD_str, atD_lst, atD_tup, dPar, dIf, dDrop, dBM, gAppend, gExtend, gPopAt, gClear, diSeq, diRng1, diRng2, diEnum, diZip, dSl, dPart, dNo, gSl, gInS, gIn, gPlus, gOr, gCat, gCatS, gTimes, gRep, gI, blsD, putAll, dParT, dStar, DS.ice, iceS_un, iceS_val, iceS_strm, iceS_own, dOr2, gNeS, and_assoc, w__law_same, eqs_bl, py_bl, eqv_bl, i1, py_int, eqv_int]
        refine lc _ (.inr rfl) _ ?_
        simpa [dRet, dAndV, dOrV, dNotV, dIsi, dVar, dC, dOp, dCB, dCons, dNil, dLst, dTup, dSeq, dIfS, dOr, dAnd, dNot, dTest, dChain, dInG, gLen, gI0, gEq, gIx, gList, gTuple, gBls, look_val, look_own, fz_val, fz_own, fzs_nil, fzs_cons, fnStart, fnEnds, ret_val, ret_own, gCall, dCall, resume_val, resume_new, dSet, dgName, dgCons, dgNil, dgTup, dgSeq, DS.put, DS.new, DS.trim, trimS_un, trimS_val, trimS_strm, trimS_own, wipeR, dYes, seqD_lst, seqD_tup, iterD_lst, iterD_tup, iterD_str, lenD_lst, lenD_tup, lenD_str, tyD_non, tyD_bl, tyD_int, tyD_str, tyD_lst, tyD_tup, tyD_dic, isiD, flatD_non, flatD_bl, flatD_int, flatD_str, atD_lst, atD_tup, dPar, dIf, dDrop, dBM, gAppend, gExtend, gPopAt, gClear, diSeq, diRng1, diRng2, diEnum, diZip, dSl, dPart, dNo, gSl, gInS, gIn, gPlus, gOr, gCat, gCatS, gTimes, gRep, gI, blsD, putAll, dParT, dStar, DS.ice, iceS_un, iceS_val, iceS_strm, iceS_own, dOr2, gNeS, and_assoc, e, e2] using h
    exact key x (by cases x <;> cases hs <;> simp)

/-! ### loose -/
def KW (W : Nat) : Nat → Nat
  | 0 => 0
  | n + 1 => 1 + W * KW W n
def loose : Nat → D → D → Prop
  | 0, x, y => y = x
  | n + 1, x, y => match seqD x with
    | none => y = x
    | some l => ∃ m, (y = .lst m ∨ y = .tup m) ∧ m.length = l.length ∧ ∀ (i : Nat) (a b : D), l[i]? = some a → m[i]? = some b → loose n a b
def looseR (n : Nat) (x : D) : R → Prop
  | .val y => loose n x y
  | .new m => loose n x (.lst m)
def m__law_loose (k : Nat) : FM := fun ds n Ψ => ∃ x, ds = [x] ∧ pl k x = true ∧ wid 12 k x = true ∧ k ≤ 4 ∧ n + KW 12 k ≤ 900000 ∧ ∀ r n', looseR k x r → n' ≤ n + KW 12 k → Ψ r n'
/-- _law_loose: _law_stream_here, _law_thing, _law_some, _law_one -/
def w__law_loose (m__law_loose : FM) : DTS :=
  (dSeq (dIfS (dTest (dIsi ["list", "tuple"] (dVar 1)))
      (dSeq (dSet (dLc (diSeq (dVar 1)) (dgName 3) dYes (dCall true 1 m__law_loose (dCons (dVar 0) (dCons (dVar 3) dNil))) [3]) (dgName 2))
    (dRet (dIf (dTest (dOp (gEq id) (dCall true 1 m__law_draw (dCons (dVar 0) (dCons (dC (.int 2)) dNil))) (dC (.int 0)))) (dVar 2) (dCB gTuple (dCons (dVar 2) dNil)))))
      (fun d Φ => Φ.nx d))
    (dRet (dVar 1)))
theorem loose_atom {k : Nat} {x : D} (h : seqD x = none) : loose k x x := by
  cases k with
  | zero => rfl
  | succ k => simp [loose, h]
theorem rd__law_loose (k : Nat) : ∀ ds n Ψ, ds.length = 1 → m__law_loose k ds n Ψ → w__law_loose (m__law_loose (k - 1)) (fnStart true ds 2 n) (fnEnds Ψ) := by
  rintro ds n Ψ - ⟨x, rfl, hp, hw, hk, hn, h⟩
  obtain ⟨T, hT⟩ := pl_ty hp
  cases hs : seqD x with
  | none =>
    have := h (.val x) n (loose_atom hs) (by omega)
    cases x <;> first | (cases hs; done) | (cases k <;> cases hp; done) | simpa [dRet, dAndV, dOrV, dNotV, dIsi, dVar, dC, dOp, dCB, dCons, dNil, dLst, dTup, dSeq, dIfS, dOr, dAnd, dNot, dTest, dChain, dInG, gLen, gI0, gEq, gIx, gList, gTuple, gBls, look_val, look_own, fz_val, fz_own, fzs_nil, fzs_cons, fnStart, fnEnds, ret_val, ret_own, gCall, dCall, resume_val, resume_new, dSet, dgName, dgCons, dgNil, dgTup, dgSeq, DS.put, DS.new, DS.trim, trimS_un, trimS_val, trimS_strm, trimS_own, wipeR, dYes, seqD_lst, seqD_tup, iterD_lst, iterD_tup, iterD_str, lenD_lst, lenD_tup, lenD_str, tyD_non, tyD_bl, tyD_int, tyD_str, tyD_lst, tyD_tup, tyD_dic, isiD, flatD_non, flatD_bl, flatD_int, flatD_str, atD_lst, atD_tup, dPar, dIf, dDrop, dBM, gAppend, gExtend, gPopAt, gClear, diSeq, diRng1, diRng2, diEnum, diZip, dSl, dPart, dNo, gSl, gInS, gIn, gPlus, gOr, gCat, gCatS, gTimes, gRep, gI, blsD, putAll, dParT, dStar, DS.ice, iceS_un, iceS_val, iceS_strm, iceS_own, dOr2, gNeS, and_assoc, w__law_loose] using this
  | some l =>
    cases k with
    | zero => rw [pl0_atom hp] at hs; cases hs
    | succ k =>
    obtain ⟨hl, hwl⟩ := wid_seq hw hs
    have hpl := pl_seq hp hs
    have hK : KW 12 (k + 1) = 1 + 12 * KW 12 k := rfl
    have key : ∀ y, (y = .lst l ∨ y = .tup l) → seqD y = some l → (∀ r n', looseR (k + 1) y r → n' ≤ n + KW 12 (k + 1) → Ψ r n') → w__law_loose (m__law_loose (k + 1 - 1)) (fnStart true [y] 2 n) (fnEnds Ψ) := by
      intro y hy hsy h
      have lc : ∀ Θ : S → DS → Prop, (∀ (m : List D) (n' : Nat), m.length = l.length → (∀ (i : Nat) (a b : D), l[i]? = some a → m[i]? = some b → loose k a b) → n' ≤ n + 12 * KW 12 k → Θ (.own 0) ⟨[.strm, .val y, .un, .un], [(true, m)], n'⟩) → dLc (diSeq (dVar 1)) (dgName 3) dYes (dCall true 1 (m__law_loose k) (dCons (dVar 0) (dCons (dVar 3) dNil))) [3] ⟨[.strm, .val y, .un, .un], [], n⟩ Θ := fun Θ hΘ0 => by
        refine dLc_rel (d1 := ⟨[.strm, .val y, .un, .un], [], n⟩) l (fun _ a b => loose k a b) (KW 12 k) (fun Φ h => ?_) (by omega) (fun i a ha acc n1 hn1 Θ hΘ => ?_) (fun m n' hm hlo hn' => ?_)
        · simpa [dRet, dAndV, dOrV, dNotV, dIsi, dVar, dC, dOp, dCB, dCons, dNil, dLst, dTup, dSeq, dIfS, dOr, dAnd, dNot, dTest, dChain, dInG, gLen, gI0, gEq, gIx, gList, gTuple, gBls, look_val, look_own, fz_val, fz_own, fzs_nil, fzs_cons, fnStart, fnEnds, ret_val, ret_own, gCall, dCall, resume_val, resume_new, dSet, dgName, dgCons, dgNil, dgTup, dgSeq, DS.put, DS.new, DS.trim, trimS_un, trimS_val, trimS_strm, trimS_own, wipeR, dYes, seqD_lst, seqD_tup, iterD_lst, iterD_tup, iterD_str, lenD_lst, lenD_tup, lenD_str, tyD_non, tyD_bl, tyD_int, tyD_str, tyD_lst, tyD_tup, tyD_dic, isiD, flatD_non, flatD_bl, flatD_int, flatD_str, atD_lst, atD_tup, dPar, dIf, dDrop, dBM, gAppend, gExtend, gPopAt, gClear, diSeq, diRng1, diRng2, diEnum, diZip, dSl, dPart, dNo, gSl, gInS, gIn, gPlus, gOr, gCat, gCatS, gTimes, gRep, gI, blsD, putAll, dParT, dStar, DS.ice, iceS_un, iceS_val, iceS_strm, iceS_own, dOr2, gNeS, and_assoc, iterD_of hsy] using h
        · have ham := List.mem_of_getElem? ha
          have h1 := hpl a ham
          have h2 := hwl a ham
          have hi := (List.getElem?_eq_some_iff.mp ha).1
          have h3 : n1 + KW 12 k ≤ 900000 := by
            have : (i + 1) * KW 12 k ≤ 12 * KW 12 k := Nat.mul_le_mul_right _ (by omega)
            have e : (i + 1) * KW 12 k = i * KW 12 k + KW 12 k := by rw [Nat.add_mul, Nat.one_mul]
            have hn1 : n1 ≤ n + i * KW 12 k := hn1
            omega
          simp [dRet, dAndV, dOrV, dNotV, dIsi, dVar, dC, dOp, dCB, dCons, dNil, dLst, dTup, dSeq, dIfS, dOr, dAnd, dNot, dTest, dChain, dInG, gLen, gI0, gEq, gIx, gList, gTuple, gBls, look_val, look_own, fz_val, fz_own, fzs_nil, fzs_cons, fnStart, fnEnds, ret_val, ret_own, gCall, dCall, resume_val, resume_new, dSet, dgName, dgCons, dgNil, dgTup, dgSeq, DS.put, DS.new, DS.trim, trimS_un, trimS_val, trimS_strm, trimS_own, wipeR, dYes, seqD_lst, seqD_tup, iterD_lst, iterD_tup, iterD_str, lenD_lst, lenD_tup, lenD_str, tyD_non, tyD_bl, tyD_int, tyD_str, tyD_lst, tyD_tup, tyD_dic, isiD, flatD_non, flatD_bl, flatD_int, flatD_str, atD_lst, atD_tup, dPar, dIf, dDrop, dBM, gAppend, gExtend, gPopAt, gClear, diSeq, diRng1, diRng2, diEnum, diZip, dSl, dPart, dNo, gSl, gInS, gIn, gPlus, gOr, gCat, gCatS, gTimes, gRep, gI, blsD, putAll, dParT, dStar, DS.ice, iceS_un, iceS_val, iceS_strm, iceS_own, dOr2, gNeS, and_assoc, m__law_loose, h1, h2, show k ≤ 4 by omega, h3]
          intro r n' hr hn'
          cases r with
          | val b =>
            simp [dRet, dAndV, dOrV, dNotV, dIsi, dVar, dC, dOp, dCB, dCons, dNil, dLst, dTup, dSeq, dIfS, dOr, dAnd, dNot, dTest, dChain, dInG, gLen, gI0, gEq, gIx, gList, gTuple, gBls, look_val, look_own, fz_val, fz_own, fzs_nil, fzs_cons, fnStart, fnEnds, ret_val, ret_own, gCall, dCall, resume_val, resume_new, dSet, dgName, dgCons, dgNil, dgTup, dgSeq, DS.put, DS.new, DS.trim, trimS_un, trimS_val, trimS_strm, trimS_own, wipeR, dYes, seqD_lst, seqD_tup, iterD_lst, iterD_tup, iterD_str, lenD_lst, lenD_tup, lenD_str, tyD_non, tyD_bl, tyD_int, tyD_str, tyD_lst, tyD_tup, tyD_dic, isiD, flatD_non, flatD_bl, flatD_int, flatD_str, atD_lst, atD_tup, dPar, dIf, dDrop, dBM, gAppend, gExtend, gPopAt, gClear, diSeq, diRng1, diRng2, diEnum, diZip, dSl, dPart, dNo, gSl, gInS, gIn, gPlus, gOr, gCat, gCatS, gTimes, gRep, gI, blsD, putAll, dParT, dStar, DS.ice, iceS_un, iceS_val, iceS_strm, iceS_own, dOr2, gNeS, and_assoc]
            exact hΘ _ _ ⟨[.strm, .val y, .un, .val a], [(true, acc)], n'⟩ b rfl hr rfl rfl hn'
          | new b =>
            simp [dRet, dAndV, dOrV, dNotV, dIsi, dVar, dC, dOp, dCB, dCons, dNil, dLst, dTup, dSeq, dIfS, dOr, dAnd, dNot, dTest, dChain, dInG, gLen, gI0, gEq, gIx, gList, gTuple, gBls, look_val, look_own, fz_val, fz_own, fzs_nil, fzs_cons, fnStart, fnEnds, ret_val, ret_own, gCall, dCall, resume_val, resume_new, dSet, dgName, dgCons, dgNil, dgTup, dgSeq, DS.put, DS.new, DS.trim, trimS_un, trimS_val, trimS_strm, trimS_own, wipeR, dYes, seqD_lst, seqD_tup, iterD_lst, iterD_tup, iterD_str, lenD_lst, lenD_tup, lenD_str, tyD_non, tyD_bl, tyD_int, tyD_str, tyD_lst, tyD_tup, tyD_dic, isiD, flatD_non, flatD_bl, flatD_int, flatD_str, atD_lst, atD_tup, dPar, dIf, dDrop, dBM, gAppend, gExtend, gPopAt, gClear, diSeq, diRng1, diRng2, diEnum, diZip, dSl, dPart, dNo, gSl, gInS, gIn, gPlus, gOr, gCat, gCatS, gTimes, gRep, gI, blsD, putAll, dParT, dStar, DS.ice, iceS_un, iceS_val, iceS_strm, iceS_own, dOr2, gNeS, and_assoc]
            exact hΘ _ _ ⟨[.strm, .val y, .un, .val a], [(true, acc), (false, b)], n'⟩ (.lst b) rfl hr rfl rfl hn'
        · refine hΘ0 m n' hm (fun i a b => hlo i a b) ?_
          have : l.length * KW 12 k ≤ 12 * KW 12 k := Nat.mul_le_mul_right _ hl
          have hn' : n' ≤ n + l.length * KW 12 k := hn'
          omega
      have tail : ∀ (m : List D) (n' : Nat), m.length = l.length → (∀ (i : Nat) (a b : D), l[i]? = some a → m[i]? = some b → loose k a b) → n' ≤ n + 12 * KW 12 k → n' < 1000000 ∧ ∀ i : Int, 0 ≤ i → i < 2 → Eqs (.int i) ∧ Eqs (.int 0) ∧ Ψ (.new m) (n' + 1) ∧ Ψ (.val (.tup m)) (n' + 1) := fun m n' hm hlo hn' => ⟨by omega, fun i i0 i1 => ⟨eqs_int i, eqs_int 0, h (.new m) _ (by simp only [looseR, loose, hsy]; exact ⟨m, .inl rfl, hm, fun i a b => hlo i a b⟩) (by omega), h (.val (.tup m)) _ (by simp only [looseR, loose, hsy]; exact ⟨m, .inr rfl, hm, fun i a b => hlo i a b⟩) (by omega)⟩⟩
      rcases hy with rfl | rfl
      all_goals
        simp [dRet, dAndV, dOrV, dNotV, dIsi, dVar, dC, dOp, dCB, dCons, dNil, dLst, dTup, dSeq, dIfS, dOr, dAnd, dNot, dTest, dChain, dInG, gLen, gI0, gEq, gIx, gList, gTuple, gBls, look_val, look_own, fz_val, fz_own, fzs_nil, fzs_cons, fnStart, fnEnds, ret_val, ret_own, gCall, dCall, resume_val, resume_new, dSet, dgName, dgCons, dgNil, dgTup, dgSeq, DS.put, DS.new, DS.trim, trimS_un, trimS_val, trimS_strm, trimS_own, wipeR, dYes, seqD_lst, seqD_tup, iterD_lst, iterD_tup, iterD_str, lenD_lst, lenD_tup, lenD_str, tyD_non, tyD_bl, tyD_int, tyD_str, tyD_lst, tyD_tup, tyD_dic, isiD, flatD_non, flatD_bl, flatD_int, flatD_str, atD_lst, atD_tup, dPar, dIf, dDrop, dBM, gAppend, gExtend, gPopAt, gClear, diSeq, diRng1, diRng2, diEnum, diZip, dSl, dPart, dNo, gSl, gInS, gIn, gPlus, gOr, gCat, gCatS, gTimes, gRep, gI, blsD, putAll, dParT, dStar, DS.ice, iceS_un, iceS_val, iceS_strm, iceS_own, dOr2, gNeS, and_assoc, w__law_loose]
        refine lc _ fun m n' hm hlo hn' => ?_
        obtain ⟨t1, t2⟩ := tail m n' hm (fun i a b => hlo i a b) hn'
        simp [dRet, dAndV, dOrV, dNotV, dIsi, dVar, dC, dOp, dCB, dCons, dNil, dLst, dTup, dSeq, dIfS, dOr, dAnd, dNot, dTest, dChain, dInG, gLen, gI0, gEq, gIx, gList, gTuple, gBls, look_val, look_own, fz_val, fz_own, fzs_nil, fzs_cons, fnStart, fnEnds, ret_val, ret_own, gCall, dCall, resume_val, resume_new, dSet, dgName, dgCons, dgNil, dgTup, dgSeq, DS.put, DS.new, DS.trim, trimS_un, trimS_val, trimS_strm, trimS_own, wipeR, dYes, seqD_lst, seqD_tup, iterD_lst, iterD_tup, iterD_str, lenD_lst, lenD_tup, lenD_str, tyD_non, tyD_bl, tyD_int, tyD_str, tyD_lst, tyD_tup, tyD_dic, isiD, flatD_non, flatD_bl, flatD_int, flatD_str, atD_lst, atD_tup, dPar, dIf, dDrop, dBM, gAppend, gExtend, gPopAt, gClear, diSeq, diRng1, diRng2, diEnum, diZip, dSl, dPart, dNo, gSl, gInS, gIn, gPlus, gOr, gCat, gCatS, gTimes, gRep, gI, blsD, putAll, dParT, dStar, DS.ice, iceS_un, iceS_val, iceS_strm, iceS_own, dOr2, gNeS, and_assoc, m__law_draw, t1]
        intro i i0 i1
        obtain ⟨t3, t4, t5, t6⟩ := t2 i i0 i1
        simp [t3, t4, py_int, eqv_int]
        by_cases hi : i = 0
        · subst hi
          simpa [dRet, dAndV, dOrV, dNotV, dIsi, dVar, dC, dOp, dCB, dCons, dNil, dLst, dTup, dSeq, dIfS, dOr, dAnd, dNot, dTest, dChain, dInG, gLen, gI0, gEq, gIx, gList, gTuple, gBls, look_val, look_own, fz_val, fz_own, fzs_nil, fzs_cons, fnStart, fnEnds, ret_val, ret_own, gCall, dCall, resume_val, resume_new, dSet, dgName, dgCons, dgNil, dgTup, dgSeq, DS.put, DS.new, DS.trim, trimS_un, trimS_val, trimS_strm, trimS_own, wipeR, dYes, seqD_lst, seqD_tup, iterD_lst, iterD_tup, iterD_str, lenD_lst, lenD_tup, lenD_str, tyD_non, tyD_bl, tyD_int, tyD_str, tyD_lst, tyD_tup, tyD_dic, isiD, flatD_non, flatD_bl, flatD_int, flatD_str, atD_lst, atD_tup, dPar, dIf, dDrop, dBM, gAppend, gExtend, gPopAt, gClear, diSeq, diRng1, diRng2, diEnum, diZip, dSl, dPart, dNo, gSl, gInS, gIn, gPlus, gOr, gCat, gCatS, gTimes, gRep, gI, blsD, putAll, dParT, dStar, DS.ice, iceS_un, iceS_val, iceS_strm, iceS_own, dOr2, gNeS, and_assoc] using t5
        · simpa [dRet, dAndV, dOrV, dNotV, dIsi, dVar, dC, dOp, dCB, dCons, dNil, dLst, dTup, dSeq, dIfS, dOr, dAnd, dNot, dTest, dChain, dInG, gLen, gI0, gEq, gIx, gList, gTuple, gBls, look_val, look_own, fz_val, fz_own, fzs_nil, fzs_cons, fnStart, fnEnds, ret_val, ret_own, gCall, dCall, resume_val, resume_new, dSet, dgName, dgCons, dgNil, dgTup, dgSeq, DS.put, DS.new, DS.trim, trimS_un, trimS_val, trimS_strm, trimS_own, wipeR, dYes, seqD_lst, seqD_tup, iterD_lst, iterD_tup, iterD_str, lenD_lst, lenD_tup, lenD_str, tyD_non, tyD_bl, tyD_int, tyD_str, tyD_lst, tyD_tup, tyD_dic, isiD, flatD_non, flatD_bl, flatD_int, flatD_str, atD_lst, atD_tup, dPar, dIf, dDrop, dBM, gAppend, gExtend, gPopAt, gClear, diSeq, diRng1, diRng2, diEnum, diZip, dSl, dPart, dNo, gSl, gInS, gIn, gPlus, gOr, gCat, gCatS, gTimes, gRep, gI, blsD, putAll, dParT, dStar, DS.ice, iceS_un, iceS_val, iceS_strm, iceS_own, dOr2, gNeS, and_assoc, hi] using t6
    exact key x (by cases x <;> cases hs <;> simp) hs h
end RH

set_option Elab.async false
set_option linter.all false
set_option maxRecDepth 100000
set_option maxHeartbeats 2000000
/-! readings, on: spoilt, and k11's own helpers -/
namespace RH
open PySem PySem.Spec PyProof.Rows L2

/-! ### spoilt -/
def m__law_spoilt (k : Nat) : FM := fun ds n Ψ => ∃ x, ds = [x] ∧ hard x = true ∧ pl k x = true ∧ Ψ (.val .non) n
def mo__law_spoilt (k : Nat) : OM := fun ds l n Ψ => ds = [] ∧ hards l = true ∧ pls k l = true ∧ l.length ≤ 1000000 ∧ Ψ .non (l ++ [.str "late"]) n
/-- _law_spoilt: _law_thing, _law_part -/
def w__law_spoilt (m__law_spoilt : FM) : DTS :=
  (dIfS (dTest (dIsi ["list", "tuple"] (dVar 0)))
      (dSeq (dFor (diSeq (dVar 0)) (dgName 1)
      (dDrop (dCall false 1 m__law_spoilt (dCons (dVar 1) dNil))))
    (dIfS (dTest (dIsi ["list"] (dVar 0)))
      (dDrop (dBM gAppend (dVar 0) (dCons (dC (.str "late")) dNil)))
      (fun d Φ => Φ.nx d)))
      (fun d Φ => Φ.nx d))
/-- _law_spoilt: _law_thing, _law_part -/
def wo__law_spoilt (m__law_spoilt : FM) : DTS :=
  (dIfS (dTest (dIsi ["list", "tuple"] (dVar 0)))
      (dSeq (dForO (dVar 0) (dgName 1)
      (dDrop (dCall false 1 m__law_spoilt (dCons (dVar 1) dNil))))
    (dIfS (dTest (dIsi ["list"] (dVar 0)))
      (dDrop (dBM gAppend (dVar 0) (dCons (dC (.str "late")) dNil)))
      (fun d Φ => Φ.nx d)))
      (fun d Φ => Φ.nx d))
theorem rd__law_spoilt (k : Nat) : ∀ ds n Ψ, ds.length = 1 → m__law_spoilt k ds n Ψ → w__law_spoilt (m__law_spoilt (k - 1)) (fnStart false ds 1 n) (fnEnds Ψ) := by
  rintro ds n Ψ - ⟨x, rfl, hh, hp, h⟩
  cases hs : seqD x with
  | none => cases x <;> first | (cases hs; done) | (cases hh; done) | simpa [dRet, dAndV, dOrV, dNotV, dIsi, dVar, dC, dOp, dCB, dCons, dNil, dLst, dTup, dSeq, dIfS, dOr, dAnd, dNot, dTest, dChain, dInG, gLen, gI0, gEq, gIx, gList, gTuple, gBls, look_val, look_own, fz_val, fz_own, fzs_nil, fzs_cons, fnStart, fnEnds, ret_val, ret_own, gCall, dCall, resume_val, resume_new, dSet, dgName, dgCons, dgNil, dgTup, dgSeq, DS.put, DS.new, DS.trim, trimS_un, trimS_val, trimS_strm, trimS_own, wipeR, dYes, seqD_lst, seqD_tup, iterD_lst, iterD_tup, iterD_str, lenD_lst, lenD_tup, lenD_str, tyD_non, tyD_bl, tyD_int, tyD_str, tyD_lst, tyD_tup, tyD_dic, isiD, flatD_non, flatD_bl, flatD_int, flatD_str, atD_lst, atD_tup, dPar, dIf, dDrop, dBM, gAppend, gExtend, gPopAt, gClear, diSeq, diRng1, diRng2, diEnum, diZip, dSl, dPart, dNo, gSl, gInS, gIn, gPlus, gOr, gCat, gCatS, gTimes, gRep, gI, blsD, putAll, dParT, dStar, DS.ice, iceS_un, iceS_val, iceS_strm, iceS_own, dOr2, gNeS, and_assoc, w__law_spoilt] using h
  | some l =>
    cases k with
    | zero => rw [pl0_atom hp] at hs; cases hs
    | succ k =>
    have hpl := pl_seq hp hs
    cases x with
    | tup l' =>
      cases hs
      have hhl := hards_iff.mp hh
      simp [dRet, dAndV, dOrV, dNotV, dIsi, dVar, dC, dOp, dCB, dCons, dNil, dLst, dTup, dSeq, dIfS, dOr, dAnd, dNot, dTest, dChain, dInG, gLen, gI0, gEq, gIx, gList, gTuple, gBls, look_val, look_own, fz_val, fz_own, fzs_nil, fzs_cons, fnStart, fnEnds, ret_val, ret_own, gCall, dCall, resume_val, resume_new, dSet, dgName, dgCons, dgNil, dgTup, dgSeq, DS.put, DS.new, DS.trim, trimS_un, trimS_val, trimS_strm, trimS_own, wipeR, dYes, seqD_lst, seqD_tup, iterD_lst, iterD_tup, iterD_str, lenD_lst, lenD_tup, lenD_str, tyD_non, tyD_bl, tyD_int, tyD_str, tyD_lst, tyD_tup, tyD_dic, isiD, flatD_non, flatD_bl, flatD_int, flatD_str, atD_lst, atD_tup, dPar, dIf, dDrop, dBM, gAppend, gExtend, gPopAt, gClear, diSeq, diRng1, diRng2, diEnum, diZip, dSl, dPart, dNo, gSl, gInS, gIn, gPlus, gOr, gCat, gCatS, gTimes, gRep, gI, blsD, putAll, dParT, dStar, DS.ice, iceS_un, iceS_val, iceS_strm, iceS_own, dOr2, gNeS, and_assoc, w__law_spoilt, dFor]
      refine ⟨fun i d => ∃ s, d = ⟨[.val (.tup l), s], [], n⟩, ⟨_, rfl⟩, ?_, ?_⟩
      · rintro i y d hy ⟨s, rfl⟩
        have hm := List.mem_of_getElem? hy
        simp [dRet, dAndV, dOrV, dNotV, dIsi, dVar, dC, dOp, dCB, dCons, dNil, dLst, dTup, dSeq, dIfS, dOr, dAnd, dNot, dTest, dChain, dInG, gLen, gI0, gEq, gIx, gList, gTuple, gBls, look_val, look_own, fz_val, fz_own, fzs_nil, fzs_cons, fnStart, fnEnds, ret_val, ret_own, gCall, dCall, resume_val, resume_new, dSet, dgName, dgCons, dgNil, dgTup, dgSeq, DS.put, DS.new, DS.trim, trimS_un, trimS_val, trimS_strm, trimS_own, wipeR, dYes, seqD_lst, seqD_tup, iterD_lst, iterD_tup, iterD_str, lenD_lst, lenD_tup, lenD_str, tyD_non, tyD_bl, tyD_int, tyD_str, tyD_lst, tyD_tup, tyD_dic, isiD, flatD_non, flatD_bl, flatD_int, flatD_str, atD_lst, atD_tup, dPar, dIf, dDrop, dBM, gAppend, gExtend, gPopAt, gClear, diSeq, diRng1, diRng2, diEnum, diZip, dSl, dPart, dNo, gSl, gInS, gIn, gPlus, gOr, gCat, gCatS, gTimes, gRep, gI, blsD, putAll, dParT, dStar, DS.ice, iceS_un, iceS_val, iceS_strm, iceS_own, dOr2, gNeS, and_assoc, m__law_spoilt, hpl y hm, hhl y hm]
      · rintro d ⟨s, rfl⟩
        simpa [dRet, dAndV, dOrV, dNotV, dIsi, dVar, dC, dOp, dCB, dCons, dNil, dLst, dTup, dSeq, dIfS, dOr, dAnd, dNot, dTest, dChain, dInG, gLen, gI0, gEq, gIx, gList, gTuple, gBls, look_val, look_own, fz_val, fz_own, fzs_nil, fzs_cons, fnStart, fnEnds, ret_val, ret_own, gCall, dCall, resume_val, resume_new, dSet, dgName, dgCons, dgNil, dgTup, dgSeq, DS.put, DS.new, DS.trim, trimS_un, trimS_val, trimS_strm, trimS_own, wipeR, dYes, seqD_lst, seqD_tup, iterD_lst, iterD_tup, iterD_str, lenD_lst, lenD_tup, lenD_str, tyD_non, tyD_bl, tyD_int, tyD_str, tyD_lst, tyD_tup, tyD_dic, isiD, flatD_non, flatD_bl, flatD_int, flatD_str, atD_lst, atD_tup, dPar, dIf, dDrop, dBM, gAppend, gExtend, gPopAt, gClear, diSeq, diRng1, diRng2, diEnum, diZip, dSl, dPart, dNo, gSl, gInS, gIn, gPlus, gOr, gCat, gCatS, gTimes, gRep, gI, blsD, putAll, dParT, dStar, DS.ice, iceS_un, iceS_val, iceS_strm, iceS_own, dOr2, gNeS, and_assoc] using h
    | lst l' => cases hh
    | _ => cases hs
theorem rdo__law_spoilt (k : Nat) : ∀ ds l n Ψ, ds.length = 0 → mo__law_spoilt k ds l n Ψ → wo__law_spoilt (m__law_spoilt k) (fnStartO false ds l 1 n) (fnEndsO Ψ) := by
  rintro ds l n Ψ - ⟨rfl, hh, hp, hl, h⟩
  have hhl := hards_iff.mp hh
  have hpl := pls_iff.mp hp
  simp [dRet, dAndV, dOrV, dNotV, dIsi, dVar, dC, dOp, dCB, dCons, dNil, dLst, dTup, dSeq, dIfS, dOr, dAnd, dNot, dTest, dChain, dInG, gLen, gI0, gEq, gIx, gList, gTuple, gBls, look_val, look_own, fz_val, fz_own, fzs_nil, fzs_cons, fnStart, fnEnds, ret_val, ret_own, gCall, dCall, resume_val, resume_new, dSet, dgName, dgCons, dgNil, dgTup, dgSeq, DS.put, DS.new, DS.trim, trimS_un, trimS_val, trimS_strm, trimS_own, wipeR, dYes, seqD_lst, seqD_tup, iterD_lst, iterD_tup, iterD_str, lenD_lst, lenD_tup, lenD_str, tyD_non, tyD_bl, tyD_int, tyD_str, tyD_lst, tyD_tup, tyD_dic, isiD, flatD_non, flatD_bl, flatD_int, flatD_str, atD_lst, atD_tup, dPar, dIf, dDrop, dBM, gAppend, gExtend, gPopAt, gClear, diSeq, diRng1, diRng2, diEnum, diZip, dSl, dPart, dNo, gSl, gInS, gIn, gPlus, gOr, gCat, gCatS, gTimes, gRep, gI, blsD, putAll, dParT, dStar, DS.ice, iceS_un, iceS_val, iceS_strm, iceS_own, dOr2, gNeS, and_assoc, wo__law_spoilt, dForO, fnStartO, fnEndsO]
  refine ⟨l, fun i d => ∃ s, d = ⟨[.own 0, s], [(true, l)], n⟩, ⟨_, rfl⟩, ?_, ?_, ?_⟩
  · rintro i d ⟨s, rfl⟩
    rfl
  · rintro i y d hy ⟨s, rfl⟩
    have hm := List.mem_of_getElem? hy
    simp [dRet, dAndV, dOrV, dNotV, dIsi, dVar, dC, dOp, dCB, dCons, dNil, dLst, dTup, dSeq, dIfS, dOr, dAnd, dNot, dTest, dChain, dInG, gLen, gI0, gEq, gIx, gList, gTuple, gBls, look_val, look_own, fz_val, fz_own, fzs_nil, fzs_cons, fnStart, fnEnds, ret_val, ret_own, gCall, dCall, resume_val, resume_new, dSet, dgName, dgCons, dgNil, dgTup, dgSeq, DS.put, DS.new, DS.trim, trimS_un, trimS_val, trimS_strm, trimS_own, wipeR, dYes, seqD_lst, seqD_tup, iterD_lst, iterD_tup, iterD_str, lenD_lst, lenD_tup, lenD_str, tyD_non, tyD_bl, tyD_int, tyD_str, tyD_lst, tyD_tup, tyD_dic, isiD, flatD_non, flatD_bl, flatD_int, flatD_str, atD_lst, atD_tup, dPar, dIf, dDrop, dBM, gAppend, gExtend, gPopAt, gClear, diSeq, diRng1, diRng2, diEnum, diZip, dSl, dPart, dNo, gSl, gInS, gIn, gPlus, gOr, gCat, gCatS, gTimes, gRep, gI, blsD, putAll, dParT, dStar, DS.ice, iceS_un, iceS_val, iceS_strm, iceS_own, dOr2, gNeS, and_assoc, m__law_spoilt, hpl y hm, hhl y hm]
  · rintro d ⟨s, rfl⟩
    simpa [dRet, dAndV, dOrV, dNotV, dIsi, dVar, dC, dOp, dCB, dCons, dNil, dLst, dTup, dSeq, dIfS, dOr, dAnd, dNot, dTest, dChain, dInG, gLen, gI0, gEq, gIx, gList, gTuple, gBls, look_val, look_own, fz_val, fz_own, fzs_nil, fzs_cons, fnStart, fnEnds, ret_val, ret_own, gCall, dCall, resume_val, resume_new, dSet, dgName, dgCons, dgNil, dgTup, dgSeq, DS.put, DS.new, DS.trim, trimS_un, trimS_val, trimS_strm, trimS_own, wipeR, dYes, seqD_lst, seqD_tup, iterD_lst, iterD_tup, iterD_str, lenD_lst, lenD_tup, lenD_str, tyD_non, tyD_bl, tyD_int, tyD_str, tyD_lst, tyD_tup, tyD_dic, isiD, flatD_non, flatD_bl, flatD_int, flatD_str, atD_lst, atD_tup, dPar, dIf, dDrop, dBM, gAppend, gExtend, gPopAt, gClear, diSeq, diRng1, diRng2, diEnum, diZip, dSl, dPart, dNo, gSl, gInS, gIn, gPlus, gOr, gCat, gCatS, gTimes, gRep, gI, blsD, putAll, dParT, dStar, DS.ice, iceS_un, iceS_val, iceS_strm, iceS_own, dOr2, gNeS, and_assoc, hl] using h

/-! ### what k11 reckons by itself -/
def m__law_after : FM := fun ds n Ψ => ∃ y a b c la lb lh, ds = [y, .lst lh] ∧ seqD y = some [a, b, c] ∧ seqD a = some la ∧ seqD b = some lb ∧ pls 60 la = true ∧ pls 60 lh = true ∧ lb.length + lh.length ≤ 1000 ∧ Ψ (if eqL (lh.take la.length) la = true then .new (lb ++ lh.drop la.length) else .val .non) n
/-- _law_after: _law_rule, _law_layers, _law_takes, _law_puts -/
def w__law_after : DTS :=
  (dSeq (dPar 2 3 (dCons (dCB gList (dCons (dOp gIx (dVar 0) (dC (.int 0))) dNil)) (dCons (dCB gList (dCons (dOp gIx (dVar 0) (dC (.int 1))) dNil)) dNil)))
    (dRet (dIf (dTest (dOp (gEq id) (dCB gList (dCons (dSl (dVar 1) dNo (dPart (dCB gLen (dCons (dVar 2) dNil)))) dNil)) (dVar 2))) (dOp gPlus (dVar 3) (dCB gList (dCons (dSl (dVar 1) (dPart (dCB gLen (dCons (dVar 2) dNil))) dNo) dNil))) (dC .non))))
theorem rd__law_after : ∀ ds n Ψ, ds.length = 2 → m__law_after ds n Ψ → w__law_after (fnStart false ds 2 n) (fnEnds Ψ) := by
  rintro ds n Ψ - ⟨y, a, b, c, la, lb, lh, rfl, h1, h2, h3, h4, h5, h6, h⟩
  have q1 : Eqs (.lst la) := eqs_lst (pls_iff.mp h4) (by decide)
  have q2 : Eqs (.lst (lh.take la.length)) := eqs_lst (n := 60) (fun z hz => pls_iff.mp h5 z (List.mem_of_mem_take hz)) (by decide)
  have c1 : cutD lh none (some (la.length : Int)) = lh.take la.length := cut_take
  have c2 : cutD lh (some (la.length : Int)) none = lh.drop la.length := cut_drop
  simp [dRet, dAndV, dOrV, dNotV, dIsi, dVar, dC, dOp, dCB, dCons, dNil, dLst, dTup, dSeq, dIfS, dOr, dAnd, dNot, dTest, dChain, dInG, gLen, gI0, gEq, gIx, gList, gTuple, gBls, look_val, look_own, fz_val, fz_own, fzs_nil, fzs_cons, fnStart, fnEnds, ret_val, ret_own, gCall, dCall, resume_val, resume_new, dSet, dgName, dgCons, dgNil, dgTup, dgSeq, DS.put, DS.new, DS.trim, trimS_un, trimS_val, trimS_strm, trimS_own, wipeR, dYes, seqD_lst, seqD_tup, iterD_lst, iterD_tup, iterD_str, lenD_lst, lenD_tup, lenD_str, tyD_non, tyD_bl, tyD_int, tyD_str, tyD_lst, tyD_tup, tyD_dic, isiD, flatD_non, flatD_bl, flatD_int, flatD_str, atD_lst, atD_tup, dPar, dIf, dDrop, dBM, gAppend, gExtend, gPopAt, gClear, diSeq, diRng1, diRng2, diEnum, diZip, dSl, dPart, dNo, gSl, gInS, gIn, gPlus, gOr, gCat, gCatS, gTimes, gRep, gI, blsD, putAll, dParT, dStar, DS.ice, iceS_un, iceS_val, iceS_strm, iceS_own, dOr2, gNeS, and_assoc, w__law_after, atD_of h1, at0, at1, h2, h3, c1, c2, q1, q2, eqv_lst]
  by_cases he : eqL (lh.take la.length) la = true
  · rw [if_pos he] at h ⊢
    simpa [dRet, dAndV, dOrV, dNotV, dIsi, dVar, dC, dOp, dCB, dCons, dNil, dLst, dTup, dSeq, dIfS, dOr, dAnd, dNot, dTest, dChain, dInG, gLen, gI0, gEq, gIx, gList, gTuple, gBls, look_val, look_own, fz_val, fz_own, fzs_nil, fzs_cons, fnStart, fnEnds, ret_val, ret_own, gCall, dCall, resume_val, resume_new, dSet, dgName, dgCons, dgNil, dgTup, dgSeq, DS.put, DS.new, DS.trim, trimS_un, trimS_val, trimS_strm, trimS_own, wipeR, dYes, seqD_lst, seqD_tup, iterD_lst, iterD_tup, iterD_str, lenD_lst, lenD_tup, lenD_str, tyD_non, tyD_bl, tyD_int, tyD_str, tyD_lst, tyD_tup, tyD_dic, isiD, flatD_non, flatD_bl, flatD_int, flatD_str, atD_lst, atD_tup, dPar, dIf, dDrop, dBM, gAppend, gExtend, gPopAt, gClear, diSeq, diRng1, diRng2, diEnum, diZip, dSl, dPart, dNo, gSl, gInS, gIn, gPlus, gOr, gCat, gCatS, gTimes, gRep, gI, blsD, putAll, dParT, dStar, DS.ice, iceS_un, iceS_val, iceS_strm, iceS_own, dOr2, gNeS, and_assoc, show lb.length + (lh.length - la.length) ≤ 1000000 by omega] using h
  · rw [if_neg he] at h ⊢
    simpa [dRet, dAndV, dOrV, dNotV, dIsi, dVar, dC, dOp, dCB, dCons, dNil, dLst, dTup, dSeq, dIfS, dOr, dAnd, dNot, dTest, dChain, dInG, gLen, gI0, gEq, gIx, gList, gTuple, gBls, look_val, look_own, fz_val, fz_own, fzs_nil, fzs_cons, fnStart, fnEnds, ret_val, ret_own, gCall, dCall, resume_val, resume_new, dSet, dgName, dgCons, dgNil, dgTup, dgSeq, DS.put, DS.new, DS.trim, trimS_un, trimS_val, trimS_strm, trimS_own, wipeR, dYes, seqD_lst, seqD_tup, iterD_lst, iterD_tup, iterD_str, lenD_lst, lenD_tup, lenD_str, tyD_non, tyD_bl, tyD_int, tyD_str, tyD_lst, tyD_tup, tyD_dic, isiD, flatD_non, flatD_bl, flatD_int, flatD_str, atD_lst, atD_tup, dPar, dIf, dDrop, dBM, gAppend, gExtend, gPopAt, gClear, diSeq, diRng1, diRng2, diEnum, diZip, dSl, dPart, dNo, gSl, gInS, gIn, gPlus, gOr, gCat, gCatS, gTimes, gRep, gI, blsD, putAll, dParT, dStar, DS.ice, iceS_un, iceS_val, iceS_strm, iceS_own, dOr2, gNeS, and_assoc] using h
def takesD (y : D) : List D := match seqD y with
  | some (a :: _) => (seqD a).getD []
  | _ => []
def putsD (y : D) : List D := match seqD y with
  | some (_ :: b :: _) => (seqD b).getD []
  | _ => []
/-- a rule as the laws draw it -/
structure Lot (y : D) : Prop where
  ex : ∃ la lb c, y = .tup [.lst la, .lst lb, c] ∧ la.length ≤ 100 ∧ lb.length ≤ 100
def layersD (l : List D) : List D := l.flatMap fun y => takesD y ++ putsD y
def m__law_layers_in : FM := fun ds n Ψ => ∃ x l, ds = [x] ∧ seqD x = some l ∧ l.length ≤ 100 ∧ (∀ y ∈ l, Lot y) ∧ (∀ z ∈ layersD l, pl 60 z = true) ∧ SortsC (onceD [] (layersD l)) ∧ Ψ (.new ((onceD [] (layersD l)).mergeSort leD)) n
/-- _law_layers_in: _law_lot, _law_found, _law_takes, _law_puts, _law_move -/
def w__law_layers_in : DTS :=
  (dSeq (dSet (dLst dNil) (dgName 1))
    (dSeq (dFor (diSeq (dVar 0)) (dgSeq 3 (dgCons 2 (dgCons 3 (dgCons 4 dgNil))))
      (dDrop (dBM gExtend (dVar 1) (dCons (dOp gPlus (dCB gList (dCons (dVar 2) dNil)) (dCB gList (dCons (dVar 3) dNil))) dNil))))
    (dRet (dCB gSorted2 (dCons (dCall false 1 m__law_each_once (dCons (dVar 1) dNil)) dNil)))))
theorem layersD_len : ∀ {l : List D}, (∀ y ∈ l, Lot y) → (layersD l).length ≤ l.length * 200
  | [], _ => by simp [layersD]
  | y :: l, h => by
    obtain ⟨la, lb, c, rfl, h1, h2⟩ := (h y List.mem_cons_self).ex
    have ih := layersD_len (l := l) fun z hz => h z (List.mem_cons_of_mem _ hz)
    have e : layersD (D.tup [.lst la, .lst lb, c] :: l) = (la ++ lb) ++ layersD l := by unfold layersD; rw [List.flatMap_cons]; rfl
    rw [e, List.length_append, List.length_append, List.length_cons]
    omega
theorem rd__law_layers_in : ∀ ds n Ψ, ds.length = 1 → m__law_layers_in ds n Ψ → w__law_layers_in (fnStart false ds 4 n) (fnEnds Ψ) := by
  rintro ds n Ψ - ⟨x, l, rfl, hs, hl, hL, hp, hS, h⟩
  simp [dRet, dAndV, dOrV, dNotV, dIsi, dVar, dC, dOp, dCB, dCons, dNil, dLst, dTup, dSeq, dIfS, dOr, dAnd, dNot, dTest, dChain, dInG, gLen, gI0, gEq, gIx, gList, gTuple, gBls, look_val, look_own, fz_val, fz_own, fzs_nil, fzs_cons, fnStart, fnEnds, ret_val, ret_own, gCall, dCall, resume_val, resume_new, dSet, dgName, dgCons, dgNil, dgTup, dgSeq, DS.put, DS.new, DS.trim, trimS_un, trimS_val, trimS_strm, trimS_own, wipeR, dYes, seqD_lst, seqD_tup, iterD_lst, iterD_tup, iterD_str, lenD_lst, lenD_tup, lenD_str, tyD_non, tyD_bl, tyD_int, tyD_str, tyD_lst, tyD_tup, tyD_dic, isiD, flatD_non, flatD_bl, flatD_int, flatD_str, atD_lst, atD_tup, dPar, dIf, dDrop, dBM, gAppend, gExtend, gPopAt, gClear, diSeq, diRng1, diRng2, diEnum, diZip, dSl, dPart, dNo, gSl, gInS, gIn, gPlus, gOr, gCat, gCatS, gTimes, gRep, gI, blsD, putAll, dParT, dStar, DS.ice, iceS_un, iceS_val, iceS_strm, iceS_own, dOr2, gNeS, and_assoc, w__law_layers_in, dFor, hs, iterD_of hs]
  refine ⟨fun i d => i ≤ l.length ∧ ∃ s1 s2 s3, d = ⟨[.val x, .own 0, s1, s2, s3], [(true, layersD (l.take i))], n⟩, ⟨Nat.zero_le _, _, _, _, rfl⟩, ?_, ?_⟩
  · rintro i y d hy ⟨hi, s1, s2, s3, rfl⟩
    have hm := List.mem_of_getElem? hy
    have hlt := (List.getElem?_eq_some_iff.mp hy).1
    obtain ⟨la, lb, c, rfl, h1, h2⟩ := (hL y hm).ex
    have e5 : layersD (l.take (i + 1)) = layersD (l.take i) ++ (la ++ lb) := by
      rw [List.take_add_one, hy]
      simp [layersD, takesD, putsD, seqD]
    have e6 := layersD_len (l := l.take i) fun z hz => hL z (List.mem_of_mem_take hz)
    rw [List.length_take] at e6
    have e7 : (layersD (l.take i)).length ≤ 20000 := by
      have : min i l.length * 200 ≤ 100 * 200 := Nat.mul_le_mul_right _ (by omega)
      omega
    simp [dRet, dAndV, dOrV, dNotV, dIsi, dVar, dC, dOp, dCB, dCons, dNil, dLst, dTup, dSeq, dIfS, dOr, dAnd, dNot, dTest, dChain, dInG, gLen, gI0, gEq, gIx, gList, gTuple, gBls, look_val, look_own, fz_val, fz_own, fzs_nil, fzs_cons, fnStart, fnEnds, ret_val, ret_own, gCall, dCall, resume_val, resume_new, dSet, dgName, dgCons, dgNil, dgTup, dgSeq, DS.put, DS.new, DS.trim, trimS_un, trimS_val, trimS_strm, trimS_own, wipeR, dYes, seqD_lst, seqD_tup, iterD_lst, iterD_tup, iterD_str, lenD_lst, lenD_tup, lenD_str, tyD_non, tyD_bl, tyD_int, tyD_str, tyD_lst, tyD_tup, tyD_dic, isiD, flatD_non, flatD_bl, flatD_int, flatD_str, atD_lst, atD_tup, dPar, dIf, dDrop, dBM, gAppend, gExtend, gPopAt, gClear, diSeq, diRng1, diRng2, diEnum, diZip, dSl, dPart, dNo, gSl, gInS, gIn, gPlus, gOr, gCat, gCatS, gTimes, gRep, gI, blsD, putAll, dParT, dStar, DS.ice, iceS_un, iceS_val, iceS_strm, iceS_own, dOr2, gNeS, and_assoc, e5, show la.length + lb.length ≤ 1000000 by omega, show (layersD (l.take i)).length + (la.length + lb.length) ≤ 1000000 by omega]
    omega
  · rintro d ⟨hi, s1, s2, s3, rfl⟩
    have e6 := layersD_len hL
    have e7 : (layersD l).length ≤ 100000 := by
      have : l.length * 200 ≤ 100 * 200 := Nat.mul_le_mul_right _ hl
      omega
    simp [dRet, dAndV, dOrV, dNotV, dIsi, dVar, dC, dOp, dCB, dCons, dNil, dLst, dTup, dSeq, dIfS, dOr, dAnd, dNot, dTest, dChain, dInG, gLen, gI0, gEq, gIx, gList, gTuple, gBls, look_val, look_own, fz_val, fz_own, fzs_nil, fzs_cons, fnStart, fnEnds, ret_val, ret_own, gCall, dCall, resume_val, resume_new, dSet, dgName, dgCons, dgNil, dgTup, dgSeq, DS.put, DS.new, DS.trim, trimS_un, trimS_val, trimS_strm, trimS_own, wipeR, dYes, seqD_lst, seqD_tup, iterD_lst, iterD_tup, iterD_str, lenD_lst, lenD_tup, lenD_str, tyD_non, tyD_bl, tyD_int, tyD_str, tyD_lst, tyD_tup, tyD_dic, isiD, flatD_non, flatD_bl, flatD_int, flatD_str, atD_lst, atD_tup, dPar, dIf, dDrop, dBM, gAppend, gExtend, gPopAt, gClear, diSeq, diRng1, diRng2, diEnum, diZip, dSl, dPart, dNo, gSl, gInS, gIn, gPlus, gOr, gCat, gCatS, gTimes, gRep, gI, blsD, putAll, dParT, dStar, DS.ice, iceS_un, iceS_val, iceS_strm, iceS_own, dOr2, gNeS, and_assoc, m__law_each_once, e7, gSorted2]
    refine ⟨hp, .inr ?_⟩
    simp [dRet, dAndV, dOrV, dNotV, dIsi, dVar, dC, dOp, dCB, dCons, dNil, dLst, dTup, dSeq, dIfS, dOr, dAnd, dNot, dTest, dChain, dInG, gLen, gI0, gEq, gIx, gList, gTuple, gBls, look_val, look_own, fz_val, fz_own, fzs_nil, fzs_cons, fnStart, fnEnds, ret_val, ret_own, gCall, dCall, resume_val, resume_new, dSet, dgName, dgCons, dgNil, dgTup, dgSeq, DS.put, DS.new, DS.trim, trimS_un, trimS_val, trimS_strm, trimS_own, wipeR, dYes, seqD_lst, seqD_tup, iterD_lst, iterD_tup, iterD_str, lenD_lst, lenD_tup, lenD_str, tyD_non, tyD_bl, tyD_int, tyD_str, tyD_lst, tyD_tup, tyD_dic, isiD, flatD_non, flatD_bl, flatD_int, flatD_str, atD_lst, atD_tup, dPar, dIf, dDrop, dBM, gAppend, gExtend, gPopAt, gClear, diSeq, diRng1, diRng2, diEnum, diZip, dSl, dPart, dNo, gSl, gInS, gIn, gPlus, gOr, gCat, gCatS, gTimes, gRep, gI, blsD, putAll, dParT, dStar, DS.ice, iceS_un, iceS_val, iceS_strm, iceS_own, dOr2, gNeS, and_assoc, gSortedC, hS]
    simpa [dRet, dAndV, dOrV, dNotV, dIsi, dVar, dC, dOp, dCB, dCons, dNil, dLst, dTup, dSeq, dIfS, dOr, dAnd, dNot, dTest, dChain, dInG, gLen, gI0, gEq, gIx, gList, gTuple, gBls, look_val, look_own, fz_val, fz_own, fzs_nil, fzs_cons, fnStart, fnEnds, ret_val, ret_own, gCall, dCall, resume_val, resume_new, dSet, dgName, dgCons, dgNil, dgTup, dgSeq, DS.put, DS.new, DS.trim, trimS_un, trimS_val, trimS_strm, trimS_own, wipeR, dYes, seqD_lst, seqD_tup, iterD_lst, iterD_tup, iterD_str, lenD_lst, lenD_tup, lenD_str, tyD_non, tyD_bl, tyD_int, tyD_str, tyD_lst, tyD_tup, tyD_dic, isiD, flatD_non, flatD_bl, flatD_int, flatD_str, atD_lst, atD_tup, dPar, dIf, dDrop, dBM, gAppend, gExtend, gPopAt, gClear, diSeq, diRng1, diRng2, diEnum, diZip, dSl, dPart, dNo, gSl, gInS, gIn, gPlus, gOr, gCat, gCatS, gTimes, gRep, gI, blsD, putAll, dParT, dStar, DS.ice, iceS_un, iceS_val, iceS_strm, iceS_own, dOr2, gNeS, and_assoc] using h
/-- what a rule's takes begin with -/
def begins (la : List D) : List D := (List.range la.length).map fun k => .tup (la.take k)
def beginsD (l : List D) : List D := .tup [] :: l.flatMap fun y => begins (takesD y)
def m__law_controls : FM := fun ds n Ψ => ∃ x l, ds = [x] ∧ seqD x = some l ∧ l.length ≤ 100 ∧ (∀ y ∈ l, Lot y) ∧ (∀ z ∈ beginsD l, pl 60 z = true) ∧ SortsC (onceD [] (beginsD l)) ∧ Ψ (.new ((onceD [] (beginsD l)).mergeSort leD)) n
/-- _law_controls: _law_lot, _law_found, _law_takes, _law_puts, _law_move, _law_many -/
def w__law_controls : DTS :=
  (dSeq (dSet (dLst (dCons (dTup dNil) dNil)) (dgName 1))
    (dSeq (dFor (diSeq (dVar 0)) (dgSeq 3 (dgCons 2 (dgCons 3 (dgCons 4 dgNil))))
      (dDrop (dBM gExtend (dVar 1) (dCons (dLc (diRng1 (dCons (dCB gLen (dCons (dVar 2) dNil)) dNil)) (dgName 5) dYes (dCB gTuple (dCons (dSl (dVar 2) dNo (dPart (dVar 5))) dNil)) [5]) dNil))))
    (dRet (dCB gSorted2 (dCons (dCall false 1 m__law_each_once (dCons (dVar 1) dNil)) dNil)))))
theorem beginsD_len : ∀ {l : List D}, (∀ y ∈ l, Lot y) → (beginsD l).length ≤ l.length * 100 + 1
  | [], _ => by simp [beginsD]
  | y :: l, h => by
    obtain ⟨la, lb, c, rfl, h1, h2⟩ := (h y List.mem_cons_self).ex
    have ih := beginsD_len (l := l) fun z hz => h z (List.mem_cons_of_mem _ hz)
    have e : ∀ q : List D, beginsD q = .tup [] :: q.flatMap fun y => begins (takesD y) := fun _ => rfl
    have e2 : (D.tup [.lst la, .lst lb, c] :: l).flatMap (fun y => begins (takesD y)) = begins la ++ l.flatMap fun y => begins (takesD y) := by rw [List.flatMap_cons]; rfl
    rw [e, List.length_cons] at ih
    rw [e, e2, List.length_cons, List.length_append, List.length_cons]
    simp only [begins, List.length_map, List.length_range] at ih ⊢
    omega
theorem rd__law_controls : ∀ ds n Ψ, ds.length = 1 → m__law_controls ds n Ψ → w__law_controls (fnStart false ds 5 n) (fnEnds Ψ) := by
  rintro ds n Ψ - ⟨x, l, rfl, hs, hl, hL, hp, hS, h⟩
  simp [dRet, dAndV, dOrV, dNotV, dIsi, dVar, dC, dOp, dCB, dCons, dNil, dLst, dTup, dSeq, dIfS, dOr, dAnd, dNot, dTest, dChain, dInG, gLen, gI0, gEq, gIx, gList, gTuple, gBls, look_val, look_own, fz_val, fz_own, fzs_nil, fzs_cons, fnStart, fnEnds, ret_val, ret_own, gCall, dCall, resume_val, resume_new, dSet, dgName, dgCons, dgNil, dgTup, dgSeq, DS.put, DS.new, DS.trim, trimS_un, trimS_val, trimS_strm, trimS_own, wipeR, dYes, seqD_lst, seqD_tup, iterD_lst, iterD_tup, iterD_str, lenD_lst, lenD_tup, lenD_str, tyD_non, tyD_bl, tyD_int, tyD_str, tyD_lst, tyD_tup, tyD_dic, isiD, flatD_non, flatD_bl, flatD_int, flatD_str, atD_lst, atD_tup, dPar, dIf, dDrop, dBM, gAppend, gExtend, gPopAt, gClear, diSeq, diRng1, diRng2, diEnum, diZip, dSl, dPart, dNo, gSl, gInS, gIn, gPlus, gOr, gCat, gCatS, gTimes, gRep, gI, blsD, putAll, dParT, dStar, DS.ice, iceS_un, iceS_val, iceS_strm, iceS_own, dOr2, gNeS, and_assoc, w__law_controls, dFor, hs, iterD_of hs]
  refine ⟨fun i d => i ≤ l.length ∧ ∃ s1 s2 s3 s4, d = ⟨[.val x, .own 0, s1, s2, s3, s4], [(true, beginsD (l.take i))], n⟩, ⟨Nat.zero_le _, _, _, _, _, rfl⟩, ?_, ?_⟩
  · rintro i y d hy ⟨hi, s1, s2, s3, s4, rfl⟩
    have hm := List.mem_of_getElem? hy
    have hlt := (List.getElem?_eq_some_iff.mp hy).1
    obtain ⟨la, lb, c, rfl, h1, h2⟩ := (hL y hm).ex
    have e5 : beginsD (l.take (i + 1)) = beginsD (l.take i) ++ begins la := by
      rw [List.take_add_one, hy]
      simp [beginsD, takesD, seqD]
    have e6 := beginsD_len (l := l.take i) fun z hz => hL z (List.mem_of_mem_take hz)
    rw [List.length_take] at e6
    have e7 : (beginsD (l.take i)).length ≤ 20000 := by
      have : min i l.length * 100 ≤ 100 * 100 := Nat.mul_le_mul_right _ (by omega)
      omega
    simp [dRet, dAndV, dOrV, dNotV, dIsi, dVar, dC, dOp, dCB, dCons, dNil, dLst, dTup, dSeq, dIfS, dOr, dAnd, dNot, dTest, dChain, dInG, gLen, gI0, gEq, gIx, gList, gTuple, gBls, look_val, look_own, fz_val, fz_own, fzs_nil, fzs_cons, fnStart, fnEnds, ret_val, ret_own, gCall, dCall, resume_val, resume_new, dSet, dgName, dgCons, dgNil, dgTup, dgSeq, DS.put, DS.new, DS.trim, trimS_un, trimS_val, trimS_strm, trimS_own, wipeR, dYes, seqD_lst, seqD_tup, iterD_lst, iterD_tup, iterD_str, lenD_lst, lenD_tup, lenD_str, tyD_non, tyD_bl, tyD_int, tyD_str, tyD_lst, tyD_tup, tyD_dic, isiD, flatD_non, flatD_bl, flatD_int, flatD_str, atD_lst, atD_tup, dPar, dIf, dDrop, dBM, gAppend, gExtend, gPopAt, gClear, diSeq, diRng1, diRng2, diEnum, diZip, dSl, dPart, dNo, gSl, gInS, gIn, gPlus, gOr, gCat, gCatS, gTimes, gRep, gI, blsD, putAll, dParT, dStar, DS.ice, iceS_un, iceS_val, iceS_strm, iceS_own, dOr2, gNeS, and_assoc]
    refine dLc_map (d1 := ⟨[.val x, .own 0, .val (.lst la), .val (.lst lb), .val c, s4], [(true, beginsD (l.take i))], n⟩) (rng 0 la.length) (fun k => match k with | .int k => .tup (la.take k.toNat) | _ => .non) (fun Φ h => ?_) (by rw [rng_len]; omega) (fun z hz acc Θ hΘ => ?_) ?_
    · simp [dRet, dAndV, dOrV, dNotV, dIsi, dVar, dC, dOp, dCB, dCons, dNil, dLst, dTup, dSeq, dIfS, dOr, dAnd, dNot, dTest, dChain, dInG, gLen, gI0, gEq, gIx, gList, gTuple, gBls, look_val, look_own, fz_val, fz_own, fzs_nil, fzs_cons, fnStart, fnEnds, ret_val, ret_own, gCall, dCall, resume_val, resume_new, dSet, dgName, dgCons, dgNil, dgTup, dgSeq, DS.put, DS.new, DS.trim, trimS_un, trimS_val, trimS_strm, trimS_own, wipeR, dYes, seqD_lst, seqD_tup, iterD_lst, iterD_tup, iterD_str, lenD_lst, lenD_tup, lenD_str, tyD_non, tyD_bl, tyD_int, tyD_str, tyD_lst, tyD_tup, tyD_dic, isiD, flatD_non, flatD_bl, flatD_int, flatD_str, atD_lst, atD_tup, dPar, dIf, dDrop, dBM, gAppend, gExtend, gPopAt, gClear, diSeq, diRng1, diRng2, diEnum, diZip, dSl, dPart, dNo, gSl, gInS, gIn, gPlus, gOr, gCat, gCatS, gTimes, gRep, gI, blsD, putAll, dParT, dStar, DS.ice, iceS_un, iceS_val, iceS_strm, iceS_own, dOr2, gNeS, and_assoc]
      first | exact h | exact ⟨by omega, by omega, h⟩ | exact ⟨by omega, h⟩
    · obtain ⟨j, hj⟩ := List.getElem?_of_mem hz
      obtain ⟨hj1, rfl⟩ := rng_get hj
      have c1 : cutD la none (some ((j : Nat) : Int)) = la.take j := cut_take
      simp [dRet, dAndV, dOrV, dNotV, dIsi, dVar, dC, dOp, dCB, dCons, dNil, dLst, dTup, dSeq, dIfS, dOr, dAnd, dNot, dTest, dChain, dInG, gLen, gI0, gEq, gIx, gList, gTuple, gBls, look_val, look_own, fz_val, fz_own, fzs_nil, fzs_cons, fnStart, fnEnds, ret_val, ret_own, gCall, dCall, resume_val, resume_new, dSet, dgName, dgCons, dgNil, dgTup, dgSeq, DS.put, DS.new, DS.trim, trimS_un, trimS_val, trimS_strm, trimS_own, wipeR, dYes, seqD_lst, seqD_tup, iterD_lst, iterD_tup, iterD_str, lenD_lst, lenD_tup, lenD_str, tyD_non, tyD_bl, tyD_int, tyD_str, tyD_lst, tyD_tup, tyD_dic, isiD, flatD_non, flatD_bl, flatD_int, flatD_str, atD_lst, atD_tup, dPar, dIf, dDrop, dBM, gAppend, gExtend, gPopAt, gClear, diSeq, diRng1, diRng2, diEnum, diZip, dSl, dPart, dNo, gSl, gInS, gIn, gPlus, gOr, gCat, gCatS, gTimes, gRep, gI, blsD, putAll, dParT, dStar, DS.ice, iceS_un, iceS_val, iceS_strm, iceS_own, dOr2, gNeS, and_assoc, c1]
      refine hΘ _ _ ⟨[.val x, .own 0, .val (.lst la), .val (.lst lb), .val c, .val (.int j)], [(true, beginsD (l.take i)), (true, acc), (true, la.take j)], n⟩ ?_ rfl rfl rfl
      simp [dRet, dAndV, dOrV, dNotV, dIsi, dVar, dC, dOp, dCB, dCons, dNil, dLst, dTup, dSeq, dIfS, dOr, dAnd, dNot, dTest, dChain, dInG, gLen, gI0, gEq, gIx, gList, gTuple, gBls, look_val, look_own, fz_val, fz_own, fzs_nil, fzs_cons, fnStart, fnEnds, ret_val, ret_own, gCall, dCall, resume_val, resume_new, dSet, dgName, dgCons, dgNil, dgTup, dgSeq, DS.put, DS.new, DS.trim, trimS_un, trimS_val, trimS_strm, trimS_own, wipeR, dYes, seqD_lst, seqD_tup, iterD_lst, iterD_tup, iterD_str, lenD_lst, lenD_tup, lenD_str, tyD_non, tyD_bl, tyD_int, tyD_str, tyD_lst, tyD_tup, tyD_dic, isiD, flatD_non, flatD_bl, flatD_int, flatD_str, atD_lst, atD_tup, dPar, dIf, dDrop, dBM, gAppend, gExtend, gPopAt, gClear, diSeq, diRng1, diRng2, diEnum, diZip, dSl, dPart, dNo, gSl, gInS, gIn, gPlus, gOr, gCat, gCatS, gTimes, gRep, gI, blsD, putAll, dParT, dStar, DS.ice, iceS_un, iceS_val, iceS_strm, iceS_own, dOr2, gNeS, and_assoc]
    · have e8 : (rng 0 la.length).map (fun k => match k with | .int k => D.tup (la.take k.toNat) | _ => .non) = begins la := by
        simp [rng, begins, Function.comp_def]
      rw [e8]
      simp [dRet, dAndV, dOrV, dNotV, dIsi, dVar, dC, dOp, dCB, dCons, dNil, dLst, dTup, dSeq, dIfS, dOr, dAnd, dNot, dTest, dChain, dInG, gLen, gI0, gEq, gIx, gList, gTuple, gBls, look_val, look_own, fz_val, fz_own, fzs_nil, fzs_cons, fnStart, fnEnds, ret_val, ret_own, gCall, dCall, resume_val, resume_new, dSet, dgName, dgCons, dgNil, dgTup, dgSeq, DS.put, DS.new, DS.trim, trimS_un, trimS_val, trimS_strm, trimS_own, wipeR, dYes, seqD_lst, seqD_tup, iterD_lst, iterD_tup, iterD_str, lenD_lst, lenD_tup, lenD_str, tyD_non, tyD_bl, tyD_int, tyD_str, tyD_lst, tyD_tup, tyD_dic, isiD, flatD_non, flatD_bl, flatD_int, flatD_str, atD_lst, atD_tup, dPar, dIf, dDrop, dBM, gAppend, gExtend, gPopAt, gClear, diSeq, diRng1, diRng2, diEnum, diZip, dSl, dPart, dNo, gSl, gInS, gIn, gPlus, gOr, gCat, gCatS, gTimes, gRep, gI, blsD, putAll, dParT, dStar, DS.ice, iceS_un, iceS_val, iceS_strm, iceS_own, dOr2, gNeS, and_assoc, e5]
      have e9 : (begins la).length = la.length := by simp [begins]
      omega
  · rintro d ⟨hi, s1, s2, s3, s4, rfl⟩
    have e6 := beginsD_len hL
    have e7 : (beginsD l).length ≤ 100000 := by
      have : l.length * 100 ≤ 100 * 100 := Nat.mul_le_mul_right _ hl
      omega
    simp [dRet, dAndV, dOrV, dNotV, dIsi, dVar, dC, dOp, dCB, dCons, dNil, dLst, dTup, dSeq, dIfS, dOr, dAnd, dNot, dTest, dChain, dInG, gLen, gI0, gEq, gIx, gList, gTuple, gBls, look_val, look_own, fz_val, fz_own, fzs_nil, fzs_cons, fnStart, fnEnds, ret_val, ret_own, gCall, dCall, resume_val, resume_new, dSet, dgName, dgCons, dgNil, dgTup, dgSeq, DS.put, DS.new, DS.trim, trimS_un, trimS_val, trimS_strm, trimS_own, wipeR, dYes, seqD_lst, seqD_tup, iterD_lst, iterD_tup, iterD_str, lenD_lst, lenD_tup, lenD_str, tyD_non, tyD_bl, tyD_int, tyD_str, tyD_lst, tyD_tup, tyD_dic, isiD, flatD_non, flatD_bl, flatD_int, flatD_str, atD_lst, atD_tup, dPar, dIf, dDrop, dBM, gAppend, gExtend, gPopAt, gClear, diSeq, diRng1, diRng2, diEnum, diZip, dSl, dPart, dNo, gSl, gInS, gIn, gPlus, gOr, gCat, gCatS, gTimes, gRep, gI, blsD, putAll, dParT, dStar, DS.ice, iceS_un, iceS_val, iceS_strm, iceS_own, dOr2, gNeS, and_assoc, m__law_each_once, e7, gSorted2]
    refine ⟨hp, .inr ?_⟩
    simp [dRet, dAndV, dOrV, dNotV, dIsi, dVar, dC, dOp, dCB, dCons, dNil, dLst, dTup, dSeq, dIfS, dOr, dAnd, dNot, dTest, dChain, dInG, gLen, gI0, gEq, gIx, gList, gTuple, gBls, look_val, look_own, fz_val, fz_own, fzs_nil, fzs_cons, fnStart, fnEnds, ret_val, ret_own, gCall, dCall, resume_val, resume_new, dSet, dgName, dgCons, dgNil, dgTup, dgSeq, DS.put, DS.new, DS.trim, trimS_un, trimS_val, trimS_strm, trimS_own, wipeR, dYes, seqD_lst, seqD_tup, iterD_lst, iterD_tup, iterD_str, lenD_lst, lenD_tup, lenD_str, tyD_non, tyD_bl, tyD_int, tyD_str, tyD_lst, tyD_tup, tyD_dic, isiD, flatD_non, flatD_bl, flatD_int, flatD_str, atD_lst, atD_tup, dPar, dIf, dDrop, dBM, gAppend, gExtend, gPopAt, gClear, diSeq, diRng1, diRng2, diEnum, diZip, dSl, dPart, dNo, gSl, gInS, gIn, gPlus, gOr, gCat, gCatS, gTimes, gRep, gI, blsD, putAll, dParT, dStar, DS.ice, iceS_un, iceS_val, iceS_strm, iceS_own, dOr2, gNeS, and_assoc, gSortedC, hS]
    simpa [dRet, dAndV, dOrV, dNotV, dIsi, dVar, dC, dOp, dCB, dCons, dNil, dLst, dTup, dSeq, dIfS, dOr, dAnd, dNot, dTest, dChain, dInG, gLen, gI0, gEq, gIx, gList, gTuple, gBls, look_val, look_own, fz_val, fz_own, fzs_nil, fzs_cons, fnStart, fnEnds, ret_val, ret_own, gCall, dCall, resume_val, resume_new, dSet, dgName, dgCons, dgNil, dgTup, dgSeq, DS.put, DS.new, DS.trim, trimS_un, trimS_val, trimS_strm, trimS_own, wipeR, dYes, seqD_lst, seqD_tup, iterD_lst, iterD_tup, iterD_str, lenD_lst, lenD_tup, lenD_str, tyD_non, tyD_bl, tyD_int, tyD_str, tyD_lst, tyD_tup, tyD_dic, isiD, flatD_non, flatD_bl, flatD_int, flatD_str, atD_lst, atD_tup, dPar, dIf, dDrop, dBM, gAppend, gExtend, gPopAt, gClear, diSeq, diRng1, diRng2, diEnum, diZip, dSl, dPart, dNo, gSl, gInS, gIn, gPlus, gOr, gCat, gCatS, gTimes, gRep, gI, blsD, putAll, dParT, dStar, DS.ice, iceS_un, iceS_val, iceS_strm, iceS_own, dOr2, gNeS, and_assoc] using h
end RH

set_option Elab.async false
set_option linter.all false
set_option maxRecDepth 100000
set_option maxHeartbeats 4000000
/-! readings, on: rules drawn -/
namespace RH
open PySem PySem.Spec PyProof.Rows L2

def goodL (z : D) : Prop := z = .tup [.str "cipher", .str "a"] ∨ z = .tup [.str "label", .str "a"] ∨ z = .tup [.str "seal", .str "bb"] ∨ ∃ k : Int, 0 ≤ k ∧ k ≤ 9 ∧ z = .tup [.str "word", .int k]
def goodC (c : D) : Prop := c = .non ∨ c = .str "x" ∨ (∃ k : Int, 0 ≤ k ∧ k ≤ 9 ∧ c = .int k) ∨ ∃ z, goodL z ∧ c = .tup [.str "take", z]
structure Good (y : D) : Prop where
  ex : ∃ la lb c, y = .tup [.lst la, .lst lb, c] ∧ la.length ≤ 6 ∧ lb.length ≤ 6 ∧ (∀ z ∈ la, goodL z) ∧ (∀ z ∈ lb, goodL z) ∧ goodC c
theorem goodL_hard {z : D} (h : goodL z) : hard z = true := by
  rcases h with rfl | rfl | rfl | ⟨k, _, _, rfl⟩ <;> rfl
/-- pick's answer, handed back as it is -/
theorem pickB {x : D} {l : List D} {n : Nat} {o : List (Bool × List D)} {r : List S} {s : S} {Θ : S → DS → Prop} (hl : look ⟨r, o, n⟩ s = some x) (hs : seqD x = some l) (h0 : 0 < l.length) (h1 : l.length < 1000000) (h2 : n < 1000000) (hh : ∀ y ∈ l, hard y = true) (h : ∀ y ∈ l, Θ (.val y) ⟨r, o, n + 1⟩) {we : DTE}
    (hw : ∀ Θ' : S → DS → Prop, (∃ s', (s' = .val x) ∧ Θ' s' ⟨r.map (iceS o), [], n⟩) → we ⟨r.map (iceS o), [], n⟩ Θ') (h3 : (r.map (iceS o))[0]? = some .strm) :
    dBorrow (dCall true 1 m__law_pick (dCons (dVar 0) (dCons we dNil))) ⟨r, o, n⟩ Θ := by
  refine ⟨.strm, h3, fun h => (by cases h), hw _ ⟨.val x, rfl, [.val x], [x], _, rfl, rfl, rfl, x, l, rfl, hs, h0, h1, h2, fun y hy => .inl ⟨y, rfl, hh y hy, h y hy⟩⟩⟩
def sizesOk (l : List D) : Prop := 0 < l.length ∧ l.length < 1000 ∧ ∀ z ∈ l, ∃ k : Int, 0 ≤ k ∧ k ≤ 6 ∧ z = .int k
theorem rng_at {lo : Int} {n i : Nat} (h : i < n) : (rng lo n)[i]? = some (.int (lo + i)) := by
  unfold rng
  rw [List.getElem?_map, List.getElem?_range h]
  rfl
/-- the turns of a comprehension -/
def LcIn (g : DTG) (we : DTE) (vs : List Nat) (items : List D) (d1 : DS) (Ψ : S → DS → Prop) : Prop := ∃ I : Nat → List D → Nat → Prop, I 0 [] d1.n ∧
  (∀ i x acc n, items[i]? = some x → I i acc n → g (.val x) ⟨wipeR d1.r vs, d1.o ++ [(true, acc)], n⟩ fun d2 => dYes d2 fun b d3 => if b = true then we d3 fun s d4 => ∃ e d5, fz d4 s = some (e, d5) ∧ wipeR d5.r vs = wipeR d1.r vs ∧ d5.o.take (d1.o.length + 1) = d1.o ++ [(true, acc)] ∧ acc.length ≤ 1000000 ∧ I (i + 1) (acc ++ [e]) d5.n
    else wipeR d3.r vs = wipeR d1.r vs ∧ d3.o.take (d1.o.length + 1) = d1.o ++ [(true, acc)] ∧ I (i + 1) acc d3.n) ∧
  ∀ acc n, I items.length acc n → Ψ (.own d1.o.length) ⟨wipeR d1.r vs, d1.o ++ [(true, acc)], n⟩
theorem lcIn_rel {g : DTG} {we : DTE} {vs : List Nat} {d1 : DS} {Ψ : S → DS → Prop} (items : List D) (P : Nat → D → D → Prop) (k : Nat) (hl : items.length ≤ 1000000)
    (hs : ∀ i x, items[i]? = some x → ∀ (acc : List D) (n : Nat), n ≤ d1.n + i * k → ∀ Θ : S → DS → Prop, (∀ s d4 d5 e, fz d4 s = some (e, d5) → P i x e → wipeR d5.r vs = wipeR d1.r vs → d5.o.take (d1.o.length + 1) = d1.o ++ [(true, acc)] → d5.n ≤ n + k → Θ s d4) → g (.val x) ⟨wipeR d1.r vs, d1.o ++ [(true, acc)], n⟩ fun d2 => we d2 Θ)
    (fin : ∀ (l : List D) (n : Nat), l.length = items.length → (∀ i x e, items[i]? = some x → l[i]? = some e → P i x e) → n ≤ d1.n + items.length * k → Ψ (.own d1.o.length) ⟨wipeR d1.r vs, d1.o ++ [(true, l)], n⟩) : LcIn g we vs items d1 Ψ :=
  dLc_rel (wi := fun _ Φ => Φ items d1) (d := d1) items P k (fun Φ h => h) hl hs fin
/-- [pick(layers) for _ in range(pick(sizes[j]))] -/
theorem pick_lc {n : Nat} {k s6 s7 s8 : S} {z1 z2 : List D} {lay found : List D} {o2 : List (Bool × List D)} {j : Int} {Θ : S → DS → Prop} {x0 : D} (o0 o1 : Bool × List D) (hj : j = 0 ∨ j = 1) (h1 : sizesOk z1) (h2 : sizesOk z2) (h0 : 0 < lay.length) (hl : lay.length < 1000) (hg : ∀ z ∈ lay, goodL z) (hn : n + 7 ≤ 900000)
    (h : ∀ (l : List D) (n' : Nat), l.length ≤ 6 → (∀ z ∈ l, goodL z) → n' ≤ n + 7 → Θ (.own (o2.length + 4)) ⟨[.strm, .val x0, .own 2, .own 3, k, .val (.tup [.lst z1, .lst z2]), s6, s7, .un], (o0 :: o1 :: (true, lay) :: (true, found) :: o2) ++ [(true, l)], n'⟩) :
    dLc (diRng1 (dCons (dBorrow (dCall true 1 m__law_pick (dCons (dVar 0) (dCons (dOp gIx (dVar 5) (dC (.int j))) dNil)))) dNil)) (dgName 8) dYes (dBorrow (dCall true 1 m__law_pick (dCons (dVar 0) (dCons (dVar 2) dNil)))) [8] ⟨[.strm, .val x0, .own 2, .own 3, k, .val (.tup [.lst z1, .lst z2]), s6, s7, s8], o0 :: o1 :: (true, lay) :: (true, found) :: o2, n⟩ Θ := by
  have hz : ∃ z, atI [D.lst z1, .lst z2] j = some (.lst z) ∧ sizesOk z := by
    rcases hj with rfl | rfl
    · exact ⟨z1, at0, h1⟩
    · exact ⟨z2, at1, h2⟩
  obtain ⟨z, hz1, hz2, hz3, hz4⟩ := hz
  -- how many
  show dBorrow (dCall true 1 m__law_pick (dCons (dVar 0) (dCons (dOp gIx (dVar 5) (dC (.int j))) dNil))) ⟨[.strm, .val x0, .own 2, .own 3, k, .val (.tup [.lst z1, .lst z2]), s6, s7, s8], o0 :: o1 :: (true, lay) :: (true, found) :: o2, n⟩ (fun s d1 => (fun ss d1 => ∃ i : Int, ss = [.val (.int i)] ∧ -1000000000 ≤ i ∧ i ≤ 1000000000 ∧ LcIn (dgName 8) (dBorrow (dCall true 1 m__law_pick (dCons (dVar 0) (dCons (dVar 2) dNil)))) [8] (rng 0 i.toNat) d1 Θ) [s] d1)
  refine pickB (r := [.strm, .val x0, .own 2, .own 3, k, .val (.tup [.lst z1, .lst z2]), s6, s7, s8]) (o := o0 :: o1 :: (true, lay) :: (true, found) :: o2) (n := n) (x := .lst z) (s := .val (.lst z)) rfl rfl hz2 (by omega) (by omega) (fun y hy => ?_) (fun y hy => ?_) (fun Θ' hΘ' => ?_) rfl
  · obtain ⟨c, _, _, rfl⟩ := hz4 y hy; rfl
  · obtain ⟨c, c0, c1, rfl⟩ := hz4 y hy
    refine ⟨c, rfl, by omega, by omega, ?_⟩
    -- each one
    refine lcIn_rel (d1 := ⟨[.strm, .val x0, .own 2, .own 3, k, .val (.tup [.lst z1, .lst z2]), s6, s7, s8], o0 :: o1 :: (true, lay) :: (true, found) :: o2, n + 1⟩) (rng 0 c.toNat) (fun _ _ e => goodL e) 1 (by rw [rng_len]; omega) (fun i y hy acc n1 hn1 Θ2 hΘ2 => ?_) (fun l n' hll hlg hn' => ?_)
    · obtain ⟨hi, rfl⟩ := rng_get hy
      simp only [dgName, DS.put]
      refine ⟨by simp [wipeR], ?_⟩
      refine pickB (r := [.strm, .val x0, .own 2, .own 3, k, .val (.tup [.lst z1, .lst z2]), s6, s7, .val (.int (0 + i))]) (o := (o0 :: o1 :: (true, lay) :: (true, found) :: o2) ++ [(true, acc)]) (n := n1) (x := .lst lay) (s := .own 2) rfl rfl h0 (by omega) (by have hn1 : n1 ≤ n + 1 + i * 1 := hn1; omega) (fun y hy => goodL_hard (hg y hy)) (fun y hy => ?_) (fun Θ' hΘ' => ?_) rfl
      · exact hΘ2 _ _ ⟨_, _, n1 + 1⟩ y rfl (hg y hy) rfl (List.take_of_length_le (by rw [List.length_append]; exact Nat.le_refl _)) (Nat.le_refl _)
      · obtain ⟨s', rfl, hq⟩ := hΘ'
        simpa [dRet, dAndV, dOrV, dNotV, dIsi, dVar, dC, dOp, dCB, dCons, dNil, dLst, dTup, dSeq, dIfS, dOr, dAnd, dNot, dTest, dChain, dInG, gLen, gI0, gEq, gIx, gList, gTuple, gBls, look_val, look_own, fz_val, fz_own, fzs_nil, fzs_cons, fnStart, fnEnds, ret_val, ret_own, gCall, dCall, resume_val, resume_new, dSet, dgName, dgCons, dgNil, dgTup, dgSeq, DS.put, DS.new, DS.trim, trimS_un, trimS_val, trimS_strm, trimS_own, wipeR, dYes, seqD_lst, seqD_tup, iterD_lst, iterD_tup, iterD_str, lenD_lst, lenD_tup, lenD_str, tyD_non, tyD_bl, tyD_int, tyD_str, tyD_lst, tyD_tup, tyD_dic, isiD, flatD_non, flatD_bl, flatD_int, flatD_str, atD_lst, atD_tup, dPar, dIf, dDrop, dBM, gAppend, gExtend, gPopAt, gClear, diSeq, diRng1, diRng2, diEnum, diZip, dSl, dPart, dNo, gSl, gInS, gIn, gPlus, gOr, gCat, gCatS, gTimes, gRep, gI, blsD, putAll, dParT, dStar, DS.ice, iceS_un, iceS_val, iceS_strm, iceS_own, dOr2, gNeS, and_assoc] using hq
    · rw [rng_len] at hll hn'
      have hn' : n' ≤ n + 1 + c.toNat * 1 := hn'
      have := h l n' (by omega) (fun e he => ?_) (by omega)
      · simpa [dRet, dAndV, dOrV, dNotV, dIsi, dVar, dC, dOp, dCB, dCons, dNil, dLst, dTup, dSeq, dIfS, dOr, dAnd, dNot, dTest, dChain, dInG, gLen, gI0, gEq, gIx, gList, gTuple, gBls, look_val, look_own, fz_val, fz_own, fzs_nil, fzs_cons, fnStart, fnEnds, ret_val, ret_own, gCall, dCall, resume_val, resume_new, dSet, dgName, dgCons, dgNil, dgTup, dgSeq, DS.put, DS.new, DS.trim, trimS_un, trimS_val, trimS_strm, trimS_own, wipeR, dYes, seqD_lst, seqD_tup, iterD_lst, iterD_tup, iterD_str, lenD_lst, lenD_tup, lenD_str, tyD_non, tyD_bl, tyD_int, tyD_str, tyD_lst, tyD_tup, tyD_dic, isiD, flatD_non, flatD_bl, flatD_int, flatD_str, atD_lst, atD_tup, dPar, dIf, dDrop, dBM, gAppend, gExtend, gPopAt, gClear, diSeq, diRng1, diRng2, diEnum, diZip, dSl, dPart, dNo, gSl, gInS, gIn, gPlus, gOr, gCat, gCatS, gTimes, gRep, gI, blsD, putAll, dParT, dStar, DS.ice, iceS_un, iceS_val, iceS_strm, iceS_own, dOr2, gNeS, and_assoc, Nat.add_comm, Nat.add_left_comm] using this
      · obtain ⟨i, hi⟩ := List.getElem?_of_mem he
        have hlt := (List.getElem?_eq_some_iff.mp hi).1
        exact hlg i (.int (0 + i)) e (rng_at (by rw [← hll]; exact hlt)) hi
  · obtain ⟨s', rfl, hq⟩ := hΘ'
    simp [dRet, dAndV, dOrV, dNotV, dIsi, dVar, dC, dOp, dCB, dCons, dNil, dLst, dTup, dSeq, dIfS, dOr, dAnd, dNot, dTest, dChain, dInG, gLen, gI0, gEq, gIx, gList, gTuple, gBls, look_val, look_own, fz_val, fz_own, fzs_nil, fzs_cons, fnStart, fnEnds, ret_val, ret_own, gCall, dCall, resume_val, resume_new, dSet, dgName, dgCons, dgNil, dgTup, dgSeq, DS.put, DS.new, DS.trim, trimS_un, trimS_val, trimS_strm, trimS_own, wipeR, dYes, seqD_lst, seqD_tup, iterD_lst, iterD_tup, iterD_str, lenD_lst, lenD_tup, lenD_str, tyD_non, tyD_bl, tyD_int, tyD_str, tyD_lst, tyD_tup, tyD_dic, isiD, flatD_non, flatD_bl, flatD_int, flatD_str, atD_lst, atD_tup, dPar, dIf, dDrop, dBM, gAppend, gExtend, gPopAt, gClear, diSeq, diRng1, diRng2, diEnum, diZip, dSl, dPart, dNo, gSl, gInS, gIn, gPlus, gOr, gCat, gCatS, gTimes, gRep, gI, blsD, putAll, dParT, dStar, DS.ice, iceS_un, iceS_val, iceS_strm, iceS_own, dOr2, gNeS, and_assoc]
    exact ⟨_, hz1, hq⟩
end RH

set_option Elab.async false
set_option linter.all false
set_option maxRecDepth 100000
set_option maxHeartbeats 8000000
/-! readings, on: rules drawn, on -/
namespace RH
open PySem PySem.Spec PyProof.Rows L2

def five : List D := [.tup [.str "cipher", .str "a"], .tup [.str "label", .str "a"], .tup [.str "word", .int 0], .tup [.str "word", .int 7], .tup [.str "seal", .str "bb"]]
theorem five_good : ∀ z ∈ five, goodL z := by
  intro z hz
  simp only [five, List.mem_cons, List.not_mem_nil, or_false] at hz
  rcases hz with rfl | rfl | rfl | rfl | rfl
  · exact .inl rfl
  · exact .inr (.inl rfl)
  · exact .inr (.inr (.inr ⟨0, by decide, by decide, rfl⟩))
  · exact .inr (.inr (.inr ⟨7, by decide, by decide, rfl⟩))
  · exact .inr (.inr (.inl rfl))
def m__law_any_rules : FM := fun ds n Ψ => ds = [.int 12] ∧ n ≤ 800000 ∧ ∀ l n', 0 < l.length → l.length ≤ 12 → (∀ y ∈ l, Good y) → n' ≤ n + 400 → Ψ (.new l) n'
/-- _law_any_rules: _law_stream_here, _law_many, _law_layers, _law_found, _law_k, _law_sizes, _law_takes, _law_puts, _law_one -/
def w__law_any_rules : DTS :=
  (dSeq (dSet (dLst (dCons (dTup (dCons (dC (.str "cipher")) (dCons (dC (.str "a")) dNil))) (dCons (dTup (dCons (dC (.str "label")) (dCons (dC (.str "a")) dNil))) (dCons (dTup (dCons (dC (.str "word")) (dCons (dC (.int 0)) dNil))) (dCons (dTup (dCons (dC (.str "word")) (dCons (dC (.int 7)) dNil))) (dCons (dTup (dCons (dC (.str "seal")) (dCons (dC (.str "bb")) dNil))) dNil)))))) (dgName 2))
    (dSeq (dParT [2, 3] (dCons (dSl (dCall true 1 m__law_mixed (dCons (dVar 0) (dCons (dVar 2) dNil))) dNo (dPart (dOp gPlus (dC (.int 2)) (dCall true 1 m__law_draw (dCons (dVar 0) (dCons (dC (.int 3)) dNil)))))) (dCons (dLst dNil) dNil)))
    (dSeq (dFor (diRng1 (dCons (dOp gPlus (dC (.int 1)) (dCall true 1 m__law_draw (dCons (dVar 0) (dCons (dVar 1) dNil)))) dNil)) (dgName 4)
      (dSeq (dSet (dTup (dCons (dLst (dCons (dC (.int 0)) (dCons (dC (.int 1)) (dCons (dC (.int 1)) (dCons (dC (.int 1)) (dCons (dC (.int 1)) (dCons (dC (.int 2)) (dCons (dC (.int 2)) (dCons (dC (.int 3)) (dCons (dC (.int 4)) (dCons (dC (.int 6)) dNil))))))))))) (dCons (dLst (dCons (dC (.int 0)) (dCons (dC (.int 0)) (dCons (dC (.int 0)) (dCons (dC (.int 1)) (dCons (dC (.int 1)) (dCons (dC (.int 2)) (dCons (dC (.int 3)) (dCons (dC (.int 4)) (dCons (dC (.int 6)) dNil)))))))))) dNil))) (dgName 5))
    (dSeq (dSet (dIf (dTest (dOp (gI0 fun i j => .bl (decide (i < j))) (dVar 4) (dC (.int 3)))) (dVar 5) (dTup (dCons (dLst (dCons (dC (.int 0)) (dCons (dC (.int 1)) (dCons (dC (.int 1)) (dCons (dC (.int 1)) (dCons (dC (.int 2)) dNil)))))) (dCons (dLst (dCons (dC (.int 0)) (dCons (dC (.int 0)) (dCons (dC (.int 1)) (dCons (dC (.int 1)) (dCons (dC (.int 2)) dNil)))))) dNil)))) (dgName 5))
    (dSeq (dSet (dLc (diRng1 (dCons (dBorrow (dCall true 1 m__law_pick (dCons (dVar 0) (dCons (dOp gIx (dVar 5) (dC (.int 0))) dNil)))) dNil)) (dgName 8) dYes (dBorrow (dCall true 1 m__law_pick (dCons (dVar 0) (dCons (dVar 2) dNil)))) [8]) (dgName 6))
    (dSeq (dSet (dLc (diRng1 (dCons (dBorrow (dCall true 1 m__law_pick (dCons (dVar 0) (dCons (dOp gIx (dVar 5) (dC (.int 1))) dNil)))) dNil)) (dgName 8) dYes (dBorrow (dCall true 1 m__law_pick (dCons (dVar 0) (dCons (dVar 2) dNil)))) [8]) (dgName 7))
    (dDrop (dBM gAppend (dVar 3) (dCons (dTup (dCons (dVar 6) (dCons (dVar 7) (dCons (dBorrow (dCall true 1 m__law_pick (dCons (dVar 0) (dCons (dLst (dCons (dC .non) (dCons (dC (.int 0)) (dCons (dC (.str "x")) (dCons (dTup (dCons (dC (.str "take")) (dCons (dOp gIx (dVar 2) (dC (.int 0))) dNil))) dNil))))) dNil)))) dNil)))) dNil))))))))
    (dRet (dVar 3)))))
def w_any_tail : DTS :=
  (dSeq (dSet (dLc (diRng1 (dCons (dBorrow (dCall true 1 m__law_pick (dCons (dVar 0) (dCons (dOp gIx (dVar 5) (dC (.int 0))) dNil)))) dNil)) (dgName 8) dYes (dBorrow (dCall true 1 m__law_pick (dCons (dVar 0) (dCons (dVar 2) dNil)))) [8]) (dgName 6))
    (dSeq (dSet (dLc (diRng1 (dCons (dBorrow (dCall true 1 m__law_pick (dCons (dVar 0) (dCons (dOp gIx (dVar 5) (dC (.int 1))) dNil)))) dNil)) (dgName 8) dYes (dBorrow (dCall true 1 m__law_pick (dCons (dVar 0) (dCons (dVar 2) dNil)))) [8]) (dgName 7))
    (dDrop (dBM gAppend (dVar 3) (dCons (dTup (dCons (dVar 6) (dCons (dVar 7) (dCons (dBorrow (dCall true 1 m__law_pick (dCons (dVar 0) (dCons (dLst (dCons (dC .non) (dCons (dC (.int 0)) (dCons (dC (.str "x")) (dCons (dTup (dCons (dC (.str "take")) (dCons (dOp gIx (dVar 2) (dC (.int 0))) dNil))) dNil))))) dNil)))) dNil)))) dNil)))))
def w_any2 : DTS :=
  (dSeq (dSet (dLst (dCons (dTup (dCons (dC (.str "cipher")) (dCons (dC (.str "a")) dNil))) (dCons (dTup (dCons (dC (.str "label")) (dCons (dC (.str "a")) dNil))) (dCons (dTup (dCons (dC (.str "word")) (dCons (dC (.int 0)) dNil))) (dCons (dTup (dCons (dC (.str "word")) (dCons (dC (.int 7)) dNil))) (dCons (dTup (dCons (dC (.str "seal")) (dCons (dC (.str "bb")) dNil))) dNil)))))) (dgName 2))
    (dSeq (dParT [2, 3] (dCons (dSl (dCall true 1 m__law_mixed (dCons (dVar 0) (dCons (dVar 2) dNil))) dNo (dPart (dOp gPlus (dC (.int 2)) (dCall true 1 m__law_draw (dCons (dVar 0) (dCons (dC (.int 3)) dNil)))))) (dCons (dLst dNil) dNil)))
    (dSeq (dFor (diRng1 (dCons (dOp gPlus (dC (.int 1)) (dCall true 1 m__law_draw (dCons (dVar 0) (dCons (dVar 1) dNil)))) dNil)) (dgName 4)
      (dSeq (dSet (dTup (dCons (dLst (dCons (dC (.int 0)) (dCons (dC (.int 1)) (dCons (dC (.int 1)) (dCons (dC (.int 1)) (dCons (dC (.int 1)) (dCons (dC (.int 2)) (dCons (dC (.int 2)) (dCons (dC (.int 3)) (dCons (dC (.int 4)) (dCons (dC (.int 6)) dNil))))))))))) (dCons (dLst (dCons (dC (.int 0)) (dCons (dC (.int 0)) (dCons (dC (.int 0)) (dCons (dC (.int 1)) (dCons (dC (.int 1)) (dCons (dC (.int 2)) (dCons (dC (.int 3)) (dCons (dC (.int 4)) (dCons (dC (.int 6)) dNil)))))))))) dNil))) (dgName 5))
    (dSeq (dSet (dIf (dTest (dOp (gI0 fun i j => .bl (decide (i < j))) (dVar 4) (dC (.int 3)))) (dVar 5) (dTup (dCons (dLst (dCons (dC (.int 0)) (dCons (dC (.int 1)) (dCons (dC (.int 1)) (dCons (dC (.int 1)) (dCons (dC (.int 2)) dNil)))))) (dCons (dLst (dCons (dC (.int 0)) (dCons (dC (.int 0)) (dCons (dC (.int 1)) (dCons (dC (.int 1)) (dCons (dC (.int 2)) dNil)))))) dNil)))) (dgName 5))
    w_any_tail)))
    (dRet (dVar 3)))))
theorem any_tail {n' : Nat} {k s6 s7 : S} {z1 z2 lay found : List D} {o2 : List (Bool × List D)} {o0 o1 : Bool × List D} {x0 : D} {Φ : DEnds} (h1 : sizesOk z1) (h2 : sizesOk z2) (h0 : 0 < lay.length) (hl : lay.length < 1000) (hg : ∀ z ∈ lay, goodL z) (hf : found.length ≤ 1000) (hn : n' + 20 ≤ 900000)
    (h : ∀ (y : D) (n2 : Nat) (s6 s7 : S) (o3 : List (Bool × List D)), Good y → n2 ≤ n' + 15 → Φ.nx ⟨[.strm, .val x0, .own 2, .own 3, k, .val (.tup [.lst z1, .lst z2]), s6, s7, .un], o0 :: o1 :: (true, lay) :: (true, found ++ [y]) :: o3, n2⟩) :
    w_any_tail ⟨[.strm, .val x0, .own 2, .own 3, k, .val (.tup [.lst z1, .lst z2]), s6, s7, .un], o0 :: o1 :: (true, lay) :: (true, found) :: o2, n'⟩ Φ := by
  refine pick_lc (Θ := fun s d1 => dgName 6 s d1 _) o0 o1 (.inl rfl) h1 h2 h0 hl hg (by omega) fun l n1 hl1 hg1 hn1 => ?_
  refine ⟨by simp, ?_⟩
  refine pick_lc (n := n1) (o2 := o2 ++ [(true, l)]) (s6 := .own (o2.length + 4)) (s7 := s7) (s8 := .un) (found := found) (lay := lay) (k := k) (x0 := x0) (Θ := fun s d1 => dgName 7 s d1 _) o0 o1 (.inr rfl) h1 h2 h0 hl hg (by omega) fun l2 n2 hl2 hg2 hn2 => ?_
  refine ⟨by simp, ?_⟩
  obtain ⟨z0, lay', rfl⟩ : ∃ z0 lay', lay = z0 :: lay' := by
    cases lay with
    | nil => simp at h0
    | cons z l => exact ⟨z, l, rfl⟩
  have hz0 := goodL_hard (hg z0 List.mem_cons_self)
  simp [dRet, dAndV, dOrV, dNotV, dIsi, dVar, dC, dOp, dCB, dCons, dNil, dLst, dTup, dSeq, dIfS, dOr, dAnd, dNot, dTest, dChain, dInG, gLen, gI0, gEq, gIx, gList, gTuple, gBls, look_val, look_own, fz_val, fz_own, fzs_nil, fzs_cons, fnStart, fnEnds, ret_val, ret_own, gCall, dCall, resume_val, resume_new, dSet, dgName, dgCons, dgNil, dgTup, dgSeq, DS.put, DS.new, DS.trim, trimS_un, trimS_val, trimS_strm, trimS_own, wipeR, dYes, seqD_lst, seqD_tup, iterD_lst, iterD_tup, iterD_str, lenD_lst, lenD_tup, lenD_str, tyD_non, tyD_bl, tyD_int, tyD_str, tyD_lst, tyD_tup, tyD_dic, isiD, flatD_non, flatD_bl, flatD_int, flatD_str, atD_lst, atD_tup, dPar, dIf, dDrop, dBM, gAppend, gExtend, gPopAt, gClear, diSeq, diRng1, diRng2, diEnum, diZip, dSl, dPart, dNo, gSl, gInS, gIn, gPlus, gOr, gCat, gCatS, gTimes, gRep, gI, blsD, putAll, dParT, dStar, DS.ice, iceS_un, iceS_val, iceS_strm, iceS_own, dOr2, gNeS, and_assoc, dBorrow, m__law_pick, at0]
  have mk : ∀ c, goodC c → Φ.nx ⟨[.strm, .val x0, .own 2, .own 3, k, .val (.tup [.lst z1, .lst z2]), .own (o2.length + 4), .own (o2.length + 1 + 4), .un], o0 :: o1 :: (true, z0 :: lay') :: (true, found ++ [.tup [.lst l, .lst l2, c]]) :: (o2 ++ [(false, l), (false, l2)]), n2 + 1⟩ := fun c hc => h _ _ _ _ _ ⟨⟨l, l2, c, rfl, hl1, hl2, hg1, hg2, hc⟩⟩ (by omega)
  have h1000 : found.length ≤ 1000000 := by omega
  exact ⟨by omega, rfl, h1000, mk _ (.inl rfl), rfl, h1000, mk _ (.inr (.inr (.inl ⟨0, by decide, by decide, rfl⟩))), rfl, h1000, mk _ (.inr (.inl rfl)), by simp [hard, hards, hz0], h1000, mk _ (.inr (.inr (.inr ⟨z0, hg z0 List.mem_cons_self, rfl⟩)))⟩
theorem rd__law_any_rules : ∀ ds n Ψ, ds.length = 1 → m__law_any_rules ds n Ψ → w__law_any_rules (fnStart true ds 7 n) (fnEnds Ψ) := by
  rintro ds n Ψ - ⟨rfl, hn, h⟩
  show w_any2 _ _
  unfold w_any2
  simp only [dSeq, dSet]
  simp [dRet, dAndV, dOrV, dNotV, dIsi, dVar, dC, dOp, dCB, dCons, dNil, dLst, dTup, dSeq, dIfS, dOr, dAnd, dNot, dTest, dChain, dInG, gLen, gI0, gEq, gIx, gList, gTuple, gBls, look_val, look_own, fz_val, fz_own, fzs_nil, fzs_cons, fnStart, fnEnds, ret_val, ret_own, gCall, dCall, resume_val, resume_new, dSet, dgName, dgCons, dgNil, dgTup, dgSeq, DS.put, DS.new, DS.trim, trimS_un, trimS_val, trimS_strm, trimS_own, wipeR, dYes, seqD_lst, seqD_tup, iterD_lst, iterD_tup, iterD_str, lenD_lst, lenD_tup, lenD_str, tyD_non, tyD_bl, tyD_int, tyD_str, tyD_lst, tyD_tup, tyD_dic, isiD, flatD_non, flatD_bl, flatD_int, flatD_str, atD_lst, atD_tup, dPar, dIf, dDrop, dBM, gAppend, gExtend, gPopAt, gClear, diSeq, diRng1, diRng2, diEnum, diZip, dSl, dPart, dNo, gSl, gInS, gIn, gPlus, gOr, gCat, gCatS, gTimes, gRep, gI, blsD, putAll, dParT, dStar, DS.ice, iceS_un, iceS_val, iceS_strm, iceS_own, dOr2, gNeS, and_assoc, m__law_mixed, m__law_draw]
  refine ⟨by omega, fun p hp => ⟨by omega, fun i i0 i1 => ?_⟩⟩
  have hp5 : p.length = 5 := hp.length_eq
  have hcut : cutD p none (some (2 + i)) = p.take (i.toNat + 2) := by
    have e : (2 : Int) + i = ((i.toNat + 2 : Nat) : Int) := by omega
    rw [e]; exact cut_take
  have hl0 : 0 < (p.take (i.toNat + 2)).length := by rw [List.length_take]; omega
  have hl1 : (p.take (i.toNat + 2)).length < 1000 := by rw [List.length_take]; omega
  have hg : ∀ z ∈ p.take (i.toNat + 2), goodL z := fun z hz => five_good z (hp.mem_iff.mp (List.mem_of_mem_take hz))
  rw [hcut]
  generalize p.take (i.toNat + 2) = lay at hl0 hl1 hg
  simp only [dFor]
  simp [dRet, dAndV, dOrV, dNotV, dIsi, dVar, dC, dOp, dCB, dCons, dNil, dLst, dTup, dSeq, dIfS, dOr, dAnd, dNot, dTest, dChain, dInG, gLen, gI0, gEq, gIx, gList, gTuple, gBls, look_val, look_own, fz_val, fz_own, fzs_nil, fzs_cons, fnStart, fnEnds, ret_val, ret_own, gCall, dCall, resume_val, resume_new, dSet, dgName, dgCons, dgNil, dgTup, dgSeq, DS.put, DS.new, DS.trim, trimS_un, trimS_val, trimS_strm, trimS_own, wipeR, dYes, seqD_lst, seqD_tup, iterD_lst, iterD_tup, iterD_str, lenD_lst, lenD_tup, lenD_str, tyD_non, tyD_bl, tyD_int, tyD_str, tyD_lst, tyD_tup, tyD_dic, isiD, flatD_non, flatD_bl, flatD_int, flatD_str, atD_lst, atD_tup, dPar, dIf, dDrop, dBM, gAppend, gExtend, gPopAt, gClear, diSeq, diRng1, diRng2, diEnum, diZip, dSl, dPart, dNo, gSl, gInS, gIn, gPlus, gOr, gCat, gCatS, gTimes, gRep, gI, blsD, putAll, dParT, dStar, DS.ice, iceS_un, iceS_val, iceS_strm, iceS_own, dOr2, gNeS, and_assoc, m__law_draw]
  refine ⟨by omega, fun i2 i20 i21 => ⟨by omega, by omega, ?_⟩⟩
  refine ⟨fun t d => t ≤ 12 ∧ ∃ n' s4 s5 s6 s7 found, d = ⟨[.strm, .val (.int 12), .own 2, .own 3, s4, s5, s6, s7, .un], [(false, five), (true, p), (true, lay), (true, found)], n'⟩ ∧ found.length = t ∧ (∀ y ∈ found, Good y) ∧ n' ≤ n + 10 + t * 20, ?_, ?_, ?_⟩
  · exact ⟨by omega, n + 5 + 1 + 1, .un, .un, .un, .un, [], rfl, rfl, fun y hy => (by cases hy), by omega⟩
  · rintro t y d hy ⟨ht, n', s4, s5, s6, s7, found, rfl, hf, hgood, hn'⟩
    obtain ⟨hlt, rfl⟩ := rng_get hy
    have z1 : sizesOk [D.int 0, D.int 1, D.int 1, D.int 1, D.int 1, D.int 2, D.int 2, D.int 3, D.int 4, D.int 6] := ⟨by decide, by decide, by simp⟩
    have z2 : sizesOk [D.int 0, D.int 0, D.int 0, D.int 1, D.int 1, D.int 2, D.int 3, D.int 4, D.int 6] := ⟨by decide, by decide, by simp⟩
    have z3 : sizesOk [D.int 0, D.int 1, D.int 1, D.int 1, D.int 2] := ⟨by decide, by decide, by simp⟩
    have z4 : sizesOk [D.int 0, D.int 0, D.int 1, D.int 1, D.int 2] := ⟨by decide, by decide, by simp⟩
    have hall : ∀ y, Good y → ∀ z ∈ found ++ [y], Good z := fun y hy z hz => (List.mem_append.mp hz).elim (hgood z) fun hz => by rcases List.mem_singleton.mp hz with rfl; exact hy
    simp [dRet, dAndV, dOrV, dNotV, dIsi, dVar, dC, dOp, dCB, dCons, dNil, dLst, dTup, dSeq, dIfS, dOr, dAnd, dNot, dTest, dChain, dInG, gLen, gI0, gEq, gIx, gList, gTuple, gBls, look_val, look_own, fz_val, fz_own, fzs_nil, fzs_cons, fnStart, fnEnds, ret_val, ret_own, gCall, dCall, resume_val, resume_new, dSet, dgName, dgCons, dgNil, dgTup, dgSeq, DS.put, DS.new, DS.trim, trimS_un, trimS_val, trimS_strm, trimS_own, wipeR, dYes, seqD_lst, seqD_tup, iterD_lst, iterD_tup, iterD_str, lenD_lst, lenD_tup, lenD_str, tyD_non, tyD_bl, tyD_int, tyD_str, tyD_lst, tyD_tup, tyD_dic, isiD, flatD_non, flatD_bl, flatD_int, flatD_str, atD_lst, atD_tup, dPar, dIf, dDrop, dBM, gAppend, gExtend, gPopAt, gClear, diSeq, diRng1, diRng2, diEnum, diZip, dSl, dPart, dNo, gSl, gInS, gIn, gPlus, gOr, gCat, gCatS, gTimes, gRep, gI, blsD, putAll, dParT, dStar, DS.ice, iceS_un, iceS_val, iceS_strm, iceS_own, dOr2, gNeS, and_assoc]
    by_cases h3 : (t : Int) < 3
    · rw [if_pos h3]
      exact any_tail (Φ := _) z1 z2 hl0 hl1 hg (by omega) (by omega) fun y n2 s6 s7 o3 hy hn2 => ⟨by omega, ⟨_, _, _, _, rfl⟩, n2, found ++ [y], rfl, rfl, by simp [hf], hall y hy, by omega⟩
    · rw [if_neg h3]
      exact any_tail (Φ := _) z3 z4 hl0 hl1 hg (by omega) (by omega) fun y n2 s6 s7 o3 hy hn2 => ⟨by omega, ⟨_, _, _, _, rfl⟩, n2, found ++ [y], rfl, rfl, by simp [hf], hall y hy, by omega⟩
  · rintro d ⟨ht, n', s4, s5, s6, s7, found, rfl, hf, hgood, hn'⟩
    rw [rng_len] at hf
    have := h found n' (by omega) (by omega) hgood (by omega)
    simpa [dRet, dAndV, dOrV, dNotV, dIsi, dVar, dC, dOp, dCB, dCons, dNil, dLst, dTup, dSeq, dIfS, dOr, dAnd, dNot, dTest, dChain, dInG, gLen, gI0, gEq, gIx, gList, gTuple, gBls, look_val, look_own, fz_val, fz_own, fzs_nil, fzs_cons, fnStart, fnEnds, ret_val, ret_own, gCall, dCall, resume_val, resume_new, dSet, dgName, dgCons, dgNil, dgTup, dgSeq, DS.put, DS.new, DS.trim, trimS_un, trimS_val, trimS_strm, trimS_own, wipeR, dYes, seqD_lst, seqD_tup, iterD_lst, iterD_tup, iterD_str, lenD_lst, lenD_tup, lenD_str, tyD_non, tyD_bl, tyD_int, tyD_str, tyD_lst, tyD_tup, tyD_dic, isiD, flatD_non, flatD_bl, flatD_int, flatD_str, atD_lst, atD_tup, dPar, dIf, dDrop, dBM, gAppend, gExtend, gPopAt, gClear, diSeq, diRng1, diRng2, diEnum, diZip, dSl, dPart, dNo, gSl, gInS, gIn, gPlus, gOr, gCat, gCatS, gTimes, gRep, gI, blsD, putAll, dParT, dStar, DS.ice, iceS_un, iceS_val, iceS_strm, iceS_own, dOr2, gNeS, and_assoc] using this
end RH

set_option Elab.async false
set_option linter.all false
set_option maxRecDepth 100000
set_option maxHeartbeats 8000000
/-! readings, on: climbing rules, drawn rules -/
namespace RH
open PySem PySem.Spec PyProof.Rows L2

def m__law_climbing : FM := fun ds n Ψ => ∃ m : Nat, ds = [.int m] ∧ 2 ≤ m ∧ m ≤ 6 ∧ n ≤ 800000 ∧ ∀ l n', 0 < l.length → l.length ≤ 12 → (∀ y ∈ l, Good y) → n' ≤ n + 300 → Ψ (.new l) n'
/-- _law_climbing: _law_stream_here, _law_many, _law_found, _law_k, _law_puts, _law_one -/
def w__law_climbing : DTS :=
  (dSeq (dSet (dLst dNil) (dgName 2))
    (dSeq (dFor (diRng1 (dCons (dVar 1) dNil)) (dgName 3)
      (dSeq (dSet (dIf (dTest (dOp (gI0 fun i j => .bl (decide (i < j))) (dOp gPlus (dVar 3) (dC (.int 1))) (dVar 1))) (dLc (diRng1 (dCons (dOp gPlus (dC (.int 1)) (dCall true 1 m__law_draw (dCons (dVar 0) (dCons (dC (.int 3)) dNil)))) dNil)) (dgName 5) dYes (dTup (dCons (dC (.str "word")) (dCons (dOp gPlus (dVar 3) (dC (.int 1))) dNil))) [5]) (dLst dNil)) (dgName 4))
    (dDrop (dBM gAppend (dVar 2) (dCons (dTup (dCons (dLst (dCons (dTup (dCons (dC (.str "word")) (dCons (dVar 3) dNil))) dNil)) (dCons (dVar 4) (dCons (dVar 3) dNil)))) dNil)))))
    (dSeq (dIfS (dTest (dOp (gEq id) (dCall true 1 m__law_draw (dCons (dVar 0) (dCons (dC (.int 3)) dNil))) (dC (.int 0))))
      (dSeq (dDrop (dBM gAppend (dVar 2) (dCons (dTup (dCons (dLst dNil) (dCons (dLst (dCons (dTup (dCons (dC (.str "label")) (dCons (dC (.str "a")) dNil))) dNil)) (dCons (dC .non) dNil)))) dNil)))
    (dDrop (dBM gAppend (dVar 2) (dCons (dTup (dCons (dLst (dCons (dTup (dCons (dC (.str "label")) (dCons (dC (.str "a")) dNil))) (dCons (dTup (dCons (dC (.str "word")) (dCons (dCall true 1 m__law_draw (dCons (dVar 0) (dCons (dVar 1) dNil))) dNil))) dNil))) (dCons (dLst dNil) (dCons (dC .non) dNil)))) dNil))))
      (fun d Φ => Φ.nx d))
    (dRet (dCall true 1 m__law_mixed (dCons (dVar 0) (dCons (dVar 2) dNil)))))))
theorem words_lc {n' : Nat} {t : Int} {x1 s4 : S} {found : List D} {Θ : S → DS → Prop} (hn : n' < 900000)
    (h : ∀ c : Nat, c ≤ 3 → Θ (.own 1) ⟨[.strm, x1, .own 0, .val (.int t), s4, .un], [(true, found), (true, List.replicate c (.tup [.str "word", .int (t + 1)]))], n' + 1⟩) :
    dLc (diRng1 (dCons (dOp (gOr (gI0 fun i j => .int (i + j)) (gOr gCat gCatS)) (dC (.int 1)) (dCall true 1 m__law_draw (dCons (dVar 0) (dCons (dC (.int 3)) dNil)))) dNil)) (dgName 5) dYes
      (dTup (dCons (dC (.str "word")) (dCons (dOp (gOr (gI0 fun i j => .int (i + j)) (gOr gCat gCatS)) (dVar 3) (dC (.int 1))) dNil))) [5] ⟨[.strm, x1, .own 0, .val (.int t), s4, .un], [(true, found)], n'⟩ Θ := by
  simp [dRet, dAndV, dOrV, dNotV, dIsi, dVar, dC, dOp, dCB, dCons, dNil, dLst, dTup, dSeq, dIfS, dOr, dAnd, dNot, dTest, dChain, dInG, gLen, gI0, gEq, gIx, gList, gTuple, gBls, look_val, look_own, fz_val, fz_own, fzs_nil, fzs_cons, fnStart, fnEnds, ret_val, ret_own, gCall, dCall, resume_val, resume_new, dSet, dgName, dgCons, dgNil, dgTup, dgSeq, DS.put, DS.new, DS.trim, trimS_un, trimS_val, trimS_strm, trimS_own, wipeR, dYes, seqD_lst, seqD_tup, iterD_lst, iterD_tup, iterD_str, lenD_lst, lenD_tup, lenD_str, tyD_non, tyD_bl, tyD_int, tyD_str, tyD_lst, tyD_tup, tyD_dic, isiD, flatD_non, flatD_bl, flatD_int, flatD_str, atD_lst, atD_tup, dPar, dIf, dDrop, dBM, gAppend, gExtend, gPopAt, gClear, diSeq, diRng1, diRng2, diEnum, diZip, dSl, dPart, dNo, gSl, gInS, gIn, gPlus, gOr, gCat, gCatS, gTimes, gRep, gI, blsD, putAll, dParT, dStar, DS.ice, iceS_un, iceS_val, iceS_strm, iceS_own, dOr2, gNeS, and_assoc, dLc, m__law_draw]
  refine ⟨by omega, fun i i0 i1 => ⟨by omega, by omega, ?_⟩⟩
  refine ⟨fun j acc n2 => j ≤ 3 ∧ acc = List.replicate j (.tup [.str "word", .int (t + 1)]) ∧ n2 = n' + 1, ⟨by omega, rfl, rfl⟩, ?_, ?_⟩
  · rintro j x acc n2 hx ⟨hj, rfl, rfl⟩
    obtain ⟨hlt, rfl⟩ := rng_get hx
    simp [dRet, dAndV, dOrV, dNotV, dIsi, dVar, dC, dOp, dCB, dCons, dNil, dLst, dTup, dSeq, dIfS, dOr, dAnd, dNot, dTest, dChain, dInG, gLen, gI0, gEq, gIx, gList, gTuple, gBls, look_val, look_own, fz_val, fz_own, fzs_nil, fzs_cons, fnStart, fnEnds, ret_val, ret_own, gCall, dCall, resume_val, resume_new, dSet, dgName, dgCons, dgNil, dgTup, dgSeq, DS.put, DS.new, DS.trim, trimS_un, trimS_val, trimS_strm, trimS_own, wipeR, dYes, seqD_lst, seqD_tup, iterD_lst, iterD_tup, iterD_str, lenD_lst, lenD_tup, lenD_str, tyD_non, tyD_bl, tyD_int, tyD_str, tyD_lst, tyD_tup, tyD_dic, isiD, flatD_non, flatD_bl, flatD_int, flatD_str, atD_lst, atD_tup, dPar, dIf, dDrop, dBM, gAppend, gExtend, gPopAt, gClear, diSeq, diRng1, diRng2, diEnum, diZip, dSl, dPart, dNo, gSl, gInS, gIn, gPlus, gOr, gCat, gCatS, gTimes, gRep, gI, blsD, putAll, dParT, dStar, DS.ice, iceS_un, iceS_val, iceS_strm, iceS_own, dOr2, gNeS, and_assoc, List.replicate_succ']
    omega
  · rintro acc n2 ⟨hj, rfl, rfl⟩
    rw [rng_len] at hj ⊢
    exact h _ hj
theorem rd__law_climbing : ∀ ds n Ψ, ds.length = 1 → m__law_climbing ds n Ψ → w__law_climbing (fnStart true ds 4 n) (fnEnds Ψ) := by
  rintro ds n Ψ - ⟨m, rfl, m2, m6, hn, h⟩
  unfold w__law_climbing
  simp only [dSeq, dSet, dFor]
  simp [dRet, dAndV, dOrV, dNotV, dIsi, dVar, dC, dOp, dCB, dCons, dNil, dLst, dTup, dSeq, dIfS, dOr, dAnd, dNot, dTest, dChain, dInG, gLen, gI0, gEq, gIx, gList, gTuple, gBls, look_val, look_own, fz_val, fz_own, fzs_nil, fzs_cons, fnStart, fnEnds, ret_val, ret_own, gCall, dCall, resume_val, resume_new, dSet, dgName, dgCons, dgNil, dgTup, dgSeq, DS.put, DS.new, DS.trim, trimS_un, trimS_val, trimS_strm, trimS_own, wipeR, dYes, seqD_lst, seqD_tup, iterD_lst, iterD_tup, iterD_str, lenD_lst, lenD_tup, lenD_str, tyD_non, tyD_bl, tyD_int, tyD_str, tyD_lst, tyD_tup, tyD_dic, isiD, flatD_non, flatD_bl, flatD_int, flatD_str, atD_lst, atD_tup, dPar, dIf, dDrop, dBM, gAppend, gExtend, gPopAt, gClear, diSeq, diRng1, diRng2, diEnum, diZip, dSl, dPart, dNo, gSl, gInS, gIn, gPlus, gOr, gCat, gCatS, gTimes, gRep, gI, blsD, putAll, dParT, dStar, DS.ice, iceS_un, iceS_val, iceS_strm, iceS_own, dOr2, gNeS, and_assoc, m__law_draw]
  refine ⟨by omega, fun t d => t ≤ m ∧ ∃ n' s3 s4 found, d = ⟨[.strm, .val (.int m), .own 0, s3, s4, .un], [(true, found)], n'⟩ ∧ found.length = t ∧ (∀ y ∈ found, Good y) ∧ n' ≤ n + t * 5, ⟨by omega, n, .un, .un, [], rfl, rfl, fun y hy => (by cases hy), by omega⟩, ?_, ?_⟩
  · rintro t y d hy ⟨ht, n', s3, s4, found, rfl, hf, hgood, hn'⟩
    obtain ⟨hlt, rfl⟩ := rng_get hy
    have hw : ∀ k : Int, 0 ≤ k → k ≤ 9 → goodL (.tup [.str "word", .int k]) := fun k k0 k1 => .inr (.inr (.inr ⟨k, k0, k1, rfl⟩))
    have hall : ∀ lb : List D, lb.length ≤ 6 → (∀ z ∈ lb, goodL z) → ∀ z ∈ found ++ [D.tup [.lst [.tup [.str "word", .int t]], .lst lb, .int t]], Good z := fun lb h1 h2 z hz => (List.mem_append.mp hz).elim (hgood z) fun hz => by
      rcases List.mem_singleton.mp hz with rfl
      exact ⟨⟨[.tup [.str "word", .int t]], lb, .int t, rfl, by simp, h1, fun z hz => by rcases List.mem_singleton.mp hz with rfl; exact hw _ (by omega) (by omega), h2, .inr (.inr (.inl ⟨t, by omega, by omega, rfl⟩))⟩⟩
    simp [dRet, dAndV, dOrV, dNotV, dIsi, dVar, dC, dOp, dCB, dCons, dNil, dLst, dTup, dSeq, dIfS, dOr, dAnd, dNot, dTest, dChain, dInG, gLen, gI0, gEq, gIx, gList, gTuple, gBls, look_val, look_own, fz_val, fz_own, fzs_nil, fzs_cons, fnStart, fnEnds, ret_val, ret_own, gCall, dCall, resume_val, resume_new, dSet, dgName, dgCons, dgNil, dgTup, dgSeq, DS.put, DS.new, DS.trim, trimS_un, trimS_val, trimS_strm, trimS_own, wipeR, dYes, seqD_lst, seqD_tup, iterD_lst, iterD_tup, iterD_str, lenD_lst, lenD_tup, lenD_str, tyD_non, tyD_bl, tyD_int, tyD_str, tyD_lst, tyD_tup, tyD_dic, isiD, flatD_non, flatD_bl, flatD_int, flatD_str, atD_lst, atD_tup, dPar, dIf, dDrop, dBM, gAppend, gExtend, gPopAt, gClear, diSeq, diRng1, diRng2, diEnum, diZip, dSl, dPart, dNo, gSl, gInS, gIn, gPlus, gOr, gCat, gCatS, gTimes, gRep, gI, blsD, putAll, dParT, dStar, DS.ice, iceS_un, iceS_val, iceS_strm, iceS_own, dOr2, gNeS, and_assoc]
    by_cases h3 : (t : Int) + 1 < m
    · rw [if_pos h3]
      refine words_lc (by omega) fun c hc => ?_
      have hr : ∀ z ∈ List.replicate c (D.tup [.str "word", .int ((t : Int) + 1)]), goodL z := fun z hz => by
        rw [List.eq_of_mem_replicate hz]
        exact hw _ (by omega) (by omega)
      have := hall (List.replicate c (.tup [.str "word", .int ((t : Int) + 1)])) (by rw [List.length_replicate]; omega) hr
      simp [dRet, dAndV, dOrV, dNotV, dIsi, dVar, dC, dOp, dCB, dCons, dNil, dLst, dTup, dSeq, dIfS, dOr, dAnd, dNot, dTest, dChain, dInG, gLen, gI0, gEq, gIx, gList, gTuple, gBls, look_val, look_own, fz_val, fz_own, fzs_nil, fzs_cons, fnStart, fnEnds, ret_val, ret_own, gCall, dCall, resume_val, resume_new, dSet, dgName, dgCons, dgNil, dgTup, dgSeq, DS.put, DS.new, DS.trim, trimS_un, trimS_val, trimS_strm, trimS_own, wipeR, dYes, seqD_lst, seqD_tup, iterD_lst, iterD_tup, iterD_str, lenD_lst, lenD_tup, lenD_str, tyD_non, tyD_bl, tyD_int, tyD_str, tyD_lst, tyD_tup, tyD_dic, isiD, flatD_non, flatD_bl, flatD_int, flatD_str, atD_lst, atD_tup, dPar, dIf, dDrop, dBM, gAppend, gExtend, gPopAt, gClear, diSeq, diRng1, diRng2, diEnum, diZip, dSl, dPart, dNo, gSl, gInS, gIn, gPlus, gOr, gCat, gCatS, gTimes, gRep, gI, blsD, putAll, dParT, dStar, DS.ice, iceS_un, iceS_val, iceS_strm, iceS_own, dOr2, gNeS, and_assoc]
      refine ⟨by omega, by omega, by omega, fun y hy => this y ?_, by omega⟩
      rcases hy with hy | rfl
      · exact List.mem_append_left _ hy
      · exact List.mem_append_right _ List.mem_cons_self
    · rw [if_neg h3]
      have := hall [] (by simp) (fun z hz => by cases hz)
      refine ⟨by omega, by omega, by omega, fun y hy => this y ?_, by omega⟩
      rcases hy with hy | rfl
      · exact List.mem_append_left _ hy
      · exact List.mem_append_right _ List.mem_cons_self
  · rintro d ⟨ht, n', s3, s4, found, rfl, hf, hgood, hn'⟩
    rw [rng_len] at hf
    have hfl : found.length = m := by simpa using hf
    have hn2 : n' ≤ n + 30 := by
      rw [rng_len] at hn'
      omega
    simp [dRet, dAndV, dOrV, dNotV, dIsi, dVar, dC, dOp, dCB, dCons, dNil, dLst, dTup, dSeq, dIfS, dOr, dAnd, dNot, dTest, dChain, dInG, gLen, gI0, gEq, gIx, gList, gTuple, gBls, look_val, look_own, fz_val, fz_own, fzs_nil, fzs_cons, fnStart, fnEnds, ret_val, ret_own, gCall, dCall, resume_val, resume_new, dSet, dgName, dgCons, dgNil, dgTup, dgSeq, DS.put, DS.new, DS.trim, trimS_un, trimS_val, trimS_strm, trimS_own, wipeR, dYes, seqD_lst, seqD_tup, iterD_lst, iterD_tup, iterD_str, lenD_lst, lenD_tup, lenD_str, tyD_non, tyD_bl, tyD_int, tyD_str, tyD_lst, tyD_tup, tyD_dic, isiD, flatD_non, flatD_bl, flatD_int, flatD_str, atD_lst, atD_tup, dPar, dIf, dDrop, dBM, gAppend, gExtend, gPopAt, gClear, diSeq, diRng1, diRng2, diEnum, diZip, dSl, dPart, dNo, gSl, gInS, gIn, gPlus, gOr, gCat, gCatS, gTimes, gRep, gI, blsD, putAll, dParT, dStar, DS.ice, iceS_un, iceS_val, iceS_strm, iceS_own, dOr2, gNeS, and_assoc]
    refine ⟨by omega, fun i i0 i1 => ⟨eqs_int i, eqs_int 0, ?_⟩⟩
    rw [py_int, py_int, eqv_int]
    by_cases hi : i = 0
    · rw [if_pos (decide_eq_true hi)]
      refine ⟨by omega, by omega, by omega, by omega, fun j j0 j1 => ⟨by omega, ?_⟩⟩
      have ga : goodL (.tup [.str "label", .str "a"]) := .inr (.inl rfl)
      have gw : goodL (.tup [.str "word", .int j]) := .inr (.inr (.inr ⟨j, j0, by omega, rfl⟩))
      refine ⟨_, _, rfl, rfl, by simp; omega, by simp; omega, fun p hp => ?_⟩
      have hpl := hp.length_eq
      have hlen : ∀ a b : D, (found ++ [a, b]).length = found.length + 2 := fun a b => by simp
      rw [hlen] at hpl
      rw [hlen]
      show Ψ (.new p) (n' + 1 + 1 + (found.length + 2))
      refine h p _ (by omega) (by omega) (fun y hy => ?_) (by omega)
      · have := hp.mem_iff.mp hy
        rcases List.mem_append.mp this with hm | hm
        · exact hgood y hm
        · simp only [List.mem_cons, List.not_mem_nil, or_false] at hm
          rcases hm with rfl | rfl
          · exact ⟨⟨[], _, .non, rfl, by simp, by simp, fun z hz => (by cases hz), fun z hz => by rcases List.mem_singleton.mp hz with rfl; exact ga, .inl rfl⟩⟩
          · refine ⟨⟨_, [], .non, rfl, by simp, by simp, fun z hz => ?_, fun z hz => (by cases hz), .inl rfl⟩⟩
            simp only [List.mem_cons, List.not_mem_nil, or_false] at hz
            rcases hz with rfl | rfl
            · exact ga
            · exact gw
    · rw [if_neg (by simpa using hi)]
      refine ⟨_, _, rfl, rfl, by omega, by omega, fun p hp => ?_⟩
      show Ψ (.new p) (n' + 1 + found.length)
      have hpl := hp.length_eq
      exact h p _ (by omega) (by omega) (fun y hy => hgood y (hp.mem_iff.mp hy)) (by omega)
def m__law_drawn_rules : FM := fun ds n Ψ => ds = [] ∧ n ≤ 700000 ∧ ∀ l n', 0 < l.length → l.length ≤ 12 → (∀ y ∈ l, Good y) → n' ≤ n + 500 → Ψ (.new l) n'
/-- _law_drawn_rules: _law_stream_here -/
def w__law_drawn_rules : DTS :=
  (dSeq (dIfS (dTest (dOp (gEq id) (dCall true 1 m__law_draw (dCons (dVar 0) (dCons (dC (.int 4)) dNil))) (dC (.int 0))))
      (dRet (dCall true 1 m__law_climbing (dCons (dVar 0) (dCons (dOp gPlus (dC (.int 2)) (dCall true 1 m__law_draw (dCons (dVar 0) (dCons (dC (.int 5)) dNil)))) dNil))))
      (fun d Φ => Φ.nx d))
    (dRet (dCall true 1 m__law_any_rules (dCons (dVar 0) (dCons (dC (.int 12)) dNil)))))
theorem rd__law_drawn_rules : ∀ ds n Ψ, ds.length = 0 → m__law_drawn_rules ds n Ψ → w__law_drawn_rules (fnStart true ds 0 n) (fnEnds Ψ) := by
  rintro ds n Ψ - ⟨rfl, hn, h⟩
  simp [dRet, dAndV, dOrV, dNotV, dIsi, dVar, dC, dOp, dCB, dCons, dNil, dLst, dTup, dSeq, dIfS, dOr, dAnd, dNot, dTest, dChain, dInG, gLen, gI0, gEq, gIx, gList, gTuple, gBls, look_val, look_own, fz_val, fz_own, fzs_nil, fzs_cons, fnStart, fnEnds, ret_val, ret_own, gCall, dCall, resume_val, resume_new, dSet, dgName, dgCons, dgNil, dgTup, dgSeq, DS.put, DS.new, DS.trim, trimS_un, trimS_val, trimS_strm, trimS_own, wipeR, dYes, seqD_lst, seqD_tup, iterD_lst, iterD_tup, iterD_str, lenD_lst, lenD_tup, lenD_str, tyD_non, tyD_bl, tyD_int, tyD_str, tyD_lst, tyD_tup, tyD_dic, isiD, flatD_non, flatD_bl, flatD_int, flatD_str, atD_lst, atD_tup, dPar, dIf, dDrop, dBM, gAppend, gExtend, gPopAt, gClear, diSeq, diRng1, diRng2, diEnum, diZip, dSl, dPart, dNo, gSl, gInS, gIn, gPlus, gOr, gCat, gCatS, gTimes, gRep, gI, blsD, putAll, dParT, dStar, DS.ice, iceS_un, iceS_val, iceS_strm, iceS_own, dOr2, gNeS, and_assoc, w__law_drawn_rules, m__law_draw]
  refine ⟨by omega, fun i i0 i1 => ?_⟩
  simp [eqs_int, py_int, eqv_int]
  by_cases hi : i = 0
  · subst hi
    simp [dRet, dAndV, dOrV, dNotV, dIsi, dVar, dC, dOp, dCB, dCons, dNil, dLst, dTup, dSeq, dIfS, dOr, dAnd, dNot, dTest, dChain, dInG, gLen, gI0, gEq, gIx, gList, gTuple, gBls, look_val, look_own, fz_val, fz_own, fzs_nil, fzs_cons, fnStart, fnEnds, ret_val, ret_own, gCall, dCall, resume_val, resume_new, dSet, dgName, dgCons, dgNil, dgTup, dgSeq, DS.put, DS.new, DS.trim, trimS_un, trimS_val, trimS_strm, trimS_own, wipeR, dYes, seqD_lst, seqD_tup, iterD_lst, iterD_tup, iterD_str, lenD_lst, lenD_tup, lenD_str, tyD_non, tyD_bl, tyD_int, tyD_str, tyD_lst, tyD_tup, tyD_dic, isiD, flatD_non, flatD_bl, flatD_int, flatD_str, atD_lst, atD_tup, dPar, dIf, dDrop, dBM, gAppend, gExtend, gPopAt, gClear, diSeq, diRng1, diRng2, diEnum, diZip, dSl, dPart, dNo, gSl, gInS, gIn, gPlus, gOr, gCat, gCatS, gTimes, gRep, gI, blsD, putAll, dParT, dStar, DS.ice, iceS_un, iceS_val, iceS_strm, iceS_own, dOr2, gNeS, and_assoc, m__law_draw]
    refine ⟨by omega, fun j j0 j1 => ?_⟩
    refine ⟨(2 + j).toNat, by simp; omega, by omega, by omega, by omega, fun l n' h1 h2 h3 h4 => ?_⟩
    simp [dRet, dAndV, dOrV, dNotV, dIsi, dVar, dC, dOp, dCB, dCons, dNil, dLst, dTup, dSeq, dIfS, dOr, dAnd, dNot, dTest, dChain, dInG, gLen, gI0, gEq, gIx, gList, gTuple, gBls, look_val, look_own, fz_val, fz_own, fzs_nil, fzs_cons, fnStart, fnEnds, ret_val, ret_own, gCall, dCall, resume_val, resume_new, dSet, dgName, dgCons, dgNil, dgTup, dgSeq, DS.put, DS.new, DS.trim, trimS_un, trimS_val, trimS_strm, trimS_own, wipeR, dYes, seqD_lst, seqD_tup, iterD_lst, iterD_tup, iterD_str, lenD_lst, lenD_tup, lenD_str, tyD_non, tyD_bl, tyD_int, tyD_str, tyD_lst, tyD_tup, tyD_dic, isiD, flatD_non, flatD_bl, flatD_int, flatD_str, atD_lst, atD_tup, dPar, dIf, dDrop, dBM, gAppend, gExtend, gPopAt, gClear, diSeq, diRng1, diRng2, diEnum, diZip, dSl, dPart, dNo, gSl, gInS, gIn, gPlus, gOr, gCat, gCatS, gTimes, gRep, gI, blsD, putAll, dParT, dStar, DS.ice, iceS_un, iceS_val, iceS_strm, iceS_own, dOr2, gNeS, and_assoc]
    exact h l n' h1 h2 h3 (by omega)
  · simp [dRet, dAndV, dOrV, dNotV, dIsi, dVar, dC, dOp, dCB, dCons, dNil, dLst, dTup, dSeq, dIfS, dOr, dAnd, dNot, dTest, dChain, dInG, gLen, gI0, gEq, gIx, gList, gTuple, gBls, look_val, look_own, fz_val, fz_own, fzs_nil, fzs_cons, fnStart, fnEnds, ret_val, ret_own, gCall, dCall, resume_val, resume_new, dSet, dgName, dgCons, dgNil, dgTup, dgSeq, DS.put, DS.new, DS.trim, trimS_un, trimS_val, trimS_strm, trimS_own, wipeR, dYes, seqD_lst, seqD_tup, iterD_lst, iterD_tup, iterD_str, lenD_lst, lenD_tup, lenD_str, tyD_non, tyD_bl, tyD_int, tyD_str, tyD_lst, tyD_tup, tyD_dic, isiD, flatD_non, flatD_bl, flatD_int, flatD_str, atD_lst, atD_tup, dPar, dIf, dDrop, dBM, gAppend, gExtend, gPopAt, gClear, diSeq, diRng1, diRng2, diEnum, diZip, dSl, dPart, dNo, gSl, gInS, gIn, gPlus, gOr, gCat, gCatS, gTimes, gRep, gI, blsD, putAll, dParT, dStar, DS.ice, iceS_un, iceS_val, iceS_strm, iceS_own, dOr2, gNeS, and_assoc, hi, m__law_any_rules]
    exact ⟨by omega, fun l n' h1 h2 h3 h4 => h l n' h1 h2 h3 (by omega)⟩
end RH

set_option Elab.async false
set_option linter.all false
set_option maxRecDepth 100000
set_option maxHeartbeats 4000000
/-! readings, on: controls_of -/
namespace RH
open PySem PySem.Spec PyProof.Rows L2

/-- (takes, puts), as checked_rules makes them -/
def kTakes (y : D) : List D := match y with
  | .tup [.tup la, _] => la
  | _ => []
def keysOf (kn : List D) : List D := .tup [] :: kn.flatMap fun y => begins (kTakes y)
def m_controls_of : FM := fun ds n Ψ => ∃ kn, ds = [.lst kn] ∧ kn.length ≤ 100 ∧ (∀ y ∈ kn, ∃ la lb, y = .tup [.tup la, .tup lb] ∧ la.length ≤ 100 ∧ hards la = true ∧ ∀ k, (nk (.tup (la.take k))).depth ≤ 8) ∧ SortsC (onceD [] (keysOf kn)) ∧ Ψ (.new ((onceD [] (keysOf kn)).mergeSort leD)) n
def ctlT (K : PySem.W.Frag) (w : World) : TS :=
  tSeq (tAsg (tDispN1 K w (tTup tNil) (tC (V.bl true))) (gName 1))
    (tSeq (tFor (iList K (tVar 0)) (gTup K 2 (gCons (gName 2) (gCons (gName 3) gNil)))
        (tDrop (tUpdN K w (tVar 1) (tDcN K w (iRng1 (tCons (tCB (fun xs H Q => ∃ x n, xs = [x] ∧ LenV K x H n ∧ Q (V.int ↑n) H) (tCons (tVar 2) tNil)) tNil)) (gName 4) tYes (tSl (rSlT K) (tVar 2) tNoPart (tPart (tVar 4))) (tC (V.bl true)) [4]))))
      (tRet (tCB (rSortN K w) (tCons (tVar 1) tNil))))
/-! ### the keys: putN goes as onceD -/
def KeysAt (K : PySem.W.Frag) (B : Hp) (xs : List NK) (l : List D) : Prop := Paired (fun x d => (∃ m, d = .tup m ∧ hard (.tup m) = true ∧ (nk (.tup m)).depth ≤ 8) ∧ x.1 = nk d ∧ RD K B d (.ref x.2)) xs l
theorem KeysAt.mem {K : PySem.W.Frag} {B : Hp} : ∀ {xs : List NK} {l : List D}, KeysAt K B xs l → ∀ {y : D}, hard y = true → (decide (nk y ∈ xs.map (·.1)) = inD y l)
  | [], _, h, y, _ => by cases h; rfl
  | x :: xs, _, h, y, hy => by
    cases h with
    | @cons _ d _ l h1 h2 =>
    obtain ⟨⟨m, rfl, hm, _⟩, e, _⟩ := h1
    have ih := KeysAt.mem h2 hy
    have e2 : decide (nk y = x.1) = PyData.eqv (py (.tup m)) (py y) := by
      rw [e, ← nk_eqv (.tup m) y hm hy, ← NestedKey.decide_eq]
      exact decide_eq_decide.mpr eq_comm
    show decide (nk y ∈ x.1 :: xs.map (·.1)) = (PyData.eqv (py (.tup m)) (py y) || inD y l)
    rw [← ih, ← e2]
    by_cases h : nk y = x.1
    · simp [h]
    · simp [h]
theorem Paired.snoc {α β : Type} {R : α → β → Prop} : ∀ {xs : List α} {ys : List β} {x : α} {y : β}, Paired R xs ys → R x y → Paired R (xs ++ [x]) (ys ++ [y])
  | _, _, _, _, .nil, h => .cons h .nil
  | _, _, _, _, .cons h t, h' => .cons h (Paired.snoc t h')
theorem KeysAt.put {K : PySem.W.Frag} {B : Hp} {xs : List NK} {l : List D} (h : KeysAt K B xs l) {m : List D} {a : Addr} (hm : hard (.tup m) = true) (hd : (nk (.tup m)).depth ≤ 8) (hr : RD K B (.tup m) (.ref a)) : KeysAt K B (putN xs (nk (.tup m)) a) (l ++ if (!inD (.tup m) l) = true then [.tup m] else []) := by
  have e := h.mem hm
  unfold putN
  by_cases hin : nk (.tup m) ∈ xs.map (·.1)
  · have : inD (.tup m) l = true := by rw [← e]; exact decide_eq_true hin
    rw [if_pos hin, this]
    simpa using h
  · have : inD (.tup m) l = false := by rw [← e]; exact decide_eq_false hin
    rw [if_neg hin, this]
    exact Paired.snoc h ⟨⟨m, rfl, hm, hd⟩, rfl, hr⟩
theorem KeysAt.mono {K : PySem.W.Frag} {B B' : Hp} (s : Same B B') {xs : List NK} {l : List D} (h : KeysAt K B xs l) : KeysAt K B' xs l := Paired.mapP h fun _ _ ⟨a, b, c⟩ => ⟨a, b, RD.mono s _ _ c⟩
theorem KeysAt.keys {K : PySem.W.Frag} {B H : Hp} (s : Same B H) : ∀ {xs : List NK} {l : List D}, KeysAt K B xs l → ∀ x ∈ xs, KeyN K H x
  | _, _, .cons ⟨⟨m, e, hm, hd⟩, ek, hr⟩ t, x, hx => by
    subst e
    rcases List.mem_cons.mp hx with z | z
    · subst z
      exact ⟨m, ek, RD.mono s _ _ hr, hm, hd⟩
    · exact KeysAt.keys s t x z
  | _, _, .nil, x, hx => by cases hx
/-- merging goes as going on with once -/
theorem KeysAt.merge {K : PySem.W.Frag} {B : Hp} : ∀ {more : List NK} {m : List D} {xs : List NK} {l : List D}, KeysAt K B xs l → KeysAt K B more m → KeysAt K B (mergeN xs more) (onceD l m)
  | _, _, xs, l, h, .nil => h
  | _, _, xs, l, h, .cons (a := x) (b := d) ⟨⟨m, e, hm, hd⟩, ek, hr⟩ t => by
    subst e
    obtain ⟨k, a⟩ := x
    have ek : k = nk (.tup m) := ek
    subst ek
    have hp := h.put hm hd hr
    exact KeysAt.merge (xs := putN xs (nk (.tup m)) a) (l := l ++ if (!inD (.tup m) l) = true then [.tup m] else []) hp t
end RH

set_option Elab.async false
set_option linter.all false
set_option maxRecDepth 100000
set_option maxHeartbeats 4000000
/-! begins la: all unlike -/
namespace RH
open PySem PySem.Spec PyProof.Rows L2

theorem eqL_len : ∀ {l m : List D}, l.length ≠ m.length → eqL l m = false
  | [], [], h => absurd rfl h
  | [], _ :: _, _ => rfl
  | _ :: _, [], _ => by show PyData.eqvAll (_ :: _) [] = false; simp [PyData.eqvAll]
  | x :: l, y :: m, h => by
    have : PyData.eqvAll (pys l) (pys m) = false := eqL_len fun e => h (by simp [e])
    show PyData.eqvAll (_ :: pys l) (_ :: pys m) = false
    rw [PyData.eqvAll, this]
    simp
theorem onceD_unlike : ∀ (l acc : List D), (∀ x ∈ l, inD x acc = false) → l.Pairwise (fun x y => PyData.eqv (py x) (py y) = false) → onceD acc l = acc ++ l
  | [], acc, _, _ => by simp [onceD]
  | x :: l, acc, h, hp => by
    rw [List.pairwise_cons] at hp
    have h0 := h x (List.mem_cons_self ..)
    show onceD (acc ++ if (!inD x acc) = true then [x] else []) l = _
    rw [h0]
    show onceD (acc ++ [x]) l = _
    rw [onceD_unlike l (acc ++ [x]) (fun y hy => ?_) hp.2, List.append_assoc]
    · rfl
    · have e1 := h y (List.mem_cons_of_mem _ hy)
      have e2 := hp.1 y hy
      unfold inD at e1 ⊢
      rw [List.any_append, e1]
      simp [e2]
theorem begins_unlike (la : List D) : (begins la).Pairwise fun x y => PyData.eqv (py x) (py y) = false := by
  unfold begins
  rw [List.pairwise_map]
  refine List.Pairwise.imp_of_mem (fun {i j} hi hj hij => ?_) List.pairwise_lt_range
  rw [eqv_tup]
  refine eqL_len ?_
  have h1 := List.mem_range.mp hi
  have h2 := List.mem_range.mp hj
  rw [List.length_take, List.length_take]
  omega
theorem onceD_begins (la : List D) : onceD [] (begins la) = begins la := by
  rw [onceD_unlike _ _ (fun _ _ => rfl) (begins_unlike la)]
  rfl
theorem onceD_append : ∀ (l m acc : List D), onceD acc (l ++ m) = onceD (onceD acc l) m
  | [], _, _ => rfl
  | x :: l, m, acc => onceD_append l m _
end RH

set_option Elab.async false
set_option linter.all false
set_option maxRecDepth 100000
set_option maxHeartbeats 4000000
/-! controls_of: the comprehension -/
namespace RH
open PySem PySem.Spec PyProof.Rows L2

theorem Paired.len {α β : Type} {R : α → β → Prop} : ∀ {xs : List α} {ys : List β}, Paired R xs ys → xs.length = ys.length
  | _, _, .nil => rfl
  | _, _, .cons _ t => by simp [Paired.len t]
theorem same_new {B H H' : Hp} {p : Addr} {o : HO} (s : Same B H) (hp : H p = none) : Same B (upd B p o) := fun b u e => by
  have : b ≠ p := fun h => by
    subst h
    rw [s _ _ e] at hp
    cases hp
  show upd B p o b = some u
  unfold upd
  rw [if_neg this]
  exact e
theorem same_newH {H : Hp} {p : Addr} {o : HO} (hp : H p = none) : Same H (upd H p o) := same_new (Same.refl H) (H' := H) hp
theorem same_both {B H : Hp} {p : Addr} {o : HO} (s : Same B H) : Same (upd B p o) (upd H p o) := fun b u e => by
  unfold upd at e ⊢
  split at e
  · rename_i h; rw [if_pos h]; exact e
  · rename_i h; rw [if_neg h]; exact s _ _ e
/-- H is written at p, where B holds nothing -/
theorem same_at {B H : Hp} {p : Addr} {o : HO} (s : Same B H) (hp : B p = none) : Same B (upd H p o) := fun b u e => by
  have : b ≠ p := fun h => by
    subst h
    rw [e] at hp
    cases hp
  unfold upd
  rw [if_neg this]
  exact s _ _ e
theorem upd_at {H : Hp} {p : Addr} {o : HO} : upd H p o p = some o := by unfold upd; rw [if_pos rfl]
theorem upd_ne {H : Hp} {p b : Addr} {o : HO} (h : b ≠ p) : upd H p o b = H b := by unfold upd; rw [if_neg h]
theorem cutV_take (xs : List V) (k : Nat) : cutV xs none (some (k : Int)) = xs.take k := by
  unfold cutV
  rw [HT.sIx_none, HT.sIx_nat]
  simp [List.take_take, Nat.min_comm]
theorem hards_take {l : List D} {k : Nat} (h : hards l = true) : hards (l.take k) = true := hards_iff.mpr fun x hx => hards_iff.mp h x (List.mem_of_mem_take hx)
theorem begins_take (la : List D) (j : Nat) (h : j < la.length) : (begins la).take (j + 1) = (begins la).take j ++ [.tup (la.take j)] := by
  have hl : j < (begins la).length := by unfold begins; simpa using h
  have e : (begins la)[j] = .tup (la.take j) := by simp [begins]
  rw [List.take_succ_eq_append_getElem hl, e]
theorem begins_len (la : List D) : (begins la).length = la.length := by unfold begins; simp
theorem begins_fresh (la : List D) (j : Nat) (h : j < la.length) : inD (.tup (la.take j)) ((begins la).take j) = false := by
  unfold inD
  rw [List.any_eq_false]
  intro z hz
  unfold begins at hz
  rw [← List.map_take, List.mem_map] at hz
  obtain ⟨i, hi, rfl⟩ := hz
  have hi' : i < j := by
    rw [List.take_range] at hi
    have := List.mem_range.mp hi
    omega
  rw [eqv_tup, eqL_len]
  · simp
  · rw [List.length_take, List.length_take]
    omega
def dcB (K : PySem.W.Frag) (w : World) : TE := tDcN K w (iRng1 (tCons (tCB (fun xs H Q => ∃ x n, xs = [x] ∧ LenV K x H n ∧ Q (V.int ↑n) H) (tCons (tVar 2) tNil)) tNil)) (gName 4) tYes (tSl (rSlT K) (tVar 2) tNoPart (tPart (tVar 4))) (tC (V.bl true)) [4]
def DcW (K : PySem.W.Frag) (w : World) (la : List D) (B H : Hp) (D : Addr) (j m : Nat) (H1 : Hp) : Prop := j ≤ la.length ∧ m = la.length - j ∧ ∃ (B1 : Hp) (ys : List NK), Same B B1 ∧ Same B1 H1 ∧ B1 D = none ∧ Same H H1 ∧ (∀ a, H a ≠ none → B a = none → B1 a = none) ∧ H1 D = some (dNO w D ys) ∧ KeysAt K B1 ys ((begins la).take j)
theorem dcB_run {K : PySem.W.Frag} {w : World} {σ : L2.St} {B H : Hp} {Q : VK} {c : Addr} {la : List D} {ws : List V} (s : Same B H) (hσ : σ.length = 5) (h2 : σ[2]? = some (some (.ref c))) (hc : SqT K B c ws) (hw : RDs K B la ws) (hl : la.length ≤ 100) (hh : hards la = true) (hd : ∀ k, (nk (.tup (la.take k))).depth ≤ 8)
    (q : ∀ (D : Addr) (H' B' : Hp) (ys : List NK), Same B B' → Same B' H' → H D = none → B' D = none → Same H H' → (∀ a, H a ≠ none → B a = none → B' a = none) → H' D = some (dNO w D ys) → KeysAt K B' ys (begins la) → Q (.ref D) H') : dcB K w σ H Q := by
  have hlen := hw.len
  refine ⟨_, h2, _, ws.length, rfl, .inr ⟨ws, sameT s hc, rfl⟩, (ws.length : Int), rfl, by omega, by omega, fun D hD => ?_⟩
  refine ⟨DcW K w la B H D, ⟨_, Nat.zero_le _, rfl, B, [], Same.refl B, same_at s (s.free hD), s.free hD, same_newH hD, fun _ _ e => e, upd_at, .nil⟩, ?_⟩
  rintro j m H1 ⟨hj, rfl, B1, ys, s1, s2, b1, s3, fr, e1, ky⟩
  by_cases hjl : j < la.length
  · refine .inr ⟨by show j < _; rw [Int.toNat_natCast]; omega, fun H' => ∃ m', m' < la.length - j ∧ DcW K w la B H D (j + 1) m' H', fun H' h => h, ?_⟩
    rintro x H9 ⟨e9, rfl⟩
    have e9 := e9.symm
    subst e9
    have g2 : (((wipe σ [4]).set 4 (some (.int (0 + (j : Int))))))[2]? = some (some (.ref c)) := by
      show ((σ.set 4 none).set 4 _)[2]? = _
      rw [List.getElem?_set_ne (by decide), List.getElem?_set_ne (by decide)]
      exact h2
    have g4 : (((wipe σ [4]).set 4 (some (.int (0 + (j : Int))))))[4]? = some (some (.int (0 + (j : Int)))) := by
      rw [List.getElem?_set_self (by rw [wipe_length, hσ]; decide)]
    refine ⟨by show ((((σ.set 4 none).set 4 _) : L2.St).set 4 none) = σ.set 4 none; rw [List.set_set, List.set_set], ?_⟩
    unfold tYes
    dsimp only
    rw [if_pos rfl]
    refine ⟨_, g2, _, g4, _, rfl, c, ws, rfl, sameT (s1.trans s2) hc, ?_, fun p hp => ?_⟩
    · show ¬ (HT.sIx ws.length 0 none = 0 ∧ HT.sIx ws.length ws.length (some (0 + (j : Int))) = ws.length)
      rw [Int.zero_add, HT.sIx_none, HT.sIx_nat]
      omega
    have e0 : cutV ws none (some (0 + (j : Int))) = ws.take j := by rw [Int.zero_add]; exact cutV_take ws j
    rw [e0]
    have hp1 : B1 p = none := s2.free hp
    have hpD : p ≠ D := fun h => by subst h; rw [e1] at hp; cases hp
    have sB : Same B1 (upd B1 p (.tup (ws.take j))) := same_newH hp1
    have rk : RD K (upd B1 p (.tup (ws.take j))) (.tup (la.take j)) (.ref p) := ⟨p, ws.take j, rfl, .inl (.inl upd_at), RDs.mono (s1.trans sB) _ _ (hw.take j)⟩
    have hm : hard (.tup (la.take j)) = true := hards_take hh
    have ky' := (ky.mono sB).put hm (hd j) rk
    have sH : Same (upd B1 p (.tup (ws.take j))) (upd H1 p (.tup (ws.take j))) := same_both s2
    have eD : upd H1 p (.tup (ws.take j)) D = some (dNO w D ys) := by rw [upd_ne (Ne.symm hpD)]; exact e1
    have bD : upd B1 p (.tup (ws.take j)) D = none := by rw [upd_ne (Ne.symm hpD)]; exact b1
    have hly := Paired.len ky
    rw [List.length_take, begins_len] at hly
    refine ⟨ys, nk (.tup (la.take j)), p, rfl, rfl, ⟨la.take j, rfl, RD.mono sH _ _ rk, hm, hd j⟩, eD, (ky.mono sB).keys sH, ?_, _, ?_, by omega, rfl, upd B1 p (.tup (ws.take j)), _, s1.trans sB, same_at sH bD, bD, ?_, fun a ha hb => ?_, upd_at, ?_⟩
    · have : (100 : Nat) < sizeLine := by decide
      omega
    · omega
    · refine fun b u e => ?_
      have n1 : b ≠ p := fun h => by subst h; rw [s3 _ _ e] at hp; cases hp
      have n2 : b ≠ D := fun h => by subst h; rw [hD] at e; cases e
      rw [upd_ne n2, upd_ne n1]
      exact s3 _ _ e
    · have n1 : a ≠ p := fun h => by
        subst h
        cases e : H a with
        | none => exact ha e
        | some u => rw [s3 _ _ e] at hp; cases hp
      rw [upd_ne n1]
      exact fr a ha hb
    · rw [begins_fresh la j hjl] at ky'
      rw [begins_take la j hjl]
      exact ky'
  · have : j = la.length := by omega
    subst this
    refine .inl ⟨by show _ ≤ _; rw [Int.toNat_natCast]; omega, ?_⟩
    rw [List.take_of_length_le (by rw [begins_len]; exact Nat.le_refl _)] at ky
    exact q D H1 B1 ys s1 s2 hD b1 s3 fr e1 ky
end RH

set_option Elab.async false
set_option linter.all false
set_option maxRecDepth 100000
set_option maxHeartbeats 4000000
/-! controls_of: the whole -/
namespace RH
open PySem PySem.Spec PyProof.Rows L2

theorem KeysAt.zip {K : PySem.W.Frag} {B : Hp} : ∀ {xs : List NK} {l : List D}, KeysAt K B xs l → ∃ bs : List PD, bs.map (·.1) = xs.map (fun x => V.ref x.2) ∧ bs.map (·.2) = l ∧ ∀ b ∈ bs, RD K B b.2 b.1
  | _, _, .nil => ⟨[], rfl, rfl, fun _ h => by cases h⟩
  | _, _, .cons (a := x) (b := d) ⟨_, _, h⟩ t => by
    obtain ⟨bs, e1, e2, e3⟩ := KeysAt.zip t
    refine ⟨(.ref x.2, d) :: bs, by simp [e1], by simp [e2], fun b hb => ?_⟩
    rcases List.mem_cons.mp hb with rfl | hb
    · exact h
    · exact e3 b hb
def keysTo (kn : List D) (i : Nat) : List D := onceD [] (.tup [] :: (kn.take i).flatMap fun y => begins (kTakes y))
theorem keysTo_step {kn : List D} {i : Nat} {y : D} (h : kn[i]? = some y) : keysTo kn (i + 1) = onceD (keysTo kn i) (begins (kTakes y)) := by
  unfold keysTo
  rw [List.take_succ, h, List.flatMap_append, ← List.cons_append, onceD_append]
  simp
theorem keysTo_all (kn : List D) : keysTo kn kn.length = onceD [] (keysOf kn) := by
  unfold keysTo keysOf
  rw [List.take_length]
def CtW (K : PySem.W.Frag) (w : World) (kn : List D) (B H : Hp) (a p : Addr) (i m : Nat) (σ : L2.St) (H1 : Hp) : Prop := i ≤ kn.length ∧ m = kn.length - i ∧ σ[0]? = some (some (.ref a)) ∧ σ[1]? = some (some (.ref p)) ∧ σ.length = 5 ∧
  ∃ (B1 : Hp) (xs : List NK), Same B B1 ∧ Same B1 H1 ∧ B1 p = none ∧ Same H H1 ∧ (∀ a, H a ≠ none → B a = none → B1 a = none) ∧ H1 p = some (dNO w p xs) ∧ KeysAt K B1 xs (keysTo kn i) ∧ xs ≠ [] ∧ xs.length ≤ 1 + 100 * i
theorem mergeN_ne : ∀ {more xs : List NK}, xs ≠ [] → mergeN xs more ≠ []
  | [], _, h => h
  | m :: more, xs, h => by
    show mergeN (putN xs m.1 m.2) more ≠ []
    refine mergeN_ne ?_
    unfold putN
    split
    · exact h
    · simp
theorem ctlT_run {K : PySem.W.Frag} {w : World} {vs : List V} {H : Hp} {Q : VK} {E : XK} (h : spF K false 1 m_controls_of vs H Q E) : ctlT K w { nx := fun _ H' => Q .non H', rt := Q } (L2.start ["known", "found", "takes", "_", "many"] vs) H := by
  obtain ⟨z, B, ds, ws, n, Ψ, e1, e2, e3, e4, s, e6, e7, e8⟩ := h
  cases z with
  | some _ => cases e1
  | none =>
  obtain ⟨kn, ed, hk, hy, hs, hΨ⟩ := e7
  subst ed
  obtain ⟨v, r, ew, ev, er⟩ := e3
  have er : r = [] := er
  obtain ⟨a, us, ev, ha, hus⟩ := ev
  subst er ev ew
  have e2 : vs = [V.ref a] := e2
  subst e2
  have h0 : (L2.start ["known", "found", "takes", "_", "many"] [V.ref a])[0]? = some (some (.ref a)) := rfl
  have h5 : (L2.start ["known", "found", "takes", "_", "many"] [V.ref a]).length = 5 := rfl
  generalize L2.start ["known", "found", "takes", "_", "many"] [V.ref a] = σ0 at h0 h5 ⊢
  have hlu := hus.len
  refine fun p hp => ⟨Nat.zero_le _, fun p1 hp1 => ?_⟩
  have n1 : p1 ≠ p := fun h => by subst h; rw [upd_at] at hp1; cases hp1
  have hp1' : H p1 = none := by rw [upd_ne n1] at hp1; exact hp1
  have sB : Same B (upd B p1 (.tup [])) := same_newH (s.free hp1')
  have bp : upd B p1 (.tup []) p = none := by rw [upd_ne (Ne.symm n1)]; exact s.free hp
  have s1 : Same (upd B p1 (.tup [])) (upd (upd H p (dNO w p [])) p1 (.tup [])) := same_both (same_at s (s.free hp))
  have rk : RD K (upd B p1 (.tup [])) (.tup []) (.ref p1) := ⟨p1, [], rfl, .inl (.inl upd_at), rfl⟩
  have d0 : (nk (.tup [])).depth ≤ 8 := by decide
  refine ⟨nk (.tup []), p1, rfl, rfl, ⟨[], rfl, RD.mono s1 _ _ rk, rfl, d0⟩, by rw [upd_ne (Ne.symm n1)]; exact upd_at, ?_⟩
  have big : Same H (upd (upd (upd H p (dNO w p [])) p1 (.tup [])) p (dNO w p [(nk (.tup []), p1)])) := fun b u e => by
    have m1 : b ≠ p := fun h => by subst h; rw [hp] at e; cases e
    have m2 : b ≠ p1 := fun h => by subst h; rw [hp1'] at e; cases e
    rw [upd_ne m1, upd_ne m2, upd_ne m1]
    exact e
  have z0 : ∀ v, (σ0.set 1 v)[0]? = some (some (.ref a)) := fun v => by rw [List.getElem?_set_ne (by decide)]; exact h0
  refine ⟨_, z0 _, a, rfl, ⟨us, .inl (.inl ((s.trans big) _ _ ha))⟩, ?_⟩
  refine ⟨CtW K w kn B H a p, ⟨_, Nat.zero_le _, rfl, z0 _, ?_, ?_, upd B p1 (.tup []), [(nk (.tup []), p1)], sB, same_at s1 bp, bp, big, fun b hb hn => ?_, upd_at, .cons ⟨⟨[], rfl, rfl, d0⟩, rfl, rk⟩ .nil, by simp, by simp⟩, ?_⟩
  · rw [List.getElem?_set_self (by rw [h5]; decide)]
  · rw [List.length_set]; exact h5
  · have m2 : b ≠ p1 := fun h => by subst h; exact hb hp1'
    rw [upd_ne m2]
    exact hn
  rintro i m σ H1 ⟨hi, rfl, g0, g1, g5, B1, xs, t1, t2, b1, t3, fr, ep, ky, hne, hxl⟩
  have hq : SqL K H1 a us := .inl (.inl ((t1.trans t2) _ _ ha))
  by_cases hlt : i < kn.length
  · refine .inr ⟨⟨us, _, hq, List.getElem?_eq_getElem (by omega)⟩, fun σ' H' => ∃ m', m' < kn.length - i ∧ CtW K w kn B H a p (i + 1) m' σ' H', fun _ _ h => h, ?_⟩
    rintro x H9 ⟨e9, hx⟩
    have e9 := e9.symm
    subst e9
    obtain ⟨y, hyi, ry⟩ := hus.getV (hx us hq)
    obtain ⟨la, lb, ey, hl, hh, hd⟩ := hy y (List.mem_of_getElem? hyi)
    subst ey
    obtain ⟨c, ps, ex, hc, v1, r1, ep1, ⟨c1, ws1, ev1, hc1, hw1⟩, v2, r2, ep2, _, er2⟩ := ry
    have er2 : r2 = [] := er2
    subst er2 ep2 ep1 ex ev1
    refine ⟨c, [.ref c1, v2], rfl, sameT (t1.trans t2) hc, rfl, .ref c1, [v2], rfl, v2, [], rfl, rfl, ?_⟩
    have k0 : ((σ.set 2 (some (.ref c1))).set 3 (some v2))[0]? = some (some (.ref a)) := by rw [List.getElem?_set_ne (by decide), List.getElem?_set_ne (by decide)]; exact g0
    have k1 : ((σ.set 2 (some (.ref c1))).set 3 (some v2))[1]? = some (some (.ref p)) := by rw [List.getElem?_set_ne (by decide), List.getElem?_set_ne (by decide)]; exact g1
    have k2 : ((σ.set 2 (some (.ref c1))).set 3 (some v2))[2]? = some (some (.ref c1)) := by rw [List.getElem?_set_ne (by decide), List.getElem?_set_self (by omega)]
    have k5 : ((σ.set 2 (some (.ref c1))).set 3 (some v2)).length = 5 := by rw [List.length_set, List.length_set]; exact g5
    refine ⟨_, k1, p, rfl, ⟨xs, ep⟩, ?_⟩
    refine dcB_run (B := B1) t2 k5 k2 (sameT t1 hc1) (RDs.mono t1 _ _ hw1) hl hh hd fun D H' B' ys u1 u2 hD bD u3 fr' eD ky' => ?_
    have bp' : B' p = none := fr' p (fun h => by rw [ep] at h; cases h) b1
    have hly := Paired.len ky'
    rw [begins_len] at hly
    have hm := KeysAt.merge (ky.mono u1) ky'
    have hml := Paired.len hm
    have hol := onceD_len (begins la) (keysTo kn i)
    have hlx := Paired.len ky
    have hbl := begins_len la
    have hz : 20000 ≤ sizeLine := by decide
    refine ⟨D, xs, ys, rfl, (fun h => by subst h; rw [ep] at hD; cases hD), u3 _ _ ep, eD, (ky.mono u1).keys u2, ky'.keys u2, hne, by omega, kn.length - (i + 1), by omega, by omega, rfl, k0, k1, k5, B', mergeN xs ys, t1.trans u1, same_at u2 bp', bp', same_at (t3.trans u3) hp, fun b hb hn => ?_, upd_at, ?_, mergeN_ne hne, by omega⟩
    · refine fr' b (fun h => ?_) (fr b hb hn)
      cases e : H b with
      | none => exact hb e
      | some u => rw [t3 _ _ e] at h; cases h
    · rw [keysTo_step hyi]
      exact hm
  · have : i = kn.length := by omega
    subst this
    refine .inl ⟨⟨us, hq, by omega⟩, _, g1, p, xs, ?_⟩
    obtain ⟨bs, q1, q2, q3⟩ := ky.zip
    rw [keysTo_all] at q2
    have em : (bs.map encP) = (bs.map (·.2)).map py := by rw [List.map_map]; rfl
    rw [← q2] at hs hΨ
    refine ⟨bs, rfl, ep, q1, fun b hb => ?_, fun d hd => ?_, fun d hd d' hd' => ?_, by rw [em]; exact hs.able, fun p2 hp2 => ?_⟩
    · obtain ⟨p1, p2, p3⟩ := hs.each b.2 (List.mem_map.mpr ⟨b, hb, rfl⟩)
      exact ⟨RD.mono t2 _ _ (q3 b hb), p1, p3⟩
    · obtain ⟨b, hb, rfl⟩ := List.mem_map.mp hd
      exact (hs.each b.2 (List.mem_map.mpr ⟨b, hb, rfl⟩)).2.1
    · obtain ⟨b, hb, rfl⟩ := List.mem_map.mp hd
      obtain ⟨b', hb', rfl⟩ := List.mem_map.mp hd'
      exact hs.cmp b.2 (List.mem_map.mpr ⟨b, hb, rfl⟩) b'.2 (List.mem_map.mpr ⟨b', hb', rfl⟩)
    · have hp2H : H p2 = none := t3.free hp2
      refine e8 _ n _ _ B1 hΨ t1 (same_at t2 (t2.free hp2)) fr (fun b u e _ => same_at t3 hp2H _ _ e) True.intro ⟨p2, _, rfl, hp2H, t2.free hp2, upd_at, ?_⟩
      have e6 : (bs.mergeSort (PySem.W.dataLe false encP)).map (·.2) = (bs.map (·.2)).mergeSort leD := List.map_mergeSort fun x _ y _ => rfl
      rw [← e6]
      exact RDs.unzip fun b hb => q3 b ((List.mergeSort_perm _ _).mem_iff.mp hb)
end RH

set_option Elab.async false
set_option linter.all false
set_option maxRecDepth 100000
set_option maxHeartbeats 4000000
/-! readings: controls -/
namespace RH
open PySem PySem.Spec PyProof.Rows L2

def m_controls : FM := fun ds n Ψ => ∃ x l, ds = [x] ∧ seqD x = some l ∧ l.length ≤ 100 ∧ (∀ y ∈ l, Rule y) ∧ (∀ y ∈ l.map ruleD, ∃ la lb, y = .tup [.tup la, .tup lb] ∧ la.length ≤ 100 ∧ hards la = true ∧ ∀ k, (nk (.tup (la.take k))).depth ≤ 8) ∧ SortsC (onceD [] (keysOf (l.map ruleD))) ∧ Ψ (.new ((onceD [] (keysOf (l.map ruleD))).mergeSort leD)) n
def w_controls : DTS :=
  (dRet (dCall false 1 m_controls_of (dCons (dCall false 1 m_checked_rules (dCons (dVar 0) dNil)) dNil)))
theorem rd_controls : ∀ ds n Ψ, ds.length = 1 → m_controls ds n Ψ → w_controls (fnStart false ds 0 n) (fnEnds Ψ) := by
  rintro ds n Ψ - ⟨x, l, rfl, hs, hlen, h1, h2, h3, h⟩
  have e1 : l.length ≤ 1000000 := by omega
  simp [dRet, dAndV, dOrV, dNotV, dIsi, dVar, dC, dOp, dCB, dCons, dNil, dLst, dTup, dSeq, dIfS, dOr, dAnd, dNot, dTest, dChain, dInG, gLen, gI0, gEq, gIx, gList, gTuple, gBls, look_val, look_own, fz_val, fz_own, fzs_nil, fzs_cons, fnStart, fnEnds, ret_val, ret_own, gCall, dCall, resume_val, resume_new, dSet, dgName, dgCons, dgNil, dgTup, dgSeq, DS.put, DS.new, DS.trim, trimS_un, trimS_val, trimS_strm, trimS_own, wipeR, dYes, seqD_lst, seqD_tup, iterD_lst, iterD_tup, iterD_str, lenD_lst, lenD_tup, lenD_str, tyD_non, tyD_bl, tyD_int, tyD_str, tyD_lst, tyD_tup, tyD_dic, isiD, flatD_non, flatD_bl, flatD_int, flatD_str, atD_lst, atD_tup, dPar, dIf, dDrop, dBM, gAppend, gExtend, gPopAt, gClear, diSeq, diRng1, diRng2, diEnum, diZip, dSl, dPart, dNo, gSl, gInS, gIn, gPlus, gOr, gCat, gCatS, gTimes, gRep, gI, blsD, putAll, dParT, dStar, DS.ice, iceS_un, iceS_val, iceS_strm, iceS_own, dOr2, gNeS, and_assoc, w_controls, m_checked_rules, hs, e1, m_controls_of, hlen, h3, h]
  exact ⟨h1, by simpa using h2⟩
end RH

set_option Elab.async false
set_option linter.all false
set_option maxRecDepth 100000
set_option maxHeartbeats 4000000
/-! loose forms of drawn rules are kept alike -/
namespace RH
open PySem PySem.Spec PyProof.Rows L2

theorem goodL_tup {z : D} (h : goodL z) : ∃ l, z = .tup l := by
  rcases h with rfl | rfl | rfl | ⟨k, _, _, rfl⟩ <;> exact ⟨_, rfl⟩
theorem loose_atomX {n : Nat} {x y : D} (h : seqD x = none) (hl : loose n x y) : y = x := by
  cases n with
  | zero => exact hl
  | succ n =>
    unfold loose at hl
    rw [h] at hl
    exact hl
theorem loose_layer {n : Nat} {z y : D} (hz : goodL z) (h : loose (n + 1) z y) : tupD y = z := by
  obtain ⟨a, b, rfl, ha, hb⟩ : ∃ a b, z = .tup [a, b] ∧ seqD a = none ∧ seqD b = none := by
    rcases hz with rfl | rfl | rfl | ⟨k, _, _, rfl⟩ <;> exact ⟨_, _, rfl, rfl, rfl⟩
  obtain ⟨m, hm, hl, h⟩ := h
  match m, hl with
  | [a', b'], _ =>
    cases loose_atomX ha (h 0 _ _ rfl rfl)
    cases loose_atomX hb (h 1 _ _ rfl rfl)
    rcases hm with rfl | rfl <;> rfl
theorem loose_layers {n : Nat} {la : List D} (hg : ∀ z ∈ la, goodL z) {x y : D} (hx : seqD x = some la) (h : loose (n + 2) x y) : keptD y = .tup la := by
  unfold loose at h
  rw [hx] at h
  obtain ⟨m, hm, hl, h⟩ := h
  have e : m.map tupD = la := by
    refine List.ext_getElem (by rw [List.length_map]; exact hl) fun i h1 h2 => ?_
    rw [List.getElem_map]
    exact loose_layer (hg la[i] (List.getElem_mem h2)) (h i la[i] (m[i]'(by simpa using h1)) (List.getElem?_eq_getElem h2) (List.getElem?_eq_getElem _))
  rcases hm with rfl | rfl
  · show D.tup (m.map tupD) = _
    rw [e]
  · show D.tup (m.map tupD) = _
    rw [e]
theorem keptD_good {la : List D} (hg : ∀ z ∈ la, goodL z) : la.map tupD = la := by
  refine (List.map_congr_left fun z hz => ?_).trans (List.map_id _)
  obtain ⟨l, rfl⟩ := goodL_tup (hg z hz)
  rfl
theorem ruleD_good {y : D} (h : Good y) : ruleD y = .tup [.tup (takesD y), .tup (putsD y)] := by
  obtain ⟨la, lb, c, rfl, _, _, ha, hb, _⟩ := h.ex
  show D.tup [.tup (la.map tupD), .tup (lb.map tupD)] = .tup [.tup la, .tup lb]
  rw [keptD_good ha, keptD_good hb]
theorem kTakes_good {y : D} (h : Good y) : kTakes (ruleD y) = takesD y := by rw [ruleD_good h]; rfl
theorem keysOf_good {l : List D} (h : ∀ y ∈ l, Good y) : keysOf (l.map ruleD) = beginsD l := by
  unfold keysOf beginsD
  rw [List.flatMap_map]
  congr 1
  have : ∀ l : List D, (∀ y ∈ l, Good y) → (l.flatMap fun y => begins (kTakes (ruleD y))) = l.flatMap fun y => begins (takesD y) := by
    intro l
    induction l with
    | nil => intro _; rfl
    | cons y l ih =>
      intro h
      rw [List.flatMap_cons, List.flatMap_cons, kTakes_good (h y (List.mem_cons_self ..)), ih fun z hz => h z (List.mem_cons_of_mem _ hz)]
  exact this l h
end RH

set_option Elab.async false
set_option linter.all false
set_option maxRecDepth 100000
set_option maxHeartbeats 4000000
/-! loose forms of drawn rules, on -/
namespace RH
open PySem PySem.Spec PyProof.Rows L2

theorem ruleD_loose {y y' : D} (h : Good y) (hl : loose 3 y y') : ruleD y' = ruleD y := by
  rw [ruleD_good h]
  obtain ⟨la, lb, c, rfl, _, _, ha, hb, _⟩ := h.ex
  obtain ⟨m, hm, hlen, hl⟩ := hl
  match m, hlen with
  | [a', b', c'], _ =>
    have h1 := loose_layers (x := .lst la) ha rfl (hl 0 (.lst la) a' rfl rfl)
    have h2 := loose_layers (x := .lst lb) hb rfl (hl 1 (.lst lb) b' rfl rfl)
    rcases hm with rfl | rfl
    · show D.tup [keptD a', keptD b'] = .tup [.tup la, .tup lb]
      rw [h1, h2]
    · show D.tup [keptD a', keptD b'] = .tup [.tup la, .tup lb]
      rw [h1, h2]
theorem rules_loose {l m : List D} (h : ∀ y ∈ l, Good y) {y' : D} (hl : loose 4 (.lst l) y') : ∃ m, seqD y' = some m ∧ m.length = l.length ∧ m.map ruleD = l.map ruleD := by
  obtain ⟨m, hm, hlen, hl⟩ := hl
  refine ⟨m, by rcases hm with rfl | rfl <;> rfl, hlen, ?_⟩
  refine List.ext_getElem (by simpa using hlen) fun i h1 h2 => ?_
  rw [List.getElem_map, List.getElem_map]
  have q1 : i < m.length := by simpa using h1
  have q2 : i < l.length := by simpa using h2
  exact ruleD_loose (h _ (List.getElem_mem q2)) (hl i _ _ (List.getElem?_eq_getElem q2) (List.getElem?_eq_getElem q1))
end RH

set_option Elab.async false
set_option linter.all false
set_option maxRecDepth 100000
set_option maxHeartbeats 4000000
/-! drawn rules are rules -/
namespace RH
open PySem PySem.Spec PyProof.Rows L2

theorem isLayer_lst (l : List D) : isLayer (.lst l) = isLayer (.tup l) := rfl
theorem isLayer_good {z : D} (h : goodL z) : isLayer z = true := by
  rcases h with rfl | rfl | rfl | ⟨k, h0, h1, rfl⟩
  · decide
  · decide
  · decide
  · simp [isLayer, isWord, isStr, isDigit, seqD_tup, h0]
    try omega
theorem isLayer_tupD {z : D} (h : isLayer (tupD z) = true) : isLayer z = true := by
  cases z <;> exact h
theorem areLayers_loose {la : List D} (hg : ∀ z ∈ la, goodL z) {y : D} (h : keptD y = .tup la) (hs : (seqD y).isSome = true) : areLayers y = true := by
  unfold keptD at h
  unfold areLayers
  cases e : seqD y with
  | none => rw [e] at hs; cases hs
  | some m =>
    rw [e] at h
    have h : m.map tupD = la := by injection h
    subst h
    exact List.all_eq_true.mpr fun z hz => isLayer_tupD (isLayer_good (hg _ (List.mem_map.mpr ⟨z, hz, rfl⟩)))
end RH

set_option Elab.async false
set_option linter.all false
set_option maxRecDepth 100000
set_option maxHeartbeats 4000000
/-! drawn rules are rules, on -/
namespace RH
open PySem PySem.Spec PyProof.Rows L2

theorem pls_all' : ∀ {n : Nat} {l : List D}, (∀ x ∈ l, pl n x = true) → pls n l = true
  | _, [], _ => rfl
  | n, x :: l, h => by
    show (pl n x && pls n l) = true
    rw [h x (List.mem_cons_self ..), pls_all' fun y hy => h y (List.mem_cons_of_mem _ hy)]
    rfl
theorem st (n : Nat) (s : Str) (h : (PyData.strOk s && decide (s.length ≤ 1000000)) = true) : pl n (.str s) = true := by cases n <;> exact h
theorem pl_good {n : Nat} {z z' : D} (h : goodL z) (hz : tupD z' = z) : pl (n + 1) z' = true := by
  have : pl (n + 1) (tupD z') = true := by
    rw [hz]
    rcases h with rfl | rfl | rfl | ⟨k, _, _, rfl⟩
    · exact pls_all' fun x hx => by rcases List.mem_cons.mp hx with rfl | hx; exact st n _ (by decide +kernel); rcases List.mem_singleton.mp hx with rfl; exact st n _ (by decide +kernel)
    · exact pls_all' fun x hx => by rcases List.mem_cons.mp hx with rfl | hx; exact st n _ (by decide +kernel); rcases List.mem_singleton.mp hx with rfl; exact st n _ (by decide +kernel)
    · exact pls_all' fun x hx => by rcases List.mem_cons.mp hx with rfl | hx; exact st n _ (by decide +kernel); rcases List.mem_singleton.mp hx with rfl; exact st n _ (by decide +kernel)
    · exact pls_all' fun x hx => by rcases List.mem_cons.mp hx with rfl | hx; exact st n _ (by decide +kernel); rcases List.mem_singleton.mp hx with rfl; cases n <;> rfl
  cases z' <;> exact this
theorem pl_kept {n : Nat} {la : List D} (hg : ∀ z ∈ la, goodL z) {y : D} (h : keptD y = .tup la) (hs : (seqD y).isSome = true) : pl (n + 2) y = true := by
  unfold keptD at h
  cases e : seqD y with
  | none => rw [e] at hs; cases hs
  | some m =>
    rw [e] at h
    have h : m.map tupD = la := by injection h
    subst h
    have k : pls (n + 1) m = true := pls_all' fun z hz => pl_good (hg _ (List.mem_map.mpr ⟨z, hz, rfl⟩)) rfl
    cases y with
    | lst l => cases e; exact k
    | tup l => cases e; exact k
    | _ => cases e
end RH

set_option Elab.async false
set_option linter.all false
set_option maxRecDepth 100000
set_option maxHeartbeats 4000000
/-! drawn rules and their loose forms are rules -/
namespace RH
open PySem PySem.Spec PyProof.Rows L2

theorem kept_few {la : List D} {y : D} (h : keptD y = .tup la) (hl : la.length ≤ 6) : few 1000000 y := fun m e => by
  unfold keptD at h
  rw [e] at h
  have h : m.map tupD = la := by injection h
  subst h
  rw [List.length_map] at hl
  omega
theorem rule_of {x a b c : D} {la lb : List D} (hx : seqD x = some [a, b, c]) (ha : keptD a = .tup la) (hb : keptD b = .tup lb) (sa : (seqD a).isSome = true) (sb : (seqD b).isSome = true) (ga : ∀ z ∈ la, goodL z) (gb : ∀ z ∈ lb, goodL z) (na : la.length ≤ 6) (nb : lb.length ≤ 6) : Rule x :=
  ⟨⟨a, b, c, hx, pl_kept (n := 59) ga ha sa, kept_few ha na, pl_kept (n := 59) gb hb sb, kept_few hb nb, areLayers_loose ga ha sa, areLayers_loose gb hb sb⟩⟩
theorem rule_good {y : D} (h : Good y) : Rule y := by
  obtain ⟨la, lb, c, rfl, na, nb, ga, gb, _⟩ := h.ex
  refine rule_of (a := .lst la) (b := .lst lb) rfl (la := la) (lb := lb) ?_ ?_ rfl rfl ga gb na nb
  · show D.tup (la.map tupD) = _; rw [keptD_good ga]
  · show D.tup (lb.map tupD) = _; rw [keptD_good gb]
theorem loose_seq {n : Nat} {l : List D} {y : D} (h : loose (n + 1) (.lst l) y) : (seqD y).isSome = true := by
  obtain ⟨m, hm, _⟩ := h
  rcases hm with rfl | rfl <;> rfl
theorem rule_loose {y y' : D} (h : Good y) (hl : loose 3 y y') : Rule y' := by
  obtain ⟨la, lb, c, rfl, na, nb, ga, gb, _⟩ := h.ex
  obtain ⟨m, hm, hlen, hl⟩ := hl
  match m, hlen with
  | [a', b', c'], _ =>
    have l1 := hl 0 (.lst la) a' rfl rfl
    have l2 := hl 1 (.lst lb) b' rfl rfl
    exact rule_of (by rcases hm with rfl | rfl <;> rfl) (loose_layers (x := .lst la) ga rfl l1) (loose_layers (x := .lst lb) gb rfl l2) (loose_seq l1) (loose_seq l2) ga gb na nb
end RH

set_option Elab.async false
set_option linter.all false
set_option maxRecDepth 100000
set_option maxHeartbeats 4000000
/-! drawn rules' takes as keys -/
namespace RH
open PySem PySem.Spec PyProof.Rows L2

theorem depth_layer {z : D} (h : goodL z) : (nk z).depth ≤ 4 := by
  rcases h with rfl | rfl | rfl | ⟨k, _, _, rfl⟩ <;> simp [nk, nks, NestedKey.depth, NestedKey.depthAll]
theorem depthAll_le {n : Nat} : ∀ {l : List D}, (∀ z ∈ l, (nk z).depth ≤ n) → NestedKey.depthAll (nks l) ≤ n
  | [], _ => by simp [nks, NestedKey.depthAll]
  | x :: l, h => by
    have h1 := h x (List.mem_cons_self ..)
    have h2 := depthAll_le (n := n) fun y hy => h y (List.mem_cons_of_mem _ hy)
    simp only [nks, NestedKey.depthAll]
    omega
theorem depth_takes {la : List D} (h : ∀ z ∈ la, goodL z) (k : Nat) : (nk (.tup (la.take k))).depth ≤ 8 := by
  have h1 := depthAll_le (n := 4) fun z hz => depth_layer (h z (List.mem_of_mem_take (i := k) hz))
  simp only [nk, NestedKey.depth]
  omega
theorem keys_good {y : D} (h : Good y) : ∃ la lb, ruleD y = .tup [.tup la, .tup lb] ∧ la.length ≤ 100 ∧ hards la = true ∧ ∀ k, (nk (.tup (la.take k))).depth ≤ 8 := by
  rw [ruleD_good h]
  obtain ⟨la, lb, c, rfl, na, nb, ga, gb, _⟩ := h.ex
  exact ⟨la, lb, rfl, by omega, hards_iff.mpr fun z hz => goodL_hard (ga z hz), depth_takes ga⟩
end RH

set_option Elab.async false
set_option linter.all false
set_option maxRecDepth 100000
set_option maxHeartbeats 4000000
/-! good layers can be sorted -/
namespace RH
open PySem PySem.Spec PyProof.Rows L2

theorem sorts_good {l : List D} (h : ∀ z ∈ l, goodL z) (hc : ∀ x ∈ l, ∀ y ∈ l, cmpb (py x) (py y) = true) : SortsC l where
  each := fun x hx => by
    obtain ⟨m, hm⟩ := goodL_tup (h x hx)
    have hp : pl 1 x = true := pl_good (n := 0) (h x hx) (by rw [hm]; rfl)
    obtain ⟨a, b, c⟩ := pl_plain 1 x hp
    exact ⟨a, b, by omega⟩
  cmp := hc
  kind := .inr fun x hx => by
    rcases h x hx with rfl | rfl | rfl | ⟨k, _, _, rfl⟩ <;> exact ⟨_, _, rfl⟩
end RH

set_option Elab.async false
set_option linter.all false
set_option maxRecDepth 100000
set_option maxHeartbeats 4000000
/-! good layers compare -/
namespace RH
open PySem PySem.Spec PyProof.Rows L2

theorem cmpb_word (k j : Int) : cmpb (py (.tup [.str "word", .int k])) (py (.tup [.str "word", .int j])) = true := by
  show cmpbAll [.str "word", .int k] [.str "word", .int j] = true
  by_cases h : k = j
  · subst h
    simp [cmpbAll, PyData.eqv]
  · simp [cmpbAll, cmpb, PyData.eqv, h]
theorem cmpb_good {x y : D} (hx : goodL x) (hy : goodL y) : cmpb (py x) (py y) = true := by
  rcases hx with rfl | rfl | rfl | ⟨k, _, _, rfl⟩ <;> rcases hy with rfl | rfl | rfl | ⟨j, _, _, rfl⟩
  all_goals first
    | exact cmpb_word _ _
    | decide +kernel
    | (simp [py, pys, cmpb, cmpbAll, PyData.eqv]; done)
    | (simp [py, pys, cmpb, cmpbAll, PyData.eqv]; decide +kernel)
end RH

set_option Elab.async false
set_option linter.all false
set_option maxRecDepth 100000
set_option maxHeartbeats 4000000
/-! prefixes of good takes compare -/
namespace RH
open PySem PySem.Spec PyProof.Rows L2

theorem eqv_word (k j : Int) (h : PyData.eqv (py (.tup [.str "word", .int k])) (py (.tup [.str "word", .int j])) = true) : k = j := by
  rw [eqv_tup] at h
  simpa [eqL, PyData.eqvAll, PyData.eqv, py, pys] using h
theorem eqv_good {x y : D} (hx : goodL x) (hy : goodL y) (h : PyData.eqv (py x) (py y) = true) : x = y := by
  rcases hx with rfl | rfl | rfl | ⟨k, _, _, rfl⟩ <;> rcases hy with rfl | rfl | rfl | ⟨j, _, _, rfl⟩
  all_goals first
    | rfl
    | (rw [eqv_word _ _ h]; done)
    | (exfalso; rw [eqv_tup] at h; revert h; simp [eqL, PyData.eqvAll, PyData.eqv, py, pys]; done)
    | (exfalso; rw [eqv_tup] at h; revert h; simp [eqL, PyData.eqvAll, PyData.eqv, py, pys]; decide +kernel)
theorem cmpbAll_good : ∀ {l m : List D}, (∀ z ∈ l, goodL z) → (∀ z ∈ m, goodL z) → cmpbAll (pys l) (pys m) = true
  | [], _, _, _ => by show cmpbAll [] _ = true; simp [cmpbAll]
  | _ :: _, [], _, _ => by show cmpbAll (_ :: _) [] = true; simp [cmpbAll]
  | x :: l, y :: m, h1, h2 => by
    have gx := h1 x (List.mem_cons_self ..)
    have gy := h2 y (List.mem_cons_self ..)
    have ih := cmpbAll_good (fun z hz => h1 z (List.mem_cons_of_mem _ hz)) fun z hz => h2 z (List.mem_cons_of_mem _ hz)
    show cmpbAll (py x :: pys l) (py y :: pys m) = true
    rw [cmpbAll]
    split
    · rename_i e
      rw [eqv_good gx gy e, ih]
      simp
    · exact cmpb_good gx gy
end RH

set_option Elab.async false
set_option linter.all false
set_option maxRecDepth 100000
set_option maxHeartbeats 4000000
/-! the begins of good takes can be sorted -/
namespace RH
open PySem PySem.Spec PyProof.Rows L2

theorem onceD_pre : ∀ (l acc : List D), ∃ r, onceD acc l = acc ++ r
  | [], acc => ⟨[], by simp [onceD]⟩
  | x :: l, acc => by
    obtain ⟨r, e⟩ := onceD_pre l (acc ++ if (!inD x acc) = true then [x] else [])
    exact ⟨_, by rw [onceD, e, List.append_assoc]⟩
theorem beginsD_mem {l : List D} (h : ∀ y ∈ l, Good y) {z : D} (hz : z ∈ beginsD l) : ∃ m, z = .tup m ∧ ∀ x ∈ m, goodL x := by
  rcases List.mem_cons.mp hz with rfl | hz
  · exact ⟨[], rfl, fun x hx => by cases hx⟩
  · obtain ⟨y, hy, hz⟩ := List.mem_flatMap.mp hz
    obtain ⟨la, lb, c, rfl, _, _, ga, _, _⟩ := (h y hy).ex
    obtain ⟨k, _, rfl⟩ := List.mem_map.mp hz
    exact ⟨_, rfl, fun x hx => ga x (List.mem_of_mem_take hx)⟩
theorem sorts_begins {l : List D} (h : ∀ y ∈ l, Good y) : SortsC (onceD [] (beginsD l)) := by
  have hm : ∀ z ∈ onceD [] (beginsD l), ∃ m, z = .tup m ∧ ∀ x ∈ m, goodL x := fun z hz => (onceD_mem hz).elim (fun h => by cases h) fun hz => beginsD_mem h hz
  refine ⟨fun x hx => ?_, fun x hx y hy => ?_, .inl ?_⟩
  · obtain ⟨m, rfl, g⟩ := hm x hx
    have hp : pl 2 (.tup m) = true := pls_all' fun z hz => pl_good (n := 0) (g z hz) (by obtain ⟨q, e⟩ := goodL_tup (g z hz); rw [e]; rfl)
    obtain ⟨a, b, c⟩ := pl_plain 2 _ hp
    exact ⟨a, b, by omega⟩
  · obtain ⟨m, rfl, g⟩ := hm x hx
    obtain ⟨m', rfl, g'⟩ := hm y hy
    exact cmpbAll_good g g'
  · obtain ⟨r, e⟩ := onceD_pre (l.flatMap fun y => begins (takesD y)) [.tup []]
    refine ⟨r, e, fun x hx => ?_⟩
    obtain ⟨m, rfl, _⟩ := hm x hx
    exact ⟨m, rfl⟩
end RH

set_option Elab.async false
set_option linter.all false
set_option maxRecDepth 100000
set_option maxHeartbeats 4000000
/-! the layers of good lots can be sorted -/
namespace RH
open PySem PySem.Spec PyProof.Rows L2

theorem layersD_mem {l : List D} (h : ∀ y ∈ l, Good y) {z : D} (hz : z ∈ layersD l) : goodL z := by
  obtain ⟨y, hy, hz⟩ := List.mem_flatMap.mp hz
  obtain ⟨la, lb, c, rfl, _, _, ga, gb, _⟩ := (h y hy).ex
  rcases List.mem_append.mp hz with hz | hz
  · exact ga z hz
  · exact gb z hz
theorem once_layers_mem {l : List D} (h : ∀ y ∈ l, Good y) {z : D} (hz : z ∈ onceD [] (layersD l)) : goodL z := (onceD_mem hz).elim (fun h => by cases h) fun hz => layersD_mem h hz
theorem sorts_layers {l : List D} (h : ∀ y ∈ l, Good y) : SortsC (onceD [] (layersD l)) :=
  sorts_good (fun z hz => once_layers_mem h hz) fun x hx y hy => cmpb_good (once_layers_mem h hx) (once_layers_mem h hy)
theorem layers_in_mem {l : List D} (h : ∀ y ∈ l, Good y) {z : D} (hz : z ∈ (onceD [] (layersD l)).mergeSort leD) : goodL z := once_layers_mem h ((List.mergeSort_perm _ _).mem_iff.mp hz)
end RH

set_option Elab.async false
set_option linter.all false
set_option maxRecDepth 100000
set_option maxHeartbeats 4000000
/-! small data: what repr asks -/
namespace RH
open PySem PySem.Spec PyProof.Rows L2

structure Sm (N k : Nat) (x : D) : Prop where
  pn : plain x = true
  sh : (py x).showable = true
  nd : (py x).hasDict = false
  lv : (py x).leavesShort 13 = true
  bk : (py x).bulk ≤ N
  dp : (py x).depth ≤ k
theorem Sm.mono {N k N' k' : Nat} {x : D} (h : Sm N k x) (h1 : N ≤ N') (h2 : k ≤ k') : Sm N' k' x := ⟨h.pn, h.sh, h.nd, h.lv, Nat.le_trans h.bk h1, Nat.le_trans h.dp h2⟩
theorem Sm.all {N k : Nat} : ∀ {l : List D}, (∀ x ∈ l, Sm N k x) → plains l = true ∧ PyData.showableAll (pys l) = true ∧ PyData.hasDictAll (pys l) = false ∧ PyData.leavesShortAll 13 (pys l) = true ∧ PyData.bulkAll (pys l) ≤ l.length * (N + 1) ∧ PyData.depthAll (pys l) ≤ k
  | [], _ => ⟨rfl, rfl, rfl, rfl, by simp [pys, PyData.bulkAll], by simp [pys, PyData.depthAll]⟩
  | x :: l, h => by
    obtain ⟨a1, a2, a3, a4, a5, a6⟩ := Sm.all (l := l) fun y hy => h y (List.mem_cons_of_mem _ hy)
    obtain ⟨b1, b2, b3, b4, b5, b6⟩ := h x List.mem_cons_self
    refine ⟨by show (plain x && plains l) = true; rw [b1, a1]; rfl, by simp [pys, PyData.showableAll, a2, b2], by simp [pys, PyData.hasDictAll, a3, b3], by simp [pys, PyData.leavesShortAll, a4, b4], ?_, ?_⟩
    · simp only [pys, PyData.bulkAll, List.length_cons, Nat.add_mul]
      omega
    · simp only [pys, PyData.depthAll]
      omega
theorem Sm.lst {N k m : Nat} {l : List D} (h : ∀ x ∈ l, Sm N k x) (hl : l.length ≤ m) : Sm (m * (N + 1)) (k + 1) (.lst l) := by
  obtain ⟨a1, a2, a3, a4, a5, a6⟩ := Sm.all h
  have : l.length * (N + 1) ≤ m * (N + 1) := Nat.mul_le_mul_right _ hl
  exact ⟨a1, by simpa [py, PyData.showable] using a2, by simpa [py, PyData.hasDict] using a3, by simpa [py, PyData.leavesShort] using a4, by simp only [py, PyData.bulk]; omega, by simp only [py, PyData.depth]; omega⟩
theorem Sm.tup {N k m : Nat} {l : List D} (h : ∀ x ∈ l, Sm N k x) (hl : l.length ≤ m) : Sm (m * (N + 1)) (k + 1) (.tup l) := by
  obtain ⟨a1, a2, a3, a4, a5, a6⟩ := Sm.all h
  have : l.length * (N + 1) ≤ m * (N + 1) := Nat.mul_le_mul_right _ hl
  exact ⟨a1, by simpa [py, PyData.showable] using a2, by simpa [py, PyData.hasDict] using a3, by simpa [py, PyData.leavesShort] using a4, by simp only [py, PyData.bulk]; omega, by simp only [py, PyData.depth]; omega⟩
theorem sm_str {s : Str} (h : ((PyData.str s).leavesShort 13 && decide (s.cps.size ≤ 10)) = true) : Sm 10 0 (.str s) := by
  rw [Bool.and_eq_true] at h
  exact ⟨rfl, rfl, rfl, h.1, of_decide_eq_true h.2, by simp [py, PyData.depth]⟩
theorem sm_int {k : Int} (h0 : 0 ≤ k) (h1 : k ≤ 9) : Sm 10 0 (.int k) := by
  have : k = 0 ∨ k = 1 ∨ k = 2 ∨ k = 3 ∨ k = 4 ∨ k = 5 ∨ k = 6 ∨ k = 7 ∨ k = 8 ∨ k = 9 := by omega
  refine ⟨rfl, ?_, rfl, ?_, by simp [py, PyData.bulk], by simp [py, PyData.depth]⟩
  · rcases this with rfl | rfl | rfl | rfl | rfl | rfl | rfl | rfl | rfl | rfl <;> decide +kernel
  · rcases this with rfl | rfl | rfl | rfl | rfl | rfl | rfl | rfl | rfl | rfl <;> decide +kernel
theorem sm_two {a b : D} {N k : Nat} (ha : Sm N k a) (hb : Sm N k b) : Sm (2 * (N + 1)) (k + 1) (.tup [a, b]) := Sm.tup (fun x hx => by
  simp only [List.mem_cons, List.not_mem_nil, or_false] at hx
  rcases hx with rfl | rfl
  · exact ha
  · exact hb) (by simp)
theorem sm_goodL {z : D} (h : goodL z) : Sm 22 1 z := by
  rcases h with rfl | rfl | rfl | ⟨k, h0, h1, rfl⟩
  · exact sm_two (sm_str (by decide +kernel)) (sm_str (by decide +kernel))
  · exact sm_two (sm_str (by decide +kernel)) (sm_str (by decide +kernel))
  · exact sm_two (sm_str (by decide +kernel)) (sm_str (by decide +kernel))
  · exact sm_two (sm_str (by decide +kernel)) (sm_int h0 h1)
theorem sm_non : Sm 10 0 .non := ⟨rfl, rfl, rfl, rfl, by simp [py, PyData.bulk], by simp [py, PyData.depth]⟩
theorem sm_goodC {z : D} (h : goodC z) : Sm 46 2 z := by
  rcases h with rfl | rfl | ⟨k, h0, h1, rfl⟩ | ⟨z, hz, rfl⟩
  · exact sm_non.mono (by decide) (by decide)
  · exact (sm_str (by decide +kernel)).mono (by decide) (by decide)
  · exact (sm_int h0 h1).mono (by decide) (by decide)
  · exact sm_two ((sm_str (by decide +kernel)).mono (by decide) (by decide)) (sm_goodL hz)
theorem sm_good {y : D} (h : Good y) : Sm 500 3 y := by
  obtain ⟨la, lb, c, rfl, na, nb, ga, gb, hc⟩ := h.ex
  have h1 : Sm 138 2 (.lst la) := (Sm.lst (fun z hz => sm_goodL (ga z hz)) na).mono (by decide) (by decide)
  have h2 : Sm 138 2 (.lst lb) := (Sm.lst (fun z hz => sm_goodL (gb z hz)) nb).mono (by decide) (by decide)
  have h3 : Sm 138 2 c := (sm_goodC hc).mono (by decide) (by decide)
  refine (Sm.tup (N := 138) (k := 2) (m := 3) (fun x hx => ?_) (by simp)).mono (by decide) (by decide)
  simp only [List.mem_cons, List.not_mem_nil, or_false] at hx
  rcases hx with rfl | rfl | rfl
  · exact h1
  · exact h2
  · exact h3
theorem sm_lots {l : List D} (h : ∀ y ∈ l, Good y) (hl : l.length ≤ 12) : Sm 7000 4 (.lst l) := (Sm.lst (fun y hy => sm_good (h y hy)) hl).mono (by decide) (by decide)
theorem repr_lots {l : List D} (h : ∀ y ∈ l, Good y) (hl : l.length ≤ 12) : plain (.lst l) = true ∧ (py (.lst l)).showable = true ∧ (py (.lst l)).hasDict = false ∧ (py (.lst l)).depth ≤ 40 ∧ (py (.lst l)).shown.length ≤ sizeLine := by
  obtain ⟨a1, a2, a3, a4, a5, a6⟩ := sm_lots h hl
  exact ⟨a1, a2, a3, by omega, PyData.shown_fits_bulk (by decide) (by decide) a4 (by omega)⟩
end RH

set_option Elab.async false
set_option linter.all false
set_option maxRecDepth 100000
set_option maxHeartbeats 4000000
/-! what the laws' answers are, of Good lots -/
namespace RH
open PySem PySem.Spec PyProof.Rows L2

def ctlD (l : List D) : List D := (onceD [] (beginsD l)).mergeSort leD
theorem lot_good {y : D} (h : Good y) : Lot y := by
  obtain ⟨la, lb, c, rfl, na, nb, _⟩ := h.ex
  exact ⟨⟨la, lb, c, rfl, by omega, by omega⟩⟩
theorem pl_goodL {n : Nat} {z : D} (h : goodL z) : pl (n + 1) z = true := by
  obtain ⟨l, e⟩ := goodL_tup h
  exact pl_good h (by rw [e]; rfl)
theorem pl_tup_good {n : Nat} {m : List D} (h : ∀ z ∈ m, goodL z) : pl (n + 2) (.tup m) = true := pls_all' fun z hz => pl_goodL (n := n) (h z hz)
theorem pl_lst_good {n : Nat} {m : List D} (h : ∀ z ∈ m, goodL z) : pl (n + 2) (.lst m) = true := pls_all' fun z hz => pl_goodL (n := n) (h z hz)
theorem hard_tup {m : List D} (h : ∀ z ∈ m, goodL z) : hard (.tup m) = true := hards_iff.mpr fun z hz => goodL_hard (h z hz)
theorem ctlD_mem {l : List D} (h : ∀ y ∈ l, Good y) {z : D} (hz : z ∈ ctlD l) : ∃ m, z = .tup m ∧ ∀ x ∈ m, goodL x := by
  have : z ∈ onceD [] (beginsD l) := (List.mergeSort_perm _ _).mem_iff.mp hz
  exact (onceD_mem this).elim (fun h => by cases h) fun hz => beginsD_mem h hz
theorem begins_pl {l : List D} (h : ∀ y ∈ l, Good y) : ∀ z ∈ beginsD l, pl 60 z = true := fun z hz => by
  obtain ⟨m, rfl, hm⟩ := beginsD_mem h hz
  exact pl_tup_good (n := 58) hm
theorem ctl_hards {l : List D} (h : ∀ y ∈ l, Good y) : hards (ctlD l) = true := hards_iff.mpr fun z hz => by
  obtain ⟨m, rfl, hm⟩ := ctlD_mem h hz
  exact hard_tup hm
theorem ctl_pls {l : List D} (h : ∀ y ∈ l, Good y) : pls 59 (ctlD l) = true := pls_all' fun z hz => by
  obtain ⟨m, rfl, hm⟩ := ctlD_mem h hz
  exact pl_tup_good (n := 57) hm
theorem ctl_len {l : List D} (h : ∀ y ∈ l, Good y) (hl : l.length ≤ 12) : (ctlD l).length ≤ 1201 := by
  have h1 := beginsD_len fun y hy => lot_good (h y hy)
  have h2 := onceD_len (beginsD l) []
  have h3 : (ctlD l).length = (onceD [] (beginsD l)).length := (List.mergeSort_perm _ _).length_eq
  have : l.length * 100 ≤ 12 * 100 := Nat.mul_le_mul_right _ hl
  simp at h2
  omega
/-- widths -/
theorem wid_none {W n : Nat} {x : D} (h : seqD x = none) : wid W n x = true := by
  cases n with
  | zero => rfl
  | succ n => simp [wid, h]
theorem wid_of {W n : Nat} {x : D} {l : List D} (h : seqD x = some l) (hl : l.length ≤ W) (ha : ∀ y ∈ l, wid W n y = true) : wid W (n + 1) x = true := by
  simp only [wid, h, Bool.and_eq_true, decide_eq_true_eq, List.all_eq_true]
  exact ⟨hl, ha⟩
theorem wid_goodL {W n : Nat} {z : D} (hW : 2 ≤ W) (h : goodL z) : wid W n z = true := by
  cases n with
  | zero => rfl
  | succ n =>
  have : ∃ a b, z = .tup [a, b] ∧ seqD a = none ∧ seqD b = none := by
    rcases h with rfl | rfl | rfl | ⟨k, _, _, rfl⟩ <;> exact ⟨_, _, rfl, rfl, rfl⟩
  obtain ⟨a, b, rfl, ha, hb⟩ := this
  refine wid_of rfl (by simpa using hW) fun y hy => ?_
  simp only [List.mem_cons, List.not_mem_nil, or_false] at hy
  rcases hy with rfl | rfl
  · exact wid_none ha
  · exact wid_none hb
theorem wid_layers {W n : Nat} {m : List D} {x : D} (hs : seqD x = some m) (hW : 2 ≤ W) (hm : m.length ≤ W) (h : ∀ z ∈ m, goodL z) : wid W n x = true := by
  cases n with
  | zero => rfl
  | succ n => exact wid_of hs hm fun z hz => wid_goodL hW (h z hz)
theorem begin_len {l : List D} (h : ∀ y ∈ l, Good y) {m : List D} (hz : D.tup m ∈ beginsD l) : m.length ≤ 6 := by
  rcases List.mem_cons.mp hz with e | hz
  · cases e; exact Nat.zero_le _
  · obtain ⟨y, hy, hz⟩ := List.mem_flatMap.mp hz
    obtain ⟨la, lb, c, rfl, na, _⟩ := (h y hy).ex
    obtain ⟨k, _, e⟩ := List.mem_map.mp hz
    cases e
    show (la.take k).length ≤ 6
    rw [List.length_take]
    omega
theorem wid_ctl {l : List D} (h : ∀ y ∈ l, Good y) (hl : l.length ≤ 12) : wid 1000000 60 (.lst (ctlD l)) = true := wid_of rfl (by have := ctl_len h hl; omega) fun z hz => by
  have h1 : z ∈ onceD [] (beginsD l) := (List.mergeSort_perm _ _).mem_iff.mp hz
  have h2 : z ∈ beginsD l := (onceD_mem h1).elim (fun h => by cases h) id
  obtain ⟨m, rfl, hm⟩ := beginsD_mem h h2
  exact wid_layers rfl (by decide) (by have := begin_len h h2; omega) hm
/-- law's own controls -/
theorem lawctl {l : List D} (h : ∀ y ∈ l, Good y) (hl : l.length ≤ 12) {n : Nat} {Ψ : R → Nat → Prop} (k : Ψ (.new (ctlD l)) n) : m__law_controls [.lst l] n Ψ :=
  ⟨_, l, rfl, rfl, by omega, fun y hy => lot_good (h y hy), begins_pl h, sorts_begins h, k⟩
theorem ctl_any {l m : List D} {x : D} (h : ∀ y ∈ l, Good y) (hl : l.length ≤ 12) (hx : seqD x = some m) (hm : m.length = l.length) (hr : ∀ y ∈ m, Rule y) (he : m.map ruleD = l.map ruleD) {n : Nat} {Ψ : R → Nat → Prop} (k : Ψ (.new (ctlD l)) n) : m_controls [x] n Ψ := by
  have e : keysOf (m.map ruleD) = beginsD l := by rw [he, keysOf_good h]
  refine ⟨x, m, rfl, hx, by omega, hr, fun y hy => ?_, by rw [e]; exact sorts_begins h, by rw [e]; exact k⟩
  rw [he] at hy
  obtain ⟨z, hz, rfl⟩ := List.mem_map.mp hy
  exact keys_good (h z hz)
theorem ctl_good {l : List D} {x : D} (h : ∀ y ∈ l, Good y) (hl : l.length ≤ 12) (hx : seqD x = some l) {n : Nat} {Ψ : R → Nat → Prop} (k : Ψ (.new (ctlD l)) n) : m_controls [x] n Ψ :=
  ctl_any (m := l) h hl hx rfl (fun y hy => rule_good (h y hy)) rfl k
theorem ctl_loose {l : List D} {y : D} (h : ∀ y ∈ l, Good y) (hl : l.length ≤ 12) (hx : loose 4 (.lst l) y) {n : Nat} {Ψ : R → Nat → Prop} (k : Ψ (.new (ctlD l)) n) : m_controls [y] n Ψ := by
  obtain ⟨m, hm, hlen, e⟩ := rules_loose (m := []) h hx
  refine ctl_any (m := m) h hl hm hlen (fun z hz => ?_) e k
  obtain ⟨m', hm', hlen', hl'⟩ := hx
  have : m' = m := by rcases hm' with rfl | rfl <;> (cases hm; rfl)
  subst this
  obtain ⟨i, hi⟩ := List.getElem?_of_mem hz
  have hlt := (List.getElem?_eq_some_iff.mp hi).1
  have hlt2 : i < l.length := by omega
  exact rule_loose (h l[i] (List.getElem_mem hlt2)) (hl' i _ _ (List.getElem?_eq_getElem hlt2) hi)
theorem pl_goodC {n : Nat} {c : D} (h : goodC c) : pl (n + 2) c = true := by
  rcases h with rfl | rfl | ⟨k, _, _, rfl⟩ | ⟨z, hz, rfl⟩
  · rfl
  · exact st (n + 2) _ (by decide +kernel)
  · rfl
  · refine pls_all' fun x hx => ?_
    simp only [List.mem_cons, List.not_mem_nil, or_false] at hx
    rcases hx with rfl | rfl
    · exact st (n + 1) _ (by decide +kernel)
    · exact pl_goodL hz
theorem pl_lots {l : List D} (h : ∀ y ∈ l, Good y) : pl 4 (.lst l) = true := pls_all' fun y hy => by
  obtain ⟨la, lb, c, rfl, _, _, ga, gb, hc⟩ := (h y hy).ex
  refine pls_all' fun x hx => ?_
  simp only [List.mem_cons, List.not_mem_nil, or_false] at hx
  rcases hx with rfl | rfl | rfl
  · exact pl_lst_good (n := 0) ga
  · exact pl_lst_good (n := 0) gb
  · exact pl_goodC (n := 0) hc
theorem wid_goodC {W n : Nat} {c : D} (hW : 2 ≤ W) (h : goodC c) : wid W n c = true := by
  rcases h with rfl | rfl | ⟨k, _, _, rfl⟩ | ⟨z, hz, rfl⟩
  · exact wid_none rfl
  · exact wid_none rfl
  · exact wid_none rfl
  · cases n with
    | zero => rfl
    | succ n =>
      refine wid_of rfl (by simpa using hW) fun x hx => ?_
      simp only [List.mem_cons, List.not_mem_nil, or_false] at hx
      rcases hx with rfl | rfl
      · exact wid_none rfl
      · exact wid_goodL hW hz
theorem wid_lots {l : List D} (h : ∀ y ∈ l, Good y) (hl : l.length ≤ 12) : wid 12 4 (.lst l) = true := wid_of rfl hl fun y hy => by
  obtain ⟨la, lb, c, rfl, na, nb, ga, gb, hc⟩ := (h y hy).ex
  refine wid_of rfl (by simp) fun x hx => ?_
  simp only [List.mem_cons, List.not_mem_nil, or_false] at hx
  rcases hx with rfl | rfl | rfl
  · exact wid_layers rfl (by decide) (by omega) ga
  · exact wid_layers rfl (by decide) (by omega) gb
  · exact wid_goodC (by decide) hc
/-- after -/
def aftD (la lb lay : List D) : R := if eqL (lay.take la.length) la = true then .new (lb ++ lay.drop la.length) else .val .non
theorem after_of {l m : List D} {x y lay : D} {i : Nat} {la lb lh : List D} {c : D} (h : ∀ y ∈ l, Good y) (hx : seqD x = some l) (hi : l[i]? = some y) (hy : y = .tup [.lst la, .lst lb, c]) (hk : keptD lay = .tup m) (hs : (seqD lay).isSome = true) (hm : ∀ z ∈ m, goodL z) (hml : m.length ≤ 300) (hl : l.length ≤ 12)
    {n : Nat} {Ψ : R → Nat → Prop} (k : Ψ (aftD la lb m) n) : m_after [x, lay, .int i] n Ψ := by
  obtain ⟨la', lb', c', e, na, nb, ga, gb, _⟩ := (h y (List.mem_of_getElem? hi)).ex
  rw [hy] at e
  cases e
  cases e : seqD lay with
  | none => rw [e] at hs; cases hs
  | some lh =>
  have e2 : lh.map tupD = m := by
    unfold keptD at hk
    rw [e] at hk
    injection hk
  have e3 : lh.length ≤ 300 := by rw [← e2, List.length_map] at hml; exact hml
  refine ⟨x, l, lay, i, y, .lst la, .lst lb, c, la, lb, lh, rfl, hx, by omega, fun y hy => rule_good (h y hy), by omega, by simpa using hi, by rw [hy]; rfl, rfl, rfl, by omega, by omega, ?_, e, e3, areLayers_loose hm hk (by rw [e]; rfl), ?_⟩
  · exact pl_kept (n := 59) hm hk (by rw [e]; rfl)
  · unfold afterR
    rw [e2, keptD_good ga, keptD_good gb]
    exact k
end RH

set_option Elab.async false
set_option linter.all false
set_option maxRecDepth 100000
set_option maxHeartbeats 8000000
/-! readings: the law's turn -/
namespace RH
open PySem PySem.Spec PyProof.Rows L2

def repS (l : List D) : Str := (py (.lst l)).shown
theorem repr_b {l : List D} (h : ∀ y ∈ l, Good y) (hl : l.length ≤ 12) {r : List S} {o : List (Bool × List D)} {n : Nat} {i : Nat} {Θ : S → DS → Prop} (h0 : r[i]? = some (.own 0)) (k : Θ (.val (.str (repS l))) ⟨r, (true, l) :: o, n⟩) : dBorrow (dCB gRepr (dCons (dVar i) dNil)) ⟨r, (true, l) :: o, n⟩ Θ := by
  obtain ⟨a1, a2, a3, a4, a5⟩ := repr_lots h hl
  have e : (r.map (iceS ((true, l) :: o)))[i]? = some (.val (.lst l)) := by rw [List.getElem?_map, h0]; rfl
  refine ⟨_, e, fun h => (by cases h), _, _, rfl, rfl, ⟨l, .inl rfl⟩, a1, a2, a3, a4, a5, .inl ⟨_, rfl, rfl, k⟩⟩
/-- the layers of a lot and one word more -/
def layPick (l : List D) : List D := (onceD [] (layersD l)).mergeSort leD ++ [.tup [.str "word", .int 9]]
theorem layPick_good {l : List D} (h : ∀ y ∈ l, Good y) : ∀ z ∈ layPick l, goodL z := fun z hz => by
  rcases List.mem_append.mp hz with hz | hz
  · exact layers_in_mem h hz
  · rcases List.mem_singleton.mp hz with rfl
    exact .inr (.inr (.inr ⟨9, by decide, by decide, rfl⟩))
theorem layPick_len {l : List D} (h : ∀ y ∈ l, Good y) (hl : l.length ≤ 12) : 0 < (layPick l).length ∧ (layPick l).length ≤ 3000 ∧ ((onceD [] (layersD l)).mergeSort leD).length ≤ 2400 ∧ (onceD [] (layersD l)).length ≤ 2400 := by
  have h1 := layersD_len fun y hy => lot_good (h y hy)
  have h2 := onceD_len (layersD l) []
  have h3 : ((onceD [] (layersD l)).mergeSort leD).length = (onceD [] (layersD l)).length := (List.mergeSort_perm _ _).length_eq
  have h4 : l.length * 200 ≤ 12 * 200 := Nat.mul_le_mul_right _ hl
  have e : (layPick l).length = ((onceD [] (layersD l)).mergeSort leD).length + 1 := by simp [layPick]
  simp at h2
  omega
def w_lay : DTE := dLc (diRng1 (dCons (dCall true 1 m__law_draw (dCons (dVar 0) (dCons (dC (.int 5)) dNil))) dNil)) (dgName 11) dYes (dBorrow (dCall true 1 m__law_pick (dCons (dVar 0) (dCons (dOp gPlus (dCall false 1 m__law_layers_in (dCons (dVar 1) dNil)) (dLst (dCons (dTup (dCons (dC (.str "word")) (dCons (dC (.int 9)) dNil))) dNil))) dNil)))) [11]
theorem lay_lc {l : List D} (h : ∀ y ∈ l, Good y) (hl : l.length ≤ 12) {n : Nat} {s2 s3 s4 s5 s6 s7 s8 s9 s10 s11 : S} {o : List (Bool × List D)} {Θ : S → DS → Prop} (hn : n ≤ 899000)
    (k : ∀ (lay : List D) (n' : Nat), lay.length ≤ 4 → (∀ z ∈ lay, goodL z) → n' ≤ n + 5 → Θ (.own o.length) ⟨[.strm, .val (.lst l), s2, s3, s4, s5, s6, s7, s8, s9, s10, .un], o ++ [(true, lay)], n'⟩) :
    w_lay ⟨[.strm, .val (.lst l), s2, s3, s4, s5, s6, s7, s8, s9, s10, s11], o, n⟩ Θ := by
  obtain ⟨p0, p1, p2, p3⟩ := layPick_len h hl
  show dCall true 1 m__law_draw (dCons (dVar 0) (dCons (dC (.int 5)) dNil)) ⟨[.strm, .val (.lst l), s2, s3, s4, s5, s6, s7, s8, s9, s10, s11], o, n⟩ (fun s d1 => (fun ss d1 => ∃ i : Int, ss = [.val (.int i)] ∧ -1000000000 ≤ i ∧ i ≤ 1000000000 ∧ LcIn (dgName 11) (dBorrow (dCall true 1 m__law_pick (dCons (dVar 0) (dCons (dOp gPlus (dCall false 1 m__law_layers_in (dCons (dVar 1) dNil)) (dLst (dCons (dTup (dCons (dC (.str "word")) (dCons (dC (.int 9)) dNil))) dNil))) dNil)))) [11] (rng 0 i.toNat) d1 Θ) [s] d1)
  simp [dRet, dAndV, dOrV, dNotV, dIsi, dVar, dC, dOp, dCB, dCons, dNil, dLst, dTup, dSeq, dIfS, dOr, dAnd, dNot, dTest, dChain, dInG, gLen, gI0, gEq, gIx, gList, gTuple, gBls, look_val, look_own, fz_val, fz_own, fzs_nil, fzs_cons, fnStart, fnEnds, ret_val, ret_own, gCall, dCall, resume_val, resume_new, dSet, dgName, dgCons, dgNil, dgTup, dgSeq, DS.put, DS.new, DS.trim, trimS_un, trimS_val, trimS_strm, trimS_own, wipeR, dYes, seqD_lst, seqD_tup, iterD_lst, iterD_tup, iterD_str, lenD_lst, lenD_tup, lenD_str, tyD_non, tyD_bl, tyD_int, tyD_str, tyD_lst, tyD_tup, tyD_dic, isiD, flatD_non, flatD_bl, flatD_int, flatD_str, atD_lst, atD_tup, dPar, dIf, dDrop, dBM, gAppend, gExtend, gPopAt, gClear, diSeq, diRng1, diRng2, diEnum, diZip, dSl, dPart, dNo, gSl, gInS, gIn, gPlus, gOr, gCat, gCatS, gTimes, gRep, gI, blsD, putAll, dParT, dStar, DS.ice, iceS_un, iceS_val, iceS_strm, iceS_own, dOr2, gNeS, and_assoc, m__law_draw]
  refine ⟨by omega, fun i i0 i1 => ⟨by omega, by omega, ?_⟩⟩
  refine lcIn_rel (d1 := ⟨[.strm, .val (.lst l), s2, s3, s4, s5, s6, s7, s8, s9, s10, s11], o, n + 1⟩) (rng 0 i.toNat) (fun _ _ e => goodL e) 1 (by rw [rng_len]; omega) (fun j y hy acc n1 hn1 Θ2 hΘ2 => ?_) (fun lay n' hll hlg hn' => ?_)
  · obtain ⟨hj, rfl⟩ := rng_get hy
    have hn1 : n1 ≤ n + 1 + j * 1 := hn1
    simp only [dgName, DS.put]
    refine ⟨by simp [wipeR], ?_⟩
    simp [dRet, dAndV, dOrV, dNotV, dIsi, dVar, dC, dOp, dCB, dCons, dNil, dLst, dTup, dSeq, dIfS, dOr, dAnd, dNot, dTest, dChain, dInG, gLen, gI0, gEq, gIx, gList, gTuple, gBls, look_val, look_own, fz_val, fz_own, fzs_nil, fzs_cons, fnStart, fnEnds, ret_val, ret_own, gCall, dCall, resume_val, resume_new, dSet, dgName, dgCons, dgNil, dgTup, dgSeq, DS.put, DS.new, DS.trim, trimS_un, trimS_val, trimS_strm, trimS_own, wipeR, dYes, seqD_lst, seqD_tup, iterD_lst, iterD_tup, iterD_str, lenD_lst, lenD_tup, lenD_str, tyD_non, tyD_bl, tyD_int, tyD_str, tyD_lst, tyD_tup, tyD_dic, isiD, flatD_non, flatD_bl, flatD_int, flatD_str, atD_lst, atD_tup, dPar, dIf, dDrop, dBM, gAppend, gExtend, gPopAt, gClear, diSeq, diRng1, diRng2, diEnum, diZip, dSl, dPart, dNo, gSl, gInS, gIn, gPlus, gOr, gCat, gCatS, gTimes, gRep, gI, blsD, putAll, dParT, dStar, DS.ice, iceS_un, iceS_val, iceS_strm, iceS_own, dOr2, gNeS, and_assoc, dBorrow, m__law_pick, m__law_layers_in]
    refine ⟨by omega, fun y hy => lot_good (h y hy), fun z hz => pl_goodL (n := 59) (layersD_mem h hz), sorts_layers h, by omega, ?_⟩
    refine ⟨by omega, by have hn1 : n1 ≤ n + 1 + j * 1 := hn1; omega, fun y hy => ?_⟩
    have gy : goodL y := by
      rcases hy with hy | rfl
      · exact once_layers_mem h hy
      · exact .inr (.inr (.inr ⟨9, by decide, by decide, rfl⟩))
    refine ⟨goodL_hard gy, ?_⟩
    · exact hΘ2 _ _ ⟨_, _, n1 + 1⟩ y rfl gy rfl (List.take_of_length_le (by rw [List.length_append]; exact Nat.le_refl _)) (Nat.le_refl _)
  · rw [rng_len] at hll hn'
    have hn' : n' ≤ n + 1 + i.toNat * 1 := hn'
    have := k lay n' (by omega) (fun e he => ?_) (by omega)
    · simpa [dRet, dAndV, dOrV, dNotV, dIsi, dVar, dC, dOp, dCB, dCons, dNil, dLst, dTup, dSeq, dIfS, dOr, dAnd, dNot, dTest, dChain, dInG, gLen, gI0, gEq, gIx, gList, gTuple, gBls, look_val, look_own, fz_val, fz_own, fzs_nil, fzs_cons, fnStart, fnEnds, ret_val, ret_own, gCall, dCall, resume_val, resume_new, dSet, dgName, dgCons, dgNil, dgTup, dgSeq, DS.put, DS.new, DS.trim, trimS_un, trimS_val, trimS_strm, trimS_own, wipeR, dYes, seqD_lst, seqD_tup, iterD_lst, iterD_tup, iterD_str, lenD_lst, lenD_tup, lenD_str, tyD_non, tyD_bl, tyD_int, tyD_str, tyD_lst, tyD_tup, tyD_dic, isiD, flatD_non, flatD_bl, flatD_int, flatD_str, atD_lst, atD_tup, dPar, dIf, dDrop, dBM, gAppend, gExtend, gPopAt, gClear, diSeq, diRng1, diRng2, diEnum, diZip, dSl, dPart, dNo, gSl, gInS, gIn, gPlus, gOr, gCat, gCatS, gTimes, gRep, gI, blsD, putAll, dParT, dStar, DS.ice, iceS_un, iceS_val, iceS_strm, iceS_own, dOr2, gNeS, and_assoc, Nat.add_comm, Nat.add_left_comm] using this
    · obtain ⟨i, hi⟩ := List.getElem?_of_mem he
      have hlt := (List.getElem?_eq_some_iff.mp hi).1
      exact hlg i (.int (0 + i)) e (rng_at (by rw [← hll]; exact hlt)) hi
end RH

set_option Elab.async false
set_option linter.all false
set_option maxRecDepth 100000
set_option maxHeartbeats 8000000
/-! readings: the law's turn, on -/
namespace RH
open PySem PySem.Spec PyProof.Rows L2

abbrev RS (l : List D) (s4 s5 s6 : S) (m : Nat) (i : Nat) (s9 s10 s11 : S) : List S := [.strm, .val (.lst l), .own 0, .val (.str (repS l)), s4, s5, s6, .own m, .val (.int i), s9, s10, s11]
structure AftIn (l la lb lay : List D) (i : Nat) : Prop where
  gl : ∀ y ∈ l, Good y
  ll : l.length ≤ 12
  at_ : ∃ c, l[i]? = some (.tup [.lst la, .lst lb, c])
  gy : ∀ z ∈ lay, goodL z
  ly : lay.length ≤ 10
theorem AftIn.ga {l la lb lay : List D} {i : Nat} (A : AftIn l la lb lay i) : la.length ≤ 6 ∧ lb.length ≤ 6 ∧ (∀ z ∈ la, goodL z) ∧ ∀ z ∈ lb, goodL z := by
  obtain ⟨c, hc⟩ := A.at_
  obtain ⟨la', lb', c', e, na, nb, ga, gb, _⟩ := (A.gl _ (List.mem_of_getElem? hc)).ex
  cases e
  exact ⟨na, nb, ga, gb⟩
theorem AftIn.res {l la lb lay : List D} {i : Nat} (A : AftIn l la lb lay i) : aftD la lb lay = .val .non ∨ ∃ rr, aftD la lb lay = .new rr ∧ rr.length ≤ 16 ∧ ∀ z ∈ rr, goodL z := by
  obtain ⟨na, nb, ga, gb⟩ := A.ga
  unfold aftD
  split
  · refine .inr ⟨_, rfl, ?_, fun z hz => ?_⟩
    · have := A.ly
      rw [List.length_append, List.length_drop]
      omega
    · rcases List.mem_append.mp hz with hz | hz
      · exact gb z hz
      · exact A.gy z (List.mem_of_mem_drop hz)
  · exact .inl rfl
theorem good_hards {l : List D} (h : ∀ z ∈ l, goodL z) : hards l = true := hards_iff.mpr fun z hz => goodL_hard (h z hz)
def w_aft1 : DTE := dBorrow (dCall false 3 m_after (dCons (dVar 2) (dCons (dVar 7) (dCons (dVar 8) dNil))))
def w_aft2 : DTE := dBorrow (dCallK false 3 m_after 0 3 [2, 1, 0] dNil (dCons (dVar 8) (dCons (dCall true 1 (m__law_loose 4) (dCons (dVar 0) (dCons (dVar 7) dNil))) (dCons (dVar 1) dNil))))
theorem aft1_g {l la lb lay : List D} {i : Nat} (A : AftIn l la lb lay i) {r : List S} {o : List (Bool × List D)} {n : Nat} (h2 : (r.map (iceS o))[2]? = some (.val (.lst l))) (h7 : (r.map (iceS o))[7]? = some (.val (.lst lay))) (h8 : (r.map (iceS o))[8]? = some (.val (.int i))) {Θ : S → DS → Prop}
    (k : resume (aftD la lb lay) ⟨r, o, n⟩ Θ) : w_aft1 ⟨r, o, n⟩ Θ := by
  obtain ⟨c, hc⟩ := A.at_
  refine ⟨_, h2, fun h => (by cases h), _, h7, fun h => (by cases h), _, h8, fun h => (by cases h), [.lst l, .lst lay, .int i], _, rfl, rfl, ?_⟩
  refine after_of (m := lay) (y := .tup [.lst la, .lst lb, c]) (la := la) (lb := lb) (lh := []) (c := c) A.gl rfl hc rfl (by show D.tup (lay.map tupD) = _; rw [keptD_good A.gy]) rfl A.gy (by have := A.ly; omega) A.ll ?_
  rcases A.res with e | ⟨rr, e, hl, hg⟩
  · rw [e] at k ⊢
    exact .inl ⟨_, rfl, rfl, k⟩
  · rw [e] at k ⊢
    exact .inr ⟨_, rr, rfl, rfl, good_hards hg, k⟩
theorem aft1_b {l la lb lay : List D} {i m : Nat} (A : AftIn l la lb lay i) {s4 s5 s6 s9 s10 s11 : S} {o : List (Bool × List D)} {n : Nat} {b0 b : Bool} (h0 : o[0]? = some (b0, l)) (hm : o[m]? = some (b, lay)) {Θ : S → DS → Prop}
    (k : resume (aftD la lb lay) ⟨RS l s4 s5 s6 m i s9 s10 s11, o, n⟩ Θ) : w_aft1 ⟨RS l s4 s5 s6 m i s9 s10 s11, o, n⟩ Θ :=
  aft1_g A (by simp [iceS_own, h0]) (by simp [iceS_own, hm]) (by simp [iceS_val]) k
theorem aft2_b {l la lb lay : List D} {i m : Nat} (A : AftIn l la lb lay i) {s4 s5 s6 s9 s10 s11 : S} {o : List (Bool × List D)} {n : Nat} {b0 b : Bool} (h0 : o[0]? = some (b0, l)) (hm : o[m]? = some (b, lay)) (hn : n ≤ 890000) {Θ : S → DS → Prop}
    (k : ∀ n', n' ≤ n + KW 12 4 → resume (aftD la lb lay) ⟨RS l s4 s5 s6 m i s9 s10 s11, o, n'⟩ Θ) : w_aft2 ⟨RS l s4 s5 s6 m i s9 s10 s11, o, n⟩ Θ := by
  unfold w_aft2
  obtain ⟨c, hc⟩ := A.at_
  have hK : KW 12 4 = 1885 := rfl
  simp [dRet, dAndV, dOrV, dNotV, dIsi, dVar, dC, dOp, dCB, dCons, dNil, dLst, dTup, dSeq, dIfS, dOr, dAnd, dNot, dTest, dChain, dInG, gLen, gI0, gEq, gIx, gList, gTuple, gBls, look_val, look_own, fz_val, fz_own, fzs_nil, fzs_cons, fnStart, fnEnds, ret_val, ret_own, gCall, dCall, resume_val, resume_new, dSet, dgName, dgCons, dgNil, dgTup, dgSeq, DS.put, DS.new, DS.trim, trimS_un, trimS_val, trimS_strm, trimS_own, wipeR, dYes, seqD_lst, seqD_tup, iterD_lst, iterD_tup, iterD_str, lenD_lst, lenD_tup, lenD_str, tyD_non, tyD_bl, tyD_int, tyD_str, tyD_lst, tyD_tup, tyD_dic, isiD, flatD_non, flatD_bl, flatD_int, flatD_str, atD_lst, atD_tup, dPar, dIf, dDrop, dBM, gAppend, gExtend, gPopAt, gClear, diSeq, diRng1, diRng2, diEnum, diZip, dSl, dPart, dNo, gSl, gInS, gIn, gPlus, gOr, gCat, gCatS, gTimes, gRep, gI, blsD, putAll, dParT, dStar, DS.ice, iceS_un, iceS_val, iceS_strm, iceS_own, dOr2, gNeS, and_assoc, dBorrow, dCallK, kG, h0, hm, m__law_loose]
  refine ⟨pl_lst_good (n := 2) A.gy, wid_layers rfl (by decide) (by have := A.ly; omega) A.gy, by omega, fun r n' hr hn' => ?_⟩
  cases r with
  | val y =>
    have hr : loose 4 (.lst lay) y := hr
    simp [dRet, dAndV, dOrV, dNotV, dIsi, dVar, dC, dOp, dCB, dCons, dNil, dLst, dTup, dSeq, dIfS, dOr, dAnd, dNot, dTest, dChain, dInG, gLen, gI0, gEq, gIx, gList, gTuple, gBls, look_val, look_own, fz_val, fz_own, fzs_nil, fzs_cons, fnStart, fnEnds, ret_val, ret_own, gCall, dCall, resume_val, resume_new, dSet, dgName, dgCons, dgNil, dgTup, dgSeq, DS.put, DS.new, DS.trim, trimS_un, trimS_val, trimS_strm, trimS_own, wipeR, dYes, seqD_lst, seqD_tup, iterD_lst, iterD_tup, iterD_str, lenD_lst, lenD_tup, lenD_str, tyD_non, tyD_bl, tyD_int, tyD_str, tyD_lst, tyD_tup, tyD_dic, isiD, flatD_non, flatD_bl, flatD_int, flatD_str, atD_lst, atD_tup, dPar, dIf, dDrop, dBM, gAppend, gExtend, gPopAt, gClear, diSeq, diRng1, diRng2, diEnum, diZip, dSl, dPart, dNo, gSl, gInS, gIn, gPlus, gOr, gCat, gCatS, gTimes, gRep, gI, blsD, putAll, dParT, dStar, DS.ice, iceS_un, iceS_val, iceS_strm, iceS_own, dOr2, gNeS, and_assoc]
    refine (after_of (m := lay) (y := .tup [.lst la, .lst lb, c]) (la := la) (lb := lb) (lh := []) (c := c) A.gl rfl hc rfl (loose_layers (n := 2) A.gy rfl hr) (loose_seq hr) A.gy (by have := A.ly; omega) A.ll ?_)
    have k := k n' hn'
    rcases A.res with e | ⟨rr, e, hl, hg⟩
    · rw [e] at k ⊢
      simpa [dRet, dAndV, dOrV, dNotV, dIsi, dVar, dC, dOp, dCB, dCons, dNil, dLst, dTup, dSeq, dIfS, dOr, dAnd, dNot, dTest, dChain, dInG, gLen, gI0, gEq, gIx, gList, gTuple, gBls, look_val, look_own, fz_val, fz_own, fzs_nil, fzs_cons, fnStart, fnEnds, ret_val, ret_own, gCall, dCall, resume_val, resume_new, dSet, dgName, dgCons, dgNil, dgTup, dgSeq, DS.put, DS.new, DS.trim, trimS_un, trimS_val, trimS_strm, trimS_own, wipeR, dYes, seqD_lst, seqD_tup, iterD_lst, iterD_tup, iterD_str, lenD_lst, lenD_tup, lenD_str, tyD_non, tyD_bl, tyD_int, tyD_str, tyD_lst, tyD_tup, tyD_dic, isiD, flatD_non, flatD_bl, flatD_int, flatD_str, atD_lst, atD_tup, dPar, dIf, dDrop, dBM, gAppend, gExtend, gPopAt, gClear, diSeq, diRng1, diRng2, diEnum, diZip, dSl, dPart, dNo, gSl, gInS, gIn, gPlus, gOr, gCat, gCatS, gTimes, gRep, gI, blsD, putAll, dParT, dStar, DS.ice, iceS_un, iceS_val, iceS_strm, iceS_own, dOr2, gNeS, and_assoc, hard] using k
    · rw [e] at k ⊢
      simpa [dRet, dAndV, dOrV, dNotV, dIsi, dVar, dC, dOp, dCB, dCons, dNil, dLst, dTup, dSeq, dIfS, dOr, dAnd, dNot, dTest, dChain, dInG, gLen, gI0, gEq, gIx, gList, gTuple, gBls, look_val, look_own, fz_val, fz_own, fzs_nil, fzs_cons, fnStart, fnEnds, ret_val, ret_own, gCall, dCall, resume_val, resume_new, dSet, dgName, dgCons, dgNil, dgTup, dgSeq, DS.put, DS.new, DS.trim, trimS_un, trimS_val, trimS_strm, trimS_own, wipeR, dYes, seqD_lst, seqD_tup, iterD_lst, iterD_tup, iterD_str, lenD_lst, lenD_tup, lenD_str, tyD_non, tyD_bl, tyD_int, tyD_str, tyD_lst, tyD_tup, tyD_dic, isiD, flatD_non, flatD_bl, flatD_int, flatD_str, atD_lst, atD_tup, dPar, dIf, dDrop, dBM, gAppend, gExtend, gPopAt, gClear, diSeq, diRng1, diRng2, diEnum, diZip, dSl, dPart, dNo, gSl, gInS, gIn, gPlus, gOr, gCat, gCatS, gTimes, gRep, gI, blsD, putAll, dParT, dStar, DS.ice, iceS_un, iceS_val, iceS_strm, iceS_own, dOr2, gNeS, and_assoc, good_hards hg] using k
  | new y =>
    have hr : loose 4 (.lst lay) (.lst y) := hr
    simp [dRet, dAndV, dOrV, dNotV, dIsi, dVar, dC, dOp, dCB, dCons, dNil, dLst, dTup, dSeq, dIfS, dOr, dAnd, dNot, dTest, dChain, dInG, gLen, gI0, gEq, gIx, gList, gTuple, gBls, look_val, look_own, fz_val, fz_own, fzs_nil, fzs_cons, fnStart, fnEnds, ret_val, ret_own, gCall, dCall, resume_val, resume_new, dSet, dgName, dgCons, dgNil, dgTup, dgSeq, DS.put, DS.new, DS.trim, trimS_un, trimS_val, trimS_strm, trimS_own, wipeR, dYes, seqD_lst, seqD_tup, iterD_lst, iterD_tup, iterD_str, lenD_lst, lenD_tup, lenD_str, tyD_non, tyD_bl, tyD_int, tyD_str, tyD_lst, tyD_tup, tyD_dic, isiD, flatD_non, flatD_bl, flatD_int, flatD_str, atD_lst, atD_tup, dPar, dIf, dDrop, dBM, gAppend, gExtend, gPopAt, gClear, diSeq, diRng1, diRng2, diEnum, diZip, dSl, dPart, dNo, gSl, gInS, gIn, gPlus, gOr, gCat, gCatS, gTimes, gRep, gI, blsD, putAll, dParT, dStar, DS.ice, iceS_un, iceS_val, iceS_strm, iceS_own, dOr2, gNeS, and_assoc]
    refine (after_of (m := lay) (y := .tup [.lst la, .lst lb, c]) (la := la) (lb := lb) (lh := []) (c := c) A.gl rfl hc rfl (loose_layers (n := 2) A.gy rfl hr) (loose_seq hr) A.gy (by have := A.ly; omega) A.ll ?_)
    have k := k n' hn'
    rcases A.res with e | ⟨rr, e, hl, hg⟩
    · rw [e] at k ⊢
      simpa [dRet, dAndV, dOrV, dNotV, dIsi, dVar, dC, dOp, dCB, dCons, dNil, dLst, dTup, dSeq, dIfS, dOr, dAnd, dNot, dTest, dChain, dInG, gLen, gI0, gEq, gIx, gList, gTuple, gBls, look_val, look_own, fz_val, fz_own, fzs_nil, fzs_cons, fnStart, fnEnds, ret_val, ret_own, gCall, dCall, resume_val, resume_new, dSet, dgName, dgCons, dgNil, dgTup, dgSeq, DS.put, DS.new, DS.trim, trimS_un, trimS_val, trimS_strm, trimS_own, wipeR, dYes, seqD_lst, seqD_tup, iterD_lst, iterD_tup, iterD_str, lenD_lst, lenD_tup, lenD_str, tyD_non, tyD_bl, tyD_int, tyD_str, tyD_lst, tyD_tup, tyD_dic, isiD, flatD_non, flatD_bl, flatD_int, flatD_str, atD_lst, atD_tup, dPar, dIf, dDrop, dBM, gAppend, gExtend, gPopAt, gClear, diSeq, diRng1, diRng2, diEnum, diZip, dSl, dPart, dNo, gSl, gInS, gIn, gPlus, gOr, gCat, gCatS, gTimes, gRep, gI, blsD, putAll, dParT, dStar, DS.ice, iceS_un, iceS_val, iceS_strm, iceS_own, dOr2, gNeS, and_assoc, hard] using k
    · rw [e] at k ⊢
      simpa [dRet, dAndV, dOrV, dNotV, dIsi, dVar, dC, dOp, dCB, dCons, dNil, dLst, dTup, dSeq, dIfS, dOr, dAnd, dNot, dTest, dChain, dInG, gLen, gI0, gEq, gIx, gList, gTuple, gBls, look_val, look_own, fz_val, fz_own, fzs_nil, fzs_cons, fnStart, fnEnds, ret_val, ret_own, gCall, dCall, resume_val, resume_new, dSet, dgName, dgCons, dgNil, dgTup, dgSeq, DS.put, DS.new, DS.trim, trimS_un, trimS_val, trimS_strm, trimS_own, wipeR, dYes, seqD_lst, seqD_tup, iterD_lst, iterD_tup, iterD_str, lenD_lst, lenD_tup, lenD_str, tyD_non, tyD_bl, tyD_int, tyD_str, tyD_lst, tyD_tup, tyD_dic, isiD, flatD_non, flatD_bl, flatD_int, flatD_str, atD_lst, atD_tup, dPar, dIf, dDrop, dBM, gAppend, gExtend, gPopAt, gClear, diSeq, diRng1, diRng2, diEnum, diZip, dSl, dPart, dNo, gSl, gInS, gIn, gPlus, gOr, gCat, gCatS, gTimes, gRep, gI, blsD, putAll, dParT, dStar, DS.ice, iceS_un, iceS_val, iceS_strm, iceS_own, dOr2, gNeS, and_assoc, good_hards hg] using k
theorem same_b {x : D} {r : List S} {o : List (Bool × List D)} {n : Nat} {wa wb : DTE} {Θ : S → DS → Prop} (hp : pl 60 x = true) (hw : wid 1000000 60 x = true)
    (h : wa ⟨r.map (iceS o), [], n⟩ fun s d1 => wb d1 fun s' d2 => ∃ d3, fzs d2 [s, s'] = some ([x, x], d3) ∧ Θ (.val (.bl true)) ⟨r, o, d3.n⟩) (mono : ∀ d (P Q : S → DS → Prop), (∀ s d, P s d → Q s d) → wa d P → wa d Q) (mono' : ∀ d (P Q : S → DS → Prop), (∀ s d, P s d → Q s d) → wb d P → wb d Q) : dBorrow (dCall false 2 (m__law_same 60) (dCons wa (dCons wb dNil))) ⟨r, o, n⟩ Θ := by
  refine mono _ _ _ (fun s d1 => mono' _ _ _ fun s' d2 ⟨d3, e, k⟩ => ?_) h
  exact ⟨_, _, e, rfl, x, rfl, hp, by decide, hw, .inl ⟨_, rfl, rfl, k⟩⟩
end RH

set_option Elab.async false
set_option linter.all false
set_option maxRecDepth 100000
set_option maxHeartbeats 8000000
/-! readings: the law's turn, its tail -/
namespace RH
open PySem PySem.Spec PyProof.Rows L2

def w_aft0 : DTE := dCall false 2 m__law_after (dCons (dOp gIx (dVar 1) (dVar 8)) (dCons (dVar 7) dNil))
theorem aft0_b {l la lb lay : List D} {i m : Nat} (A : AftIn l la lb lay i) {s4 s5 s6 s9 s10 s11 : S} {o : List (Bool × List D)} {n : Nat} (hm : o[m]? = some (true, lay)) {Θ : S → DS → Prop}
    (k : resume (aftD la lb lay) ⟨RS l s4 s5 s6 m i s9 s10 s11, o.set m (false, lay), n⟩ Θ) : w_aft0 ⟨RS l s4 s5 s6 m i s9 s10 s11, o, n⟩ Θ := by
  unfold w_aft0
  obtain ⟨c, hc⟩ := A.at_
  obtain ⟨na, nb, ga, gb⟩ := A.ga
  have e : atI l ((i : Nat) : Int) = some (.tup [.lst la, .lst lb, c]) := atN (by omega) (by simpa using hc)
  simp [dRet, dAndV, dOrV, dNotV, dIsi, dVar, dC, dOp, dCB, dCons, dNil, dLst, dTup, dSeq, dIfS, dOr, dAnd, dNot, dTest, dChain, dInG, gLen, gI0, gEq, gIx, gList, gTuple, gBls, look_val, look_own, fz_val, fz_own, fzs_nil, fzs_cons, fnStart, fnEnds, ret_val, ret_own, gCall, dCall, resume_val, resume_new, dSet, dgName, dgCons, dgNil, dgTup, dgSeq, DS.put, DS.new, DS.trim, trimS_un, trimS_val, trimS_strm, trimS_own, wipeR, dYes, seqD_lst, seqD_tup, iterD_lst, iterD_tup, iterD_str, lenD_lst, lenD_tup, lenD_str, tyD_non, tyD_bl, tyD_int, tyD_str, tyD_lst, tyD_tup, tyD_dic, isiD, flatD_non, flatD_bl, flatD_int, flatD_str, atD_lst, atD_tup, dPar, dIf, dDrop, dBM, gAppend, gExtend, gPopAt, gClear, diSeq, diRng1, diRng2, diEnum, diZip, dSl, dPart, dNo, gSl, gInS, gIn, gPlus, gOr, gCat, gCatS, gTimes, gRep, gI, blsD, putAll, dParT, dStar, DS.ice, iceS_un, iceS_val, iceS_strm, iceS_own, dOr2, gNeS, and_assoc, hm, e]
  refine ⟨.tup [.lst la, .lst lb, c], .lst la, .lst lb, c, la, lb, lay, rfl, rfl, rfl, rfl, pls_all' fun z hz => pl_goodL (n := 59) (ga z hz), pls_all' fun z hz => pl_goodL (n := 59) (A.gy z hz), by have := A.ly; omega, ?_⟩
  exact k
def w_ret0 : DTS := dRet (dC (.bl false))
def w_tail : DTS :=
  (dSeq (dSet w_aft0 (dgName 4))
    (dSeq (dPar 9 10 (dCons w_aft1 (dCons w_aft2 dNil)))
    (dSeq (dIfS (dNot (dTest (dBorrow (dCall false 2 (m__law_same 60) (dCons (dLst (dCons (dVar 9) (dCons (dVar 10) dNil))) (dCons (dLst (dCons (dVar 4) (dCons (dVar 4) dNil))) dNil))))))
      w_ret0
      (fun d Φ => Φ.nx d))
    (dSeq (dDrop (dOr2 (dCall false 1 (m__law_spoilt 60) (dCons (dVar 9) dNil)) (dCallO false 0 (mo__law_spoilt 60) (dCons (dVar 9) dNil))))
    (dIfS (dOr (dNot (dTest (dBorrow (dCall false 2 (m__law_same 60) (dCons w_aft1 (dCons (dVar 4) dNil)))))) (dTest (dOp gNeS (dBorrow (dCB gRepr (dCons (dVar 2) dNil))) (dVar 3))))
      w_ret0
      (fun d Φ => Φ.nx d))))))
theorem pl_res {n : Nat} {rr : List D} (h : ∀ z ∈ rr, goodL z) : pl (n + 3) (.lst [.lst rr, .lst rr]) = true := pls_all' fun z hz => by
  simp only [List.mem_cons, List.not_mem_nil, or_false] at hz
  rcases hz with rfl | rfl
  · exact pl_lst_good (n := n) h
  · exact pl_lst_good (n := n) h
theorem wid_res {n : Nat} {rr : List D} (h : ∀ z ∈ rr, goodL z) (hl : rr.length ≤ 16) : wid 1000000 (n + 1) (.lst [.lst rr, .lst rr]) = true := wid_of rfl (by simp) fun z hz => by
  simp only [List.mem_cons, List.not_mem_nil, or_false] at hz
  rcases hz with rfl | rfl
  · exact wid_layers rfl (by decide) (by omega) h
  · exact wid_layers rfl (by decide) (by omega) h
/-- what is left behind a turn -/
structure TurnEnd (l : List D) (s5 s11 : S) (o : List (Bool × List D)) (n : Nat) (d : DS) : Prop where
  r : ∃ s4 s6 s7 s8 s9 s10, d.r = [.strm, .val (.lst l), .own 0, .val (.str (repS l)), s4, s5, s6, s7, s8, s9, s10, s11]
  o : d.o.take 3 = o.take 3
  n : d.n ≤ n
theorem take_set3 {o : List (Bool × List D)} {m : Nat} {x : Bool × List D} (h : 3 ≤ m) : (o.set m x).take 3 = o.take 3 := by
  rw [List.take_set]
  exact List.set_eq_of_length_le (by rw [List.length_take]; omega)
theorem tail_non {l la lb lay : List D} {i m : Nat} (A : AftIn l la lb lay i) (e : aftD la lb lay = .val .non) {s4 s5 s6 s9 s10 s11 : S} {o : List (Bool × List D)} {n : Nat} (h0 : o[0]? = some (true, l)) (hm : o[m]? = some (true, lay)) (hm3 : 3 ≤ m) (hn : n ≤ 890000) {Φ : DEnds}
    (k : ∀ d, TurnEnd l s5 s11 o (n + 1885) d → Φ.nx d) : w_tail ⟨RS l s4 s5 s6 m i s9 s10 s11, o, n⟩ Φ := by
  unfold w_tail
  simp only [dSeq, dSet]
  refine aft0_b A hm ?_
  rw [e]
  have hlt : m < o.length := (List.getElem?_eq_some_iff.mp hm).1
  have h0' : (o.set m (false, lay))[0]? = some (true, l) := by rw [List.getElem?_set_ne (by omega), h0]
  have hm' : (o.set m (false, lay))[m]? = some (false, lay) := by rw [List.getElem?_set_self hlt]
  rw [resume_val]
  refine ⟨by simp, ?_⟩
  simp only [dPar, dCons, dNil, DS.put, RS, List.set_cons_succ, List.set_cons_zero]
  refine aft1_b (s4 := .val .non) (s9 := s9) (s10 := s10) A h0' hm' ?_
  rw [e, resume_val]
  refine aft2_b (s4 := .val .non) (s9 := s9) (s10 := s10) A h0' hm' hn fun n' hn' => ?_
  rw [e, resume_val]
  have q1 : pl 60 (.lst [.non, .non]) = true := rfl
  have q2 : wid 1000000 60 (.lst [.non, .non]) = true := wid_of rfl (by simp) fun z hz => by
    simp only [List.mem_cons, List.not_mem_nil, or_false] at hz
    rcases hz with rfl | rfl <;> rfl
  have q3 : wid 1000000 60 .non = true := wid_none rfl
  have q4 : pl 60 .non = true := rfl
  obtain ⟨a1, a2, a3, a4, a5⟩ := repr_lots A.gl A.ll
  have hK : KW 12 4 = 1885 := rfl
  simp [dRet, dAndV, dOrV, dNotV, dIsi, dVar, dC, dOp, dCB, dCons, dNil, dLst, dTup, dSeq, dIfS, dOr, dAnd, dNot, dTest, dChain, dInG, gLen, gI0, gEq, gIx, gList, gTuple, gBls, look_val, look_own, fz_val, fz_own, fzs_nil, fzs_cons, fnStart, fnEnds, ret_val, ret_own, gCall, dCall, resume_val, resume_new, dSet, dgName, dgCons, dgNil, dgTup, dgSeq, DS.put, DS.new, DS.trim, trimS_un, trimS_val, trimS_strm, trimS_own, wipeR, dYes, seqD_lst, seqD_tup, iterD_lst, iterD_tup, iterD_str, lenD_lst, lenD_tup, lenD_str, tyD_non, tyD_bl, tyD_int, tyD_str, tyD_lst, tyD_tup, tyD_dic, isiD, flatD_non, flatD_bl, flatD_int, flatD_str, atD_lst, atD_tup, dPar, dIf, dDrop, dBM, gAppend, gExtend, gPopAt, gClear, diSeq, diRng1, diRng2, diEnum, diZip, dSl, dPart, dNo, gSl, gInS, gIn, gPlus, gOr, gCat, gCatS, gTimes, gRep, gI, blsD, putAll, dParT, dStar, DS.ice, iceS_un, iceS_val, iceS_strm, iceS_own, dOr2, gNeS, and_assoc, dBorrow, m__law_same, m__law_spoilt, q1, q2, q4, hard, h0', hm', gRepr, a1, a2, a3, a4, a5]
  refine .inl (aft1_g A ?_ ?_ ?_ ?_)
  · rfl
  · rfl
  · rfl
  rw [e, resume_val]
  have hr : (py (.lst l)).shown = repS l := rfl
  simp [dRet, dAndV, dOrV, dNotV, dIsi, dVar, dC, dOp, dCB, dCons, dNil, dLst, dTup, dSeq, dIfS, dOr, dAnd, dNot, dTest, dChain, dInG, gLen, gI0, gEq, gIx, gList, gTuple, gBls, look_val, look_own, fz_val, fz_own, fzs_nil, fzs_cons, fnStart, fnEnds, ret_val, ret_own, gCall, dCall, resume_val, resume_new, dSet, dgName, dgCons, dgNil, dgTup, dgSeq, DS.put, DS.new, DS.trim, trimS_un, trimS_val, trimS_strm, trimS_own, wipeR, dYes, seqD_lst, seqD_tup, iterD_lst, iterD_tup, iterD_str, lenD_lst, lenD_tup, lenD_str, tyD_non, tyD_bl, tyD_int, tyD_str, tyD_lst, tyD_tup, tyD_dic, isiD, flatD_non, flatD_bl, flatD_int, flatD_str, atD_lst, atD_tup, dPar, dIf, dDrop, dBM, gAppend, gExtend, gPopAt, gClear, diSeq, diRng1, diRng2, diEnum, diZip, dSl, dPart, dNo, gSl, gInS, gIn, gPlus, gOr, gCat, gCatS, gTimes, gRep, gI, blsD, putAll, dParT, dStar, DS.ice, iceS_un, iceS_val, iceS_strm, iceS_own, dOr2, gNeS, and_assoc, q3, q4, hr]
  exact k _ ⟨⟨_, _, _, _, _, _, rfl⟩, take_set3 hm3, by show n' ≤ n + 1885; omega⟩
theorem tail_new {l la lb lay rr : List D} {i m : Nat} (A : AftIn l la lb lay i) (e : aftD la lb lay = .new rr) (hl : rr.length ≤ 16) (hg : ∀ z ∈ rr, goodL z) {s4 s5 s6 s9 s10 s11 : S} {o : List (Bool × List D)} {n : Nat} (h0 : o[0]? = some (true, l)) (hm : o[m]? = some (true, lay)) (hm3 : 3 ≤ m) (hn : n ≤ 890000) {Φ : DEnds}
    (k : ∀ d, TurnEnd l s5 s11 o (n + 1885) d → Φ.nx d) : w_tail ⟨RS l s4 s5 s6 m i s9 s10 s11, o, n⟩ Φ := by
  unfold w_tail
  simp only [dSeq, dSet]
  refine aft0_b A hm ?_
  rw [e]
  have hlt : m < o.length := (List.getElem?_eq_some_iff.mp hm).1
  have h0' : (o.set m (false, lay))[0]? = some (true, l) := by rw [List.getElem?_set_ne (by omega), h0]
  have hm' : (o.set m (false, lay))[m]? = some (false, lay) := by rw [List.getElem?_set_self hlt]
  have hlen : (o.set m (false, lay)).length = o.length := List.length_set ..
  have ht : (o.set m (false, lay)).take 3 = o.take 3 := take_set3 hm3
  generalize o.set m (false, lay) = o2 at *
  have q0 : 0 < o2.length := by omega
  have qm : m < o2.length := by omega
  rw [resume_new]
  refine ⟨by simp [DS.new], ?_⟩
  simp only [dPar, dCons, dNil, DS.put, DS.new, RS, List.set_cons_succ, List.set_cons_zero]
  have g0 : ∀ x, (o2 ++ x)[0]? = some (true, l) := fun x => by rw [List.getElem?_append_left q0, h0']
  have gm : ∀ x, (o2 ++ x)[m]? = some (false, lay) := fun x => by rw [List.getElem?_append_left qm, hm']
  refine aft1_b (s4 := .own o2.length) (s9 := s9) (s10 := s10) A (g0 _) (gm _) ?_
  rw [e, resume_new]
  simp only [DS.new, List.append_assoc]
  refine aft2_b (s4 := .own o2.length) (s9 := s9) (s10 := s10) A (g0 _) (gm _) hn fun n' hn' => ?_
  rw [e, resume_new]
  have q1 : pl 60 (.lst [.lst rr, .lst rr]) = true := pl_res (n := 57) hg
  have q2 : wid 1000000 60 (.lst [.lst rr, .lst rr]) = true := wid_res (n := 59) hg hl
  have q3 : wid 1000000 60 (.lst rr) = true := wid_layers rfl (by decide) (by omega) hg
  have q4 : pl 60 (.lst rr) = true := pl_lst_good (n := 58) hg
  have q5 : pls 60 rr = true := pls_all' fun z hz => pl_goodL (n := 59) (hg z hz)
  have q6 : hards rr = true := good_hards hg
  obtain ⟨a1, a2, a3, a4, a5⟩ := repr_lots A.gl A.ll
  have hK : KW 12 4 = 1885 := rfl
  simp [dRet, dAndV, dOrV, dNotV, dIsi, dVar, dC, dOp, dCB, dCons, dNil, dLst, dTup, dSeq, dIfS, dOr, dAnd, dNot, dTest, dChain, dInG, gLen, gI0, gEq, gIx, gList, gTuple, gBls, look_val, look_own, fz_val, fz_own, fzs_nil, fzs_cons, fnStart, fnEnds, ret_val, ret_own, gCall, dCall, resume_val, resume_new, dSet, dgName, dgCons, dgNil, dgTup, dgSeq, DS.put, DS.new, DS.trim, trimS_un, trimS_val, trimS_strm, trimS_own, wipeR, dYes, seqD_lst, seqD_tup, iterD_lst, iterD_tup, iterD_str, lenD_lst, lenD_tup, lenD_str, tyD_non, tyD_bl, tyD_int, tyD_str, tyD_lst, tyD_tup, tyD_dic, isiD, flatD_non, flatD_bl, flatD_int, flatD_str, atD_lst, atD_tup, dPar, dIf, dDrop, dBM, gAppend, gExtend, gPopAt, gClear, diSeq, diRng1, diRng2, diEnum, diZip, dSl, dPart, dNo, gSl, gInS, gIn, gPlus, gOr, gCat, gCatS, gTimes, gRep, gI, blsD, putAll, dParT, dStar, DS.ice, iceS_un, iceS_val, iceS_strm, iceS_own, dOr2, gNeS, and_assoc, dBorrow, m__law_same, m__law_spoilt, q1, q2, q4, hard, g0, gm, gRepr, a1, a2, a3, a4, a5]
  have ge : (o2 ++ [(true, rr), (true, rr), (true, rr)])[o2.length + 1]? = some (true, rr) := by rw [List.getElem?_append_right (by omega)]; simp
  refine ⟨.own (o2.length + 1), rfl, fun h => (by cases h), [], o2.length + 1, [], _, rr, rfl, rfl, ge, rfl, rfl, q6, q5, by omega, ?_⟩
  dsimp only
  have f0 : ((o2 ++ [(true, rr), (true, rr), (true, rr)]).set (o2.length + 1) (true, rr ++ [D.str "late"]))[0]? = some (true, l) := by rw [List.getElem?_set_ne (by omega), g0]
  have fm : ((o2 ++ [(true, rr), (true, rr), (true, rr)]).set (o2.length + 1) (true, rr ++ [D.str "late"]))[m]? = some (false, lay) := by rw [List.getElem?_set_ne (by omega), gm]
  have fd : ((o2 ++ [(true, rr), (true, rr), (true, rr)]).set (o2.length + 1) (true, rr ++ [D.str "late"]))[o2.length]? = some (true, rr) := by
    rw [List.getElem?_set_ne (by omega), List.getElem?_append_right (Nat.le_refl _)]; simp
  have ft : ((o2 ++ [(true, rr), (true, rr), (true, rr)]).set (o2.length + 1) (true, rr ++ [D.str "late"])).take 3 = o.take 3 := by
    rw [take_set3 (by omega), List.take_append_of_le_length (by omega), ht]
  generalize (o2 ++ [(true, rr), (true, rr), (true, rr)]).set (o2.length + 1) (true, rr ++ [D.str "late"]) = o3 at *
  have hr : (py (.lst l)).shown = repS l := rfl
  refine aft1_g A ?_ ?_ ?_ ?_
  · simp [f0, iceS_own, iceS_val]
  · simp [fm, iceS_own, iceS_val]
  · simp [iceS_own, iceS_val]
  rw [e, resume_new]
  simp [dRet, dAndV, dOrV, dNotV, dIsi, dVar, dC, dOp, dCB, dCons, dNil, dLst, dTup, dSeq, dIfS, dOr, dAnd, dNot, dTest, dChain, dInG, gLen, gI0, gEq, gIx, gList, gTuple, gBls, look_val, look_own, fz_val, fz_own, fzs_nil, fzs_cons, fnStart, fnEnds, ret_val, ret_own, gCall, dCall, resume_val, resume_new, dSet, dgName, dgCons, dgNil, dgTup, dgSeq, DS.put, DS.new, DS.trim, trimS_un, trimS_val, trimS_strm, trimS_own, wipeR, dYes, seqD_lst, seqD_tup, iterD_lst, iterD_tup, iterD_str, lenD_lst, lenD_tup, lenD_str, tyD_non, tyD_bl, tyD_int, tyD_str, tyD_lst, tyD_tup, tyD_dic, isiD, flatD_non, flatD_bl, flatD_int, flatD_str, atD_lst, atD_tup, dPar, dIf, dDrop, dBM, gAppend, gExtend, gPopAt, gClear, diSeq, diRng1, diRng2, diEnum, diZip, dSl, dPart, dNo, gSl, gInS, gIn, gPlus, gOr, gCat, gCatS, gTimes, gRep, gI, blsD, putAll, dParT, dStar, DS.ice, iceS_un, iceS_val, iceS_strm, iceS_own, dOr2, gNeS, and_assoc, q3, q4, hr, fd, f0, fm, a1, a2, a3, a4, a5]
  exact ⟨by rw [← hr]; exact a5, k _ ⟨⟨_, _, _, _, _, _, rfl⟩, ft, by show n' ≤ n + 1885; omega⟩⟩
theorem tail_b {l la lb lay : List D} {i m : Nat} (A : AftIn l la lb lay i) {s4 s5 s6 s9 s10 s11 : S} {o : List (Bool × List D)} {n : Nat} (h0 : o[0]? = some (true, l)) (hm : o[m]? = some (true, lay)) (hm3 : 3 ≤ m) (hn : n ≤ 890000) {Φ : DEnds}
    (k : ∀ d, TurnEnd l s5 s11 o (n + 1885) d → Φ.nx d) : w_tail ⟨RS l s4 s5 s6 m i s9 s10 s11, o, n⟩ Φ := by
  rcases A.res with e | ⟨rr, e, hl, hg⟩
  · exact tail_non A e h0 hm hm3 hn k
  · exact tail_new A e hl hg h0 hm hm3 hn k
end RH

set_option Elab.async false
set_option linter.all false
set_option maxRecDepth 100000
set_option maxHeartbeats 8000000
/-! readings: the law's turn, whole; _law_right -/
namespace RH
open PySem PySem.Spec PyProof.Rows L2

def w_turn : DTS :=
  (dSeq (dSet w_lay (dgName 7))
    (dSeq (dSet (dCall true 1 m__law_draw (dCons (dVar 0) (dCons (dCB gLen (dCons (dVar 1) dNil)) dNil))) (dgName 8))
    (dSeq (dSet (dIf (dTest (dOp (gEq id) (dCall true 1 m__law_draw (dCons (dVar 0) (dCons (dC (.int 2)) dNil))) (dC (.int 0)))) (dOp gPlus (dCB gList (dCons (dOp gIx (dOp gIx (dVar 1) (dVar 8)) (dC (.int 0))) dNil)) (dVar 7)) (dVar 7)) (dgName 7))
    w_tail)))
theorem turn_b {l : List D} (h : ∀ y ∈ l, Good y) (hl0 : 0 < l.length) (hl : l.length ≤ 12) {s4 s5 s6 s7 s8 s9 s10 s11 : S} {o : List (Bool × List D)} {n : Nat} (h0 : o[0]? = some (true, l)) (ho : o.length = 3) (hn : n ≤ 880000) {Φ : DEnds}
    (k : ∀ d, TurnEnd l s5 .un o (n + 2000) d → Φ.nx d) : w_turn ⟨[.strm, .val (.lst l), .own 0, .val (.str (repS l)), s4, s5, s6, s7, s8, s9, s10, s11], o, n⟩ Φ := by
  unfold w_turn
  simp only [dSeq, dSet]
  refine lay_lc h hl (by omega) fun lay n1 hll hgl hn1 => ?_
  have g0 : ∀ x, (o ++ x)[0]? = some (true, l) := fun x => by rw [List.getElem?_append_left (by omega), h0]
  have g3 : (o ++ [(true, lay)])[o.length]? = some (true, lay) := by rw [List.getElem?_append_right (Nat.le_refl _)]; simp
  have g3' : ∀ x, (o ++ (true, lay) :: x)[o.length]? = some (true, lay) := fun x => by rw [List.getElem?_append_right (Nat.le_refl _)]; simp
  simp [dRet, dAndV, dOrV, dNotV, dIsi, dVar, dC, dOp, dCB, dCons, dNil, dLst, dTup, dSeq, dIfS, dOr, dAnd, dNot, dTest, dChain, dInG, gLen, gI0, gEq, gIx, gList, gTuple, gBls, look_val, look_own, fz_val, fz_own, fzs_nil, fzs_cons, fnStart, fnEnds, ret_val, ret_own, gCall, dCall, resume_val, resume_new, dSet, dgName, dgCons, dgNil, dgTup, dgSeq, DS.put, DS.new, DS.trim, trimS_un, trimS_val, trimS_strm, trimS_own, wipeR, dYes, seqD_lst, seqD_tup, iterD_lst, iterD_tup, iterD_str, lenD_lst, lenD_tup, lenD_str, tyD_non, tyD_bl, tyD_int, tyD_str, tyD_lst, tyD_tup, tyD_dic, isiD, flatD_non, flatD_bl, flatD_int, flatD_str, atD_lst, atD_tup, dPar, dIf, dDrop, dBM, gAppend, gExtend, gPopAt, gClear, diSeq, diRng1, diRng2, diEnum, diZip, dSl, dPart, dNo, gSl, gInS, gIn, gPlus, gOr, gCat, gCatS, gTimes, gRep, gI, blsD, putAll, dParT, dStar, DS.ice, iceS_un, iceS_val, iceS_strm, iceS_own, dOr2, gNeS, and_assoc, m__law_draw]
  refine ⟨by omega, by omega, by omega, fun i i0 i1 => ⟨by omega, fun j j0 j1 => ?_⟩⟩
  have hil : i.toNat < l.length := by omega
  obtain ⟨la, lb, c, hy, na, nb, ga, gb, gc⟩ := (h l[i.toNat] (List.getElem_mem hil)).ex
  have hat : l[i.toNat]? = some (.tup [.lst la, .lst lb, c]) := by rw [List.getElem?_eq_getElem hil, hy]
  have e : atI l i = some (.tup [.lst la, .lst lb, c]) := atN i0 hat
  have hi : ((i.toNat : Nat) : Int) = i := by omega
  simp [dRet, dAndV, dOrV, dNotV, dIsi, dVar, dC, dOp, dCB, dCons, dNil, dLst, dTup, dSeq, dIfS, dOr, dAnd, dNot, dTest, dChain, dInG, gLen, gI0, gEq, gIx, gList, gTuple, gBls, look_val, look_own, fz_val, fz_own, fzs_nil, fzs_cons, fnStart, fnEnds, ret_val, ret_own, gCall, dCall, resume_val, resume_new, dSet, dgName, dgCons, dgNil, dgTup, dgSeq, DS.put, DS.new, DS.trim, trimS_un, trimS_val, trimS_strm, trimS_own, wipeR, dYes, seqD_lst, seqD_tup, iterD_lst, iterD_tup, iterD_str, lenD_lst, lenD_tup, lenD_str, tyD_non, tyD_bl, tyD_int, tyD_str, tyD_lst, tyD_tup, tyD_dic, isiD, flatD_non, flatD_bl, flatD_int, flatD_str, atD_lst, atD_tup, dPar, dIf, dDrop, dBM, gAppend, gExtend, gPopAt, gClear, diSeq, diRng1, diRng2, diEnum, diZip, dSl, dPart, dNo, gSl, gInS, gIn, gPlus, gOr, gCat, gCatS, gTimes, gRep, gI, blsD, putAll, dParT, dStar, DS.ice, iceS_un, iceS_val, iceS_strm, iceS_own, dOr2, gNeS, and_assoc, eqs_int, py_int, eqv_int, e, at0, g3, g3']
  by_cases hj : j = 0
  · simp [hj]
    refine ⟨by omega, ?_⟩
    have t := tail_b (i := i.toNat) (l := l) (la := la) (lb := lb) (lay := la ++ lay) (m := o.length + 1 + 1) (o := o ++ [(true, lay), (true, la), (true, la ++ lay)]) (n := n1 + 1 + 1) (s4 := s4) (s5 := s5) (s6 := s6) (s9 := s9) (s10 := s10) (s11 := .un) (Φ := Φ) ⟨h, hl, ⟨c, hat⟩, fun z hz => (List.mem_append.mp hz).elim (ga z) (hgl z), by rw [List.length_append]; omega⟩ (g0 _) (by rw [List.getElem?_append_right (by omega)]; simp [Nat.add_sub_cancel_left, Nat.add_assoc]) (by omega) (by omega) fun d T => k d ⟨T.r, by rw [T.o, List.take_append_of_le_length (by omega)], by have := T.n; omega⟩
    simp only [RS] at t
    rw [hi] at t
    exact t
  · simp [hj]
    have t := tail_b (i := i.toNat) (l := l) (la := la) (lb := lb) (lay := lay) (m := o.length) (o := o ++ [(true, lay)]) (n := n1 + 1 + 1) (s4 := s4) (s5 := s5) (s6 := s6) (s9 := s9) (s10 := s10) (s11 := .un) (Φ := Φ) ⟨h, hl, ⟨c, hat⟩, hgl, by omega⟩ (g0 _) g3 (by omega) (by omega) fun d T => k d ⟨T.r, by rw [T.o, List.take_append_of_le_length (by omega)], by have := T.n; omega⟩
    simp only [RS] at t
    rw [hi] at t
    exact t
def w_loop : DTS := dFor (diRng1 (dCons (dC (.int 6)) dNil)) (dgName 6) w_turn
theorem loop_b {l : List D} (h : ∀ y ∈ l, Good y) (hl0 : 0 < l.length) (hl : l.length ≤ 12) {s4 s6 s7 s8 s9 s10 s11 : S} {x1 x2 : Bool × List D} {n : Nat} (hn : n ≤ 860000) {Φ : DEnds}
    (k : ∀ s4 s6 s7 s8 s9 s10 s11 n', n' ≤ n + 12000 → Φ.nx ⟨[.strm, .val (.lst l), .own 0, .val (.str (repS l)), s4, .own 2, s6, s7, s8, s9, s10, s11], [(true, l), x1, x2], n'⟩) : w_loop ⟨[.strm, .val (.lst l), .own 0, .val (.str (repS l)), s4, .own 2, s6, s7, s8, s9, s10, s11], [(true, l), x1, x2], n⟩ Φ := by
  unfold w_loop dFor
  simp [dRet, dAndV, dOrV, dNotV, dIsi, dVar, dC, dOp, dCB, dCons, dNil, dLst, dTup, dSeq, dIfS, dOr, dAnd, dNot, dTest, dChain, dInG, gLen, gI0, gEq, gIx, gList, gTuple, gBls, look_val, look_own, fz_val, fz_own, fzs_nil, fzs_cons, fnStart, fnEnds, ret_val, ret_own, gCall, dCall, resume_val, resume_new, dSet, dgName, dgCons, dgNil, dgTup, dgSeq, DS.put, DS.new, DS.trim, trimS_un, trimS_val, trimS_strm, trimS_own, wipeR, dYes, seqD_lst, seqD_tup, iterD_lst, iterD_tup, iterD_str, lenD_lst, lenD_tup, lenD_str, tyD_non, tyD_bl, tyD_int, tyD_str, tyD_lst, tyD_tup, tyD_dic, isiD, flatD_non, flatD_bl, flatD_int, flatD_str, atD_lst, atD_tup, dPar, dIf, dDrop, dBM, gAppend, gExtend, gPopAt, gClear, diSeq, diRng1, diRng2, diEnum, diZip, dSl, dPart, dNo, gSl, gInS, gIn, gPlus, gOr, gCat, gCatS, gTimes, gRep, gI, blsD, putAll, dParT, dStar, DS.ice, iceS_un, iceS_val, iceS_strm, iceS_own, dOr2, gNeS, and_assoc]
  refine ⟨fun t d => t ≤ 6 ∧ ∃ s4 s6 s7 s8 s9 s10 s11 n', d = ⟨[.strm, .val (.lst l), .own 0, .val (.str (repS l)), s4, .own 2, s6, s7, s8, s9, s10, s11], [(true, l), x1, x2], n'⟩ ∧ n' ≤ n + t * 2000, ⟨by omega, _, _, _, _, _, _, _, _, rfl, by omega⟩, ?_, ?_⟩
  · rintro t y d hy ⟨ht, s4, s6, s7, s8, s9, s10, s11, n', rfl, hn'⟩
    obtain ⟨hlt, rfl⟩ := rng_get hy
    refine ⟨by simp, ?_⟩
    refine turn_b h hl0 hl rfl rfl (by show n' ≤ 880000; omega) fun d T => ?_
    obtain ⟨r, o, m⟩ := d
    obtain ⟨⟨t4, t6, t7, t8, t9, t10, er⟩, eo, en⟩ := T
    simp only at er eo en
    subst er
    have en : m ≤ n' + 2000 := en
    refine ⟨by omega, trimS 3 t4, trimS 3 t6, trimS 3 t7, trimS 3 t8, trimS 3 t9, trimS 3 t10, trimS 3 .un, m, ?_, by omega⟩
    show DS.mk _ _ _ = _
    rw [eo]
    rfl
  · rintro d ht
    rw [rng_len] at ht
    obtain ⟨ht, s4, s6, s7, s8, s9, s10, s11, n', rfl, hn'⟩ := ht
    exact k _ _ _ _ _ _ _ _ (by simpa using hn')
def mo__law_right : OM := fun ds lh n Ψ => ∃ l, ds = [.lst l] ∧ (∀ y ∈ l, Good y) ∧ 0 < l.length ∧ l.length ≤ 12 ∧ lh.length ≤ 1000 ∧ n ≤ 800000 ∧ ∀ n', n' ≤ n + 15000 → Ψ (.bl true) l n'
/-- _law_right: _law_stream_here, _law_some, _law_held, _law_was, _law_due, _law_told, _law_k, _law_layers, _law_rule, _law_found, _law_again, _law_one -/
def wo__law_right : DTS :=
  (dSeq (dDrop (dBM gClear (dVar 2) dNil))
    (dSeq (dDrop (dBM gExtend (dVar 2) (dCons (dVar 1) dNil)))
    (dSeq (dPar 3 4 (dCons (dBorrow (dCB gRepr (dCons (dVar 2) dNil))) (dCons (dCall false 1 m__law_controls (dCons (dVar 1) dNil)) dNil)))
    (dSeq (dSet (dBorrow (dCall false 1 m_controls (dCons (dVar 2) dNil))) (dgName 5))
    (dSeq (dIfS (dOr (dNot (dTest (dBorrow (dCall false 2 (m__law_same 60) (dCons (dVar 5) (dCons (dVar 4) dNil)))))) (dOr (dNot (dTest (dBorrow (dCall false 2 (m__law_same 60) (dCons (dBorrow (dCallK false 1 m_controls 0 1 [0] dNil (dCons (dCall true 1 (m__law_loose 4) (dCons (dVar 0) (dCons (dVar 1) dNil))) dNil))) (dCons (dVar 4) dNil)))))) (dTest (dOp gNeS (dBorrow (dCB gRepr (dCons (dVar 2) dNil))) (dVar 3)))))
      (dRet (dC (.bl false)))
      (fun d Φ => Φ.nx d))
    (dSeq (dDrop (dBM gAppend (dVar 5) (dCons (dC (.str "late")) dNil)))
    (dSeq (dIfS (dNot (dTest (dBorrow (dCall false 2 (m__law_same 60) (dCons (dBorrow (dCall false 1 m_controls (dCons (dVar 2) dNil))) (dCons (dVar 4) dNil))))))
      (dRet (dC (.bl false)))
      (fun d Φ => Φ.nx d))
    (dSeq (dFor (diRng1 (dCons (dC (.int 6)) dNil)) (dgName 6)
      (dSeq (dSet (dLc (diRng1 (dCons (dCall true 1 m__law_draw (dCons (dVar 0) (dCons (dC (.int 5)) dNil))) dNil)) (dgName 11) dYes (dBorrow (dCall true 1 m__law_pick (dCons (dVar 0) (dCons (dOp gPlus (dCall false 1 m__law_layers_in (dCons (dVar 1) dNil)) (dLst (dCons (dTup (dCons (dC (.str "word")) (dCons (dC (.int 9)) dNil))) dNil))) dNil)))) [11]) (dgName 7))
    (dSeq (dSet (dCall true 1 m__law_draw (dCons (dVar 0) (dCons (dCB gLen (dCons (dVar 1) dNil)) dNil))) (dgName 8))
    (dSeq (dSet (dIf (dTest (dOp (gEq id) (dCall true 1 m__law_draw (dCons (dVar 0) (dCons (dC (.int 2)) dNil))) (dC (.int 0)))) (dOp gPlus (dCB gList (dCons (dOp gIx (dOp gIx (dVar 1) (dVar 8)) (dC (.int 0))) dNil)) (dVar 7)) (dVar 7)) (dgName 7))
    (dSeq (dSet (dCall false 2 m__law_after (dCons (dOp gIx (dVar 1) (dVar 8)) (dCons (dVar 7) dNil))) (dgName 4))
    (dSeq (dPar 9 10 (dCons (dBorrow (dCall false 3 m_after (dCons (dVar 2) (dCons (dVar 7) (dCons (dVar 8) dNil))))) (dCons (dBorrow (dCallK false 3 m_after 0 3 [2, 1, 0] dNil (dCons (dVar 8) (dCons (dCall true 1 (m__law_loose 4) (dCons (dVar 0) (dCons (dVar 7) dNil))) (dCons (dVar 1) dNil))))) dNil)))
    (dSeq (dIfS (dNot (dTest (dBorrow (dCall false 2 (m__law_same 60) (dCons (dLst (dCons (dVar 9) (dCons (dVar 10) dNil))) (dCons (dLst (dCons (dVar 4) (dCons (dVar 4) dNil))) dNil))))))
      (dRet (dC (.bl false)))
      (fun d Φ => Φ.nx d))
    (dSeq (dDrop (dOr2 (dCall false 1 (m__law_spoilt 60) (dCons (dVar 9) dNil)) (dCallO false 0 (mo__law_spoilt 60) (dCons (dVar 9) dNil))))
    (dIfS (dOr (dNot (dTest (dBorrow (dCall false 2 (m__law_same 60) (dCons (dBorrow (dCall false 3 m_after (dCons (dVar 2) (dCons (dVar 7) (dCons (dVar 8) dNil))))) (dCons (dVar 4) dNil)))))) (dTest (dOp gNeS (dBorrow (dCB gRepr (dCons (dVar 2) dNil))) (dVar 3))))
      (dRet (dC (.bl false)))
      (fun d Φ => Φ.nx d))))))))))
    (dRet (dC (.bl true)))))))))))
theorem rdo__law_right : ∀ ds lh n Ψ, ds.length = 1 → mo__law_right ds lh n Ψ → wo__law_right (fnStartO true ds lh 9 n) (fnEndsO Ψ) := by
  rintro ds lh n Ψ - ⟨l, rfl, h, hl0, hl, hlh, hn, k⟩
  have hK : KW 12 4 = 1885 := rfl
  unfold wo__law_right
  simp only [dSeq]
  simp [dRet, dAndV, dOrV, dNotV, dIsi, dVar, dC, dOp, dCB, dCons, dNil, dLst, dTup, dSeq, dIfS, dOr, dAnd, dNot, dTest, dChain, dInG, gLen, gI0, gEq, gIx, gList, gTuple, gBls, look_val, look_own, fz_val, fz_own, fzs_nil, fzs_cons, fnStart, fnEnds, ret_val, ret_own, gCall, dCall, resume_val, resume_new, dSet, dgName, dgCons, dgNil, dgTup, dgSeq, DS.put, DS.new, DS.trim, trimS_un, trimS_val, trimS_strm, trimS_own, wipeR, dYes, seqD_lst, seqD_tup, iterD_lst, iterD_tup, iterD_str, lenD_lst, lenD_tup, lenD_str, tyD_non, tyD_bl, tyD_int, tyD_str, tyD_lst, tyD_tup, tyD_dic, isiD, flatD_non, flatD_bl, flatD_int, flatD_str, atD_lst, atD_tup, dPar, dIf, dDrop, dBM, gAppend, gExtend, gPopAt, gClear, diSeq, diRng1, diRng2, diEnum, diZip, dSl, dPart, dNo, gSl, gInS, gIn, gPlus, gOr, gCat, gCatS, gTimes, gRep, gI, blsD, putAll, dParT, dStar, DS.ice, iceS_un, iceS_val, iceS_strm, iceS_own, dOr2, gNeS, and_assoc, fnStartO, show l.length ≤ 1000000 by omega, List.replicate]
  have c1 : pl 60 (.lst (ctlD l)) = true := ctl_pls h
  have c2 : wid 1000000 60 (.lst (ctlD l)) = true := wid_ctl h hl
  have c3 : hards (ctlD l) = true := ctl_hards h
  have c4 : (ctlD l).length ≤ 1201 := ctl_len h hl
  refine repr_b h hl rfl ?_
  simp [dRet, dAndV, dOrV, dNotV, dIsi, dVar, dC, dOp, dCB, dCons, dNil, dLst, dTup, dSeq, dIfS, dOr, dAnd, dNot, dTest, dChain, dInG, gLen, gI0, gEq, gIx, gList, gTuple, gBls, look_val, look_own, fz_val, fz_own, fzs_nil, fzs_cons, fnStart, fnEnds, ret_val, ret_own, gCall, dCall, resume_val, resume_new, dSet, dgName, dgCons, dgNil, dgTup, dgSeq, DS.put, DS.new, DS.trim, trimS_un, trimS_val, trimS_strm, trimS_own, wipeR, dYes, seqD_lst, seqD_tup, iterD_lst, iterD_tup, iterD_str, lenD_lst, lenD_tup, lenD_str, tyD_non, tyD_bl, tyD_int, tyD_str, tyD_lst, tyD_tup, tyD_dic, isiD, flatD_non, flatD_bl, flatD_int, flatD_str, atD_lst, atD_tup, dPar, dIf, dDrop, dBM, gAppend, gExtend, gPopAt, gClear, diSeq, diRng1, diRng2, diEnum, diZip, dSl, dPart, dNo, gSl, gInS, gIn, gPlus, gOr, gCat, gCatS, gTimes, gRep, gI, blsD, putAll, dParT, dStar, DS.ice, iceS_un, iceS_val, iceS_strm, iceS_own, dOr2, gNeS, and_assoc]
  refine lawctl h hl ?_
  simp [dRet, dAndV, dOrV, dNotV, dIsi, dVar, dC, dOp, dCB, dCons, dNil, dLst, dTup, dSeq, dIfS, dOr, dAnd, dNot, dTest, dChain, dInG, gLen, gI0, gEq, gIx, gList, gTuple, gBls, look_val, look_own, fz_val, fz_own, fzs_nil, fzs_cons, fnStart, fnEnds, ret_val, ret_own, gCall, dCall, resume_val, resume_new, dSet, dgName, dgCons, dgNil, dgTup, dgSeq, DS.put, DS.new, DS.trim, trimS_un, trimS_val, trimS_strm, trimS_own, wipeR, dYes, seqD_lst, seqD_tup, iterD_lst, iterD_tup, iterD_str, lenD_lst, lenD_tup, lenD_str, tyD_non, tyD_bl, tyD_int, tyD_str, tyD_lst, tyD_tup, tyD_dic, isiD, flatD_non, flatD_bl, flatD_int, flatD_str, atD_lst, atD_tup, dPar, dIf, dDrop, dBM, gAppend, gExtend, gPopAt, gClear, diSeq, diRng1, diRng2, diEnum, diZip, dSl, dPart, dNo, gSl, gInS, gIn, gPlus, gOr, gCat, gCatS, gTimes, gRep, gI, blsD, putAll, dParT, dStar, DS.ice, iceS_un, iceS_val, iceS_strm, iceS_own, dOr2, gNeS, and_assoc, dBorrow]
  refine ctl_good h hl rfl ?_
  simp [dRet, dAndV, dOrV, dNotV, dIsi, dVar, dC, dOp, dCB, dCons, dNil, dLst, dTup, dSeq, dIfS, dOr, dAnd, dNot, dTest, dChain, dInG, gLen, gI0, gEq, gIx, gList, gTuple, gBls, look_val, look_own, fz_val, fz_own, fzs_nil, fzs_cons, fnStart, fnEnds, ret_val, ret_own, gCall, dCall, resume_val, resume_new, dSet, dgName, dgCons, dgNil, dgTup, dgSeq, DS.put, DS.new, DS.trim, trimS_un, trimS_val, trimS_strm, trimS_own, wipeR, dYes, seqD_lst, seqD_tup, iterD_lst, iterD_tup, iterD_str, lenD_lst, lenD_tup, lenD_str, tyD_non, tyD_bl, tyD_int, tyD_str, tyD_lst, tyD_tup, tyD_dic, isiD, flatD_non, flatD_bl, flatD_int, flatD_str, atD_lst, atD_tup, dPar, dIf, dDrop, dBM, gAppend, gExtend, gPopAt, gClear, diSeq, diRng1, diRng2, diEnum, diZip, dSl, dPart, dNo, gSl, gInS, gIn, gPlus, gOr, gCat, gCatS, gTimes, gRep, gI, blsD, putAll, dParT, dStar, DS.ice, iceS_un, iceS_val, iceS_strm, iceS_own, dOr2, gNeS, and_assoc, m__law_same, c1, c2, c3, hard]
  simp [dRet, dAndV, dOrV, dNotV, dIsi, dVar, dC, dOp, dCB, dCons, dNil, dLst, dTup, dSeq, dIfS, dOr, dAnd, dNot, dTest, dChain, dInG, gLen, gI0, gEq, gIx, gList, gTuple, gBls, look_val, look_own, fz_val, fz_own, fzs_nil, fzs_cons, fnStart, fnEnds, ret_val, ret_own, gCall, dCall, resume_val, resume_new, dSet, dgName, dgCons, dgNil, dgTup, dgSeq, DS.put, DS.new, DS.trim, trimS_un, trimS_val, trimS_strm, trimS_own, wipeR, dYes, seqD_lst, seqD_tup, iterD_lst, iterD_tup, iterD_str, lenD_lst, lenD_tup, lenD_str, tyD_non, tyD_bl, tyD_int, tyD_str, tyD_lst, tyD_tup, tyD_dic, isiD, flatD_non, flatD_bl, flatD_int, flatD_str, atD_lst, atD_tup, dPar, dIf, dDrop, dBM, gAppend, gExtend, gPopAt, gClear, diSeq, diRng1, diRng2, diEnum, diZip, dSl, dPart, dNo, gSl, gInS, gIn, gPlus, gOr, gCat, gCatS, gTimes, gRep, gI, blsD, putAll, dParT, dStar, DS.ice, iceS_un, iceS_val, iceS_strm, iceS_own, dOr2, gNeS, and_assoc, dCallK, kG, m__law_loose]
  refine ⟨pl_lots h, wid_lots h hl, by omega, fun r n' hr hn' => ?_⟩
  have hr' : ∃ y, loose 4 (.lst l) y ∧ (r = .val y ∨ ∃ q, y = .lst q ∧ r = .new q) := by
    cases r with
    | val y => exact ⟨y, hr, .inl rfl⟩
    | new q => exact ⟨.lst q, hr, .inr ⟨q, rfl, rfl⟩⟩
  obtain ⟨y, hy, hr'⟩ := hr'
  obtain ⟨a1, a2, a3, a4, a5⟩ := repr_lots h hl
  have hS : (py (.lst l)).shown = repS l := rfl
  have a6 : (repS l).length ≤ sizeLine := a5
  rcases hr' with rfl | ⟨q, rfl, rfl⟩
  · simp [dRet, dAndV, dOrV, dNotV, dIsi, dVar, dC, dOp, dCB, dCons, dNil, dLst, dTup, dSeq, dIfS, dOr, dAnd, dNot, dTest, dChain, dInG, gLen, gI0, gEq, gIx, gList, gTuple, gBls, look_val, look_own, fz_val, fz_own, fzs_nil, fzs_cons, fnStart, fnEnds, ret_val, ret_own, gCall, dCall, resume_val, resume_new, dSet, dgName, dgCons, dgNil, dgTup, dgSeq, DS.put, DS.new, DS.trim, trimS_un, trimS_val, trimS_strm, trimS_own, wipeR, dYes, seqD_lst, seqD_tup, iterD_lst, iterD_tup, iterD_str, lenD_lst, lenD_tup, lenD_str, tyD_non, tyD_bl, tyD_int, tyD_str, tyD_lst, tyD_tup, tyD_dic, isiD, flatD_non, flatD_bl, flatD_int, flatD_str, atD_lst, atD_tup, dPar, dIf, dDrop, dBM, gAppend, gExtend, gPopAt, gClear, diSeq, diRng1, diRng2, diEnum, diZip, dSl, dPart, dNo, gSl, gInS, gIn, gPlus, gOr, gCat, gCatS, gTimes, gRep, gI, blsD, putAll, dParT, dStar, DS.ice, iceS_un, iceS_val, iceS_strm, iceS_own, dOr2, gNeS, and_assoc]
    refine ctl_loose h hl hy ?_
    simp [dRet, dAndV, dOrV, dNotV, dIsi, dVar, dC, dOp, dCB, dCons, dNil, dLst, dTup, dSeq, dIfS, dOr, dAnd, dNot, dTest, dChain, dInG, gLen, gI0, gEq, gIx, gList, gTuple, gBls, look_val, look_own, fz_val, fz_own, fzs_nil, fzs_cons, fnStart, fnEnds, ret_val, ret_own, gCall, dCall, resume_val, resume_new, dSet, dgName, dgCons, dgNil, dgTup, dgSeq, DS.put, DS.new, DS.trim, trimS_un, trimS_val, trimS_strm, trimS_own, wipeR, dYes, seqD_lst, seqD_tup, iterD_lst, iterD_tup, iterD_str, lenD_lst, lenD_tup, lenD_str, tyD_non, tyD_bl, tyD_int, tyD_str, tyD_lst, tyD_tup, tyD_dic, isiD, flatD_non, flatD_bl, flatD_int, flatD_str, atD_lst, atD_tup, dPar, dIf, dDrop, dBM, gAppend, gExtend, gPopAt, gClear, diSeq, diRng1, diRng2, diEnum, diZip, dSl, dPart, dNo, gSl, gInS, gIn, gPlus, gOr, gCat, gCatS, gTimes, gRep, gI, blsD, putAll, dParT, dStar, DS.ice, iceS_un, iceS_val, iceS_strm, iceS_own, dOr2, gNeS, and_assoc, c1, c2, c3, hard, gRepr, a1, a2, a3, a4, a6, hS]
    refine ⟨by omega, ctl_good h hl rfl ?_⟩
    simp [dRet, dAndV, dOrV, dNotV, dIsi, dVar, dC, dOp, dCB, dCons, dNil, dLst, dTup, dSeq, dIfS, dOr, dAnd, dNot, dTest, dChain, dInG, gLen, gI0, gEq, gIx, gList, gTuple, gBls, look_val, look_own, fz_val, fz_own, fzs_nil, fzs_cons, fnStart, fnEnds, ret_val, ret_own, gCall, dCall, resume_val, resume_new, dSet, dgName, dgCons, dgNil, dgTup, dgSeq, DS.put, DS.new, DS.trim, trimS_un, trimS_val, trimS_strm, trimS_own, wipeR, dYes, seqD_lst, seqD_tup, iterD_lst, iterD_tup, iterD_str, lenD_lst, lenD_tup, lenD_str, tyD_non, tyD_bl, tyD_int, tyD_str, tyD_lst, tyD_tup, tyD_dic, isiD, flatD_non, flatD_bl, flatD_int, flatD_str, atD_lst, atD_tup, dPar, dIf, dDrop, dBM, gAppend, gExtend, gPopAt, gClear, diSeq, diRng1, diRng2, diEnum, diZip, dSl, dPart, dNo, gSl, gInS, gIn, gPlus, gOr, gCat, gCatS, gTimes, gRep, gI, blsD, putAll, dParT, dStar, DS.ice, iceS_un, iceS_val, iceS_strm, iceS_own, dOr2, gNeS, and_assoc, c1, c2, c3, hard]
    refine loop_b h hl0 hl (by show n' ≤ 860000; omega) fun s4 s6 s7 s8 s9 s10 s11 n2 hn2 => ?_
    refine ⟨_, l, rfl, rfl, k _ ?_⟩
    have hn2 : n2 ≤ n' + 12000 := hn2
    show n2 ≤ n + 15000
    omega
  · simp [dRet, dAndV, dOrV, dNotV, dIsi, dVar, dC, dOp, dCB, dCons, dNil, dLst, dTup, dSeq, dIfS, dOr, dAnd, dNot, dTest, dChain, dInG, gLen, gI0, gEq, gIx, gList, gTuple, gBls, look_val, look_own, fz_val, fz_own, fzs_nil, fzs_cons, fnStart, fnEnds, ret_val, ret_own, gCall, dCall, resume_val, resume_new, dSet, dgName, dgCons, dgNil, dgTup, dgSeq, DS.put, DS.new, DS.trim, trimS_un, trimS_val, trimS_strm, trimS_own, wipeR, dYes, seqD_lst, seqD_tup, iterD_lst, iterD_tup, iterD_str, lenD_lst, lenD_tup, lenD_str, tyD_non, tyD_bl, tyD_int, tyD_str, tyD_lst, tyD_tup, tyD_dic, isiD, flatD_non, flatD_bl, flatD_int, flatD_str, atD_lst, atD_tup, dPar, dIf, dDrop, dBM, gAppend, gExtend, gPopAt, gClear, diSeq, diRng1, diRng2, diEnum, diZip, dSl, dPart, dNo, gSl, gInS, gIn, gPlus, gOr, gCat, gCatS, gTimes, gRep, gI, blsD, putAll, dParT, dStar, DS.ice, iceS_un, iceS_val, iceS_strm, iceS_own, dOr2, gNeS, and_assoc]
    refine ctl_loose h hl hy ?_
    simp [dRet, dAndV, dOrV, dNotV, dIsi, dVar, dC, dOp, dCB, dCons, dNil, dLst, dTup, dSeq, dIfS, dOr, dAnd, dNot, dTest, dChain, dInG, gLen, gI0, gEq, gIx, gList, gTuple, gBls, look_val, look_own, fz_val, fz_own, fzs_nil, fzs_cons, fnStart, fnEnds, ret_val, ret_own, gCall, dCall, resume_val, resume_new, dSet, dgName, dgCons, dgNil, dgTup, dgSeq, DS.put, DS.new, DS.trim, trimS_un, trimS_val, trimS_strm, trimS_own, wipeR, dYes, seqD_lst, seqD_tup, iterD_lst, iterD_tup, iterD_str, lenD_lst, lenD_tup, lenD_str, tyD_non, tyD_bl, tyD_int, tyD_str, tyD_lst, tyD_tup, tyD_dic, isiD, flatD_non, flatD_bl, flatD_int, flatD_str, atD_lst, atD_tup, dPar, dIf, dDrop, dBM, gAppend, gExtend, gPopAt, gClear, diSeq, diRng1, diRng2, diEnum, diZip, dSl, dPart, dNo, gSl, gInS, gIn, gPlus, gOr, gCat, gCatS, gTimes, gRep, gI, blsD, putAll, dParT, dStar, DS.ice, iceS_un, iceS_val, iceS_strm, iceS_own, dOr2, gNeS, and_assoc, c1, c2, c3, hard, gRepr, a1, a2, a3, a4, a6, hS]
    refine ⟨by omega, ctl_good h hl rfl ?_⟩
    simp [dRet, dAndV, dOrV, dNotV, dIsi, dVar, dC, dOp, dCB, dCons, dNil, dLst, dTup, dSeq, dIfS, dOr, dAnd, dNot, dTest, dChain, dInG, gLen, gI0, gEq, gIx, gList, gTuple, gBls, look_val, look_own, fz_val, fz_own, fzs_nil, fzs_cons, fnStart, fnEnds, ret_val, ret_own, gCall, dCall, resume_val, resume_new, dSet, dgName, dgCons, dgNil, dgTup, dgSeq, DS.put, DS.new, DS.trim, trimS_un, trimS_val, trimS_strm, trimS_own, wipeR, dYes, seqD_lst, seqD_tup, iterD_lst, iterD_tup, iterD_str, lenD_lst, lenD_tup, lenD_str, tyD_non, tyD_bl, tyD_int, tyD_str, tyD_lst, tyD_tup, tyD_dic, isiD, flatD_non, flatD_bl, flatD_int, flatD_str, atD_lst, atD_tup, dPar, dIf, dDrop, dBM, gAppend, gExtend, gPopAt, gClear, diSeq, diRng1, diRng2, diEnum, diZip, dSl, dPart, dNo, gSl, gInS, gIn, gPlus, gOr, gCat, gCatS, gTimes, gRep, gI, blsD, putAll, dParT, dStar, DS.ice, iceS_un, iceS_val, iceS_strm, iceS_own, dOr2, gNeS, and_assoc, c1, c2, c3, hard]
    refine loop_b h hl0 hl (by show n' ≤ 860000; omega) fun s4 s6 s7 s8 s9 s10 s11 n2 hn2 => ?_
    refine ⟨_, l, rfl, rfl, k _ ?_⟩
    have hn2 : n2 ≤ n' + 12000 := hn2
    show n2 ≤ n + 15000
    omega
end RH

set_option Elab.async false
set_option linter.all false
set_option maxRecDepth 100000
set_option maxHeartbeats 8000000
/-! readings: the law behind its stream -/
namespace RH
open PySem PySem.Spec PyProof.Rows L2

def w_inner : DTS := (dFor (diSeq (dTup (dCons (dOp gIx (dVar 3) (dNeg (dC (.int 1)))) (dCons (dOp gIx (dVar 3) (dC (.int 0))) dNil)))) (dgName 5)
      (dIfS (dNot (dTest (dCallO true 1 mo__law_right (dCons (dVar 1) (dCons (dVar 5) (dCons (dVar 2) dNil))))))
      (dRet (dC (.bl false)))
      (fun d Φ => Φ.nx d)))
def w_last : DTS := (dRet (dBorrow (dCall false 2 (m__law_same 60) (dCons (dLst (dCons (dBorrow (dCall false 1 m_controls (dCons (dLst dNil) dNil))) (dCons (dBorrow (dCall false 1 m_controls (dCons (dTup dNil) dNil))) dNil))) (dCons (dLst (dCons (dLst (dCons (dTup dNil) dNil)) (dCons (dLst (dCons (dTup dNil) dNil)) dNil))) dNil)))))
def w_law1 : DTS :=
    (dSeq (dPar 2 3 (dCons (dLst dNil) (dCons (dLst dNil) dNil)))
    (dSeq (dFor (diRng1 (dCons (dC (.int 12)) dNil)) (dgName 4)
      (dSeq (dDrop (dBM gAppend (dVar 3) (dCons (dCall true 0 m__law_drawn_rules (dCons (dVar 1) dNil)) dNil)))
      w_inner))
    w_last))
structure LotOk (x : D) : Prop where
  ex : ∃ l, x = .lst l ∧ (∀ y ∈ l, Good y) ∧ 0 < l.length ∧ l.length ≤ 12
theorem atI_last {l : List D} {x : D} : atI (l ++ [x]) (-1) = some x := by
  have : ixN (l ++ [x]).length (-1) = some l.length := by
    unfold ixN
    simp
    omega
  unfold atI
  rw [this]
  simp
theorem inner_b {kept lh : List D} {l : List D} {s4 s5 : S} {n : Nat} (hk : ∀ x ∈ kept ++ [.lst l], LotOk x) (hlh : lh.length ≤ 1000) (hn : n ≤ 700000) {Φ : DEnds}
    (k : ∀ s4 s5 lh' n', lh'.length ≤ 1000 → n' ≤ n + 30000 → Φ.nx ⟨[.un, .strm, .own 0, .own 1, s4, s5], [(true, lh'), (true, kept ++ [.lst l]), (false, l)], n'⟩) : w_inner ⟨[.un, .strm, .own 0, .own 1, s4, s5], [(true, lh), (true, kept ++ [.lst l]), (false, l)], n⟩ Φ := by
  have e0 : ∃ x0, atI (kept ++ [D.lst l]) 0 = some x0 ∧ x0 ∈ kept ++ [.lst l] := by
    cases kept with
    | nil => exact ⟨_, at0, by simp⟩
    | cons x r => exact ⟨_, at0, by simp⟩
  obtain ⟨x0, e0, hx0⟩ := e0
  unfold w_inner dFor
  simp [dRet, dAndV, dOrV, dNotV, dIsi, dVar, dC, dOp, dCB, dCons, dNil, dLst, dTup, dSeq, dIfS, dOr, dAnd, dNot, dTest, dChain, dInG, gLen, gI0, gEq, gIx, gList, gTuple, gBls, look_val, look_own, fz_val, fz_own, fzs_nil, fzs_cons, fnStart, fnEnds, ret_val, ret_own, gCall, dCall, resume_val, resume_new, dSet, dgName, dgCons, dgNil, dgTup, dgSeq, DS.put, DS.new, DS.trim, trimS_un, trimS_val, trimS_strm, trimS_own, wipeR, dYes, seqD_lst, seqD_tup, iterD_lst, iterD_tup, iterD_str, lenD_lst, lenD_tup, lenD_str, tyD_non, tyD_bl, tyD_int, tyD_str, tyD_lst, tyD_tup, tyD_dic, isiD, flatD_non, flatD_bl, flatD_int, flatD_str, atD_lst, atD_tup, dPar, dIf, dDrop, dBM, gAppend, gExtend, gPopAt, gClear, diSeq, diRng1, diRng2, diEnum, diZip, dSl, dPart, dNo, gSl, gInS, gIn, gPlus, gOr, gCat, gCatS, gTimes, gRep, gI, blsD, putAll, dParT, dStar, DS.ice, iceS_un, iceS_val, iceS_strm, iceS_own, dOr2, gNeS, and_assoc, dNeg, e0, atI_last]
  refine ⟨fun t d => t ≤ 2 ∧ ∃ s4 s5 lh n', d = ⟨[.un, .strm, .own 0, .own 1, s4, s5], [(true, lh), (true, kept ++ [.lst l]), (false, l)], n'⟩ ∧ lh.length ≤ 1000 ∧ n' ≤ n + t * 15000, ?_, ?_, ?_⟩
  · exact ⟨by omega, s4, s5, lh, n, rfl, hlh, by omega⟩
  · rintro i x d hx ⟨hi, s4, s5, lh, n', rfl, hlh, hn'⟩
    have hx2 : x ∈ kept ++ [.lst l] := by
      have := List.mem_of_getElem? hx
      simp only [List.mem_cons, List.not_mem_nil, or_false] at this
      rcases this with rfl | rfl
      · simp
      · exact hx0
    have hi2 : i < 2 := (List.getElem?_eq_some_iff.mp hx).1
    obtain ⟨m, rfl, hg, h0, h12⟩ := (hk x hx2).ex
    refine ⟨by simp, ?_⟩
    refine ⟨.strm, rfl, fun h => (by cases h), .val (.lst m), rfl, fun h => (by cases h), .own 0, rfl, fun h => (by cases h), [.val (.lst m)], 0, [.lst m], _, lh, rfl, rfl, rfl, rfl, m, rfl, hg, h0, h12, hlh, by show n' ≤ 800000; omega, fun n2 hn2 => ?_⟩
    have hn2 : n2 ≤ n' + 15000 := hn2
    exact .inr ⟨rfl, by omega, trimS 3 s4, .val (.lst m), m, n2, rfl, by omega, by omega⟩
  · rintro d ⟨_, s4, s5, lh, n', rfl, hlh, hn'⟩
    exact k _ _ _ _ hlh (by omega)
theorem last_b {r : List S} {o : List (Bool × List D)} {n : Nat} {Φ : DEnds} (k : ∀ d, Φ.rt (.val (.bl true)) d) : w_last ⟨r, o, n⟩ Φ := by
  have c0 : ctlD [] = [.tup []] := by simp [ctlD, beginsD, onceD, inD]
  have q1 : pl 60 (.lst [.lst [.tup []], .lst [.tup []]]) = true := rfl
  have q2 : wid 1000000 60 (.lst [.lst [.tup []], .lst [.tup []]]) = true := wid_of rfl (by simp) fun z hz => by
    simp only [List.mem_cons, List.not_mem_nil, or_false] at hz
    rcases hz with rfl | rfl <;> exact wid_of rfl (by simp) fun z hz => (by rcases List.mem_singleton.mp hz with rfl; exact wid_of rfl (by simp) fun z hz => (by cases hz))
  unfold w_last
  simp [dRet, dAndV, dOrV, dNotV, dIsi, dVar, dC, dOp, dCB, dCons, dNil, dLst, dTup, dSeq, dIfS, dOr, dAnd, dNot, dTest, dChain, dInG, gLen, gI0, gEq, gIx, gList, gTuple, gBls, look_val, look_own, fz_val, fz_own, fzs_nil, fzs_cons, fnStart, fnEnds, ret_val, ret_own, gCall, dCall, resume_val, resume_new, dSet, dgName, dgCons, dgNil, dgTup, dgSeq, DS.put, DS.new, DS.trim, trimS_un, trimS_val, trimS_strm, trimS_own, wipeR, dYes, seqD_lst, seqD_tup, iterD_lst, iterD_tup, iterD_str, lenD_lst, lenD_tup, lenD_str, tyD_non, tyD_bl, tyD_int, tyD_str, tyD_lst, tyD_tup, tyD_dic, isiD, flatD_non, flatD_bl, flatD_int, flatD_str, atD_lst, atD_tup, dPar, dIf, dDrop, dBM, gAppend, gExtend, gPopAt, gClear, diSeq, diRng1, diRng2, diEnum, diZip, dSl, dPart, dNo, gSl, gInS, gIn, gPlus, gOr, gCat, gCatS, gTimes, gRep, gI, blsD, putAll, dParT, dStar, DS.ice, iceS_un, iceS_val, iceS_strm, iceS_own, dOr2, gNeS, and_assoc, dBorrow]
  refine ctl_good (l := []) (fun y hy => by cases hy) (by simp) rfl ?_
  simp [dRet, dAndV, dOrV, dNotV, dIsi, dVar, dC, dOp, dCB, dCons, dNil, dLst, dTup, dSeq, dIfS, dOr, dAnd, dNot, dTest, dChain, dInG, gLen, gI0, gEq, gIx, gList, gTuple, gBls, look_val, look_own, fz_val, fz_own, fzs_nil, fzs_cons, fnStart, fnEnds, ret_val, ret_own, gCall, dCall, resume_val, resume_new, dSet, dgName, dgCons, dgNil, dgTup, dgSeq, DS.put, DS.new, DS.trim, trimS_un, trimS_val, trimS_strm, trimS_own, wipeR, dYes, seqD_lst, seqD_tup, iterD_lst, iterD_tup, iterD_str, lenD_lst, lenD_tup, lenD_str, tyD_non, tyD_bl, tyD_int, tyD_str, tyD_lst, tyD_tup, tyD_dic, isiD, flatD_non, flatD_bl, flatD_int, flatD_str, atD_lst, atD_tup, dPar, dIf, dDrop, dBM, gAppend, gExtend, gPopAt, gClear, diSeq, diRng1, diRng2, diEnum, diZip, dSl, dPart, dNo, gSl, gInS, gIn, gPlus, gOr, gCat, gCatS, gTimes, gRep, gI, blsD, putAll, dParT, dStar, DS.ice, iceS_un, iceS_val, iceS_strm, iceS_own, dOr2, gNeS, and_assoc, c0, hards, hard]
  refine ctl_good (l := []) (fun y hy => by cases hy) (by simp) rfl ?_
  simp [dRet, dAndV, dOrV, dNotV, dIsi, dVar, dC, dOp, dCB, dCons, dNil, dLst, dTup, dSeq, dIfS, dOr, dAnd, dNot, dTest, dChain, dInG, gLen, gI0, gEq, gIx, gList, gTuple, gBls, look_val, look_own, fz_val, fz_own, fzs_nil, fzs_cons, fnStart, fnEnds, ret_val, ret_own, gCall, dCall, resume_val, resume_new, dSet, dgName, dgCons, dgNil, dgTup, dgSeq, DS.put, DS.new, DS.trim, trimS_un, trimS_val, trimS_strm, trimS_own, wipeR, dYes, seqD_lst, seqD_tup, iterD_lst, iterD_tup, iterD_str, lenD_lst, lenD_tup, lenD_str, tyD_non, tyD_bl, tyD_int, tyD_str, tyD_lst, tyD_tup, tyD_dic, isiD, flatD_non, flatD_bl, flatD_int, flatD_str, atD_lst, atD_tup, dPar, dIf, dDrop, dBM, gAppend, gExtend, gPopAt, gClear, diSeq, diRng1, diRng2, diEnum, diZip, dSl, dPart, dNo, gSl, gInS, gIn, gPlus, gOr, gCat, gCatS, gTimes, gRep, gI, blsD, putAll, dParT, dStar, DS.ice, iceS_un, iceS_val, iceS_strm, iceS_own, dOr2, gNeS, and_assoc, c0, hards, hard, m__law_same, q1, q2]
  exact k _
theorem law_b {n : Nat} (hn : n ≤ 1000) {Φ : DEnds} (k : ∀ d, Φ.rt (.val (.bl true)) d) : w_law1 ⟨[.un, .strm, .un, .un, .un, .un], [], n⟩ Φ := by
  unfold w_law1
  simp only [dSeq, dFor]
  simp [dRet, dAndV, dOrV, dNotV, dIsi, dVar, dC, dOp, dCB, dCons, dNil, dLst, dTup, dSeq, dIfS, dOr, dAnd, dNot, dTest, dChain, dInG, gLen, gI0, gEq, gIx, gList, gTuple, gBls, look_val, look_own, fz_val, fz_own, fzs_nil, fzs_cons, fnStart, fnEnds, ret_val, ret_own, gCall, dCall, resume_val, resume_new, dSet, dgName, dgCons, dgNil, dgTup, dgSeq, DS.put, DS.new, DS.trim, trimS_un, trimS_val, trimS_strm, trimS_own, wipeR, dYes, seqD_lst, seqD_tup, iterD_lst, iterD_tup, iterD_str, lenD_lst, lenD_tup, lenD_str, tyD_non, tyD_bl, tyD_int, tyD_str, tyD_lst, tyD_tup, tyD_dic, isiD, flatD_non, flatD_bl, flatD_int, flatD_str, atD_lst, atD_tup, dPar, dIf, dDrop, dBM, gAppend, gExtend, gPopAt, gClear, diSeq, diRng1, diRng2, diEnum, diZip, dSl, dPart, dNo, gSl, gInS, gIn, gPlus, gOr, gCat, gCatS, gTimes, gRep, gI, blsD, putAll, dParT, dStar, DS.ice, iceS_un, iceS_val, iceS_strm, iceS_own, dOr2, gNeS, and_assoc]
  refine ⟨fun t d => t ≤ 12 ∧ ∃ s4 s5 lh kept n', d = ⟨[.un, .strm, .own 0, .own 1, s4, s5], [(true, lh), (true, kept)], n'⟩ ∧ lh.length ≤ 1000 ∧ kept.length = t ∧ (∀ x ∈ kept, LotOk x) ∧ n' ≤ n + t * 31000, ⟨by omega, _, _, _, _, _, rfl, by simp, rfl, fun x hx => (by cases hx), by omega⟩, ?_, ?_⟩
  · rintro t y d hy ⟨ht, s4, s5, lh, kept, n', rfl, hlh, hk, hkk, hn'⟩
    have hlt := (rng_get hy).1
    simp [dRet, dAndV, dOrV, dNotV, dIsi, dVar, dC, dOp, dCB, dCons, dNil, dLst, dTup, dSeq, dIfS, dOr, dAnd, dNot, dTest, dChain, dInG, gLen, gI0, gEq, gIx, gList, gTuple, gBls, look_val, look_own, fz_val, fz_own, fzs_nil, fzs_cons, fnStart, fnEnds, ret_val, ret_own, gCall, dCall, resume_val, resume_new, dSet, dgName, dgCons, dgNil, dgTup, dgSeq, DS.put, DS.new, DS.trim, trimS_un, trimS_val, trimS_strm, trimS_own, wipeR, dYes, seqD_lst, seqD_tup, iterD_lst, iterD_tup, iterD_str, lenD_lst, lenD_tup, lenD_str, tyD_non, tyD_bl, tyD_int, tyD_str, tyD_lst, tyD_tup, tyD_dic, isiD, flatD_non, flatD_bl, flatD_int, flatD_str, atD_lst, atD_tup, dPar, dIf, dDrop, dBM, gAppend, gExtend, gPopAt, gClear, diSeq, diRng1, diRng2, diEnum, diZip, dSl, dPart, dNo, gSl, gInS, gIn, gPlus, gOr, gCat, gCatS, gTimes, gRep, gI, blsD, putAll, dParT, dStar, DS.ice, iceS_un, iceS_val, iceS_strm, iceS_own, dOr2, gNeS, and_assoc, m__law_drawn_rules]
    refine ⟨by omega, fun l n2 l0 l12 hg hn2 => ⟨by omega, ?_⟩⟩
    refine inner_b (fun x hx => ?_) hlh (by omega) fun s4 s5 lh' n3 hlh' hn3 => ?_
    · rcases List.mem_append.mp hx with hx | hx
      · exact hkk x hx
      · rcases List.mem_singleton.mp hx with rfl
        exact ⟨⟨l, rfl, hg, l0, l12⟩⟩
    · refine ⟨by omega, ⟨_, _, rfl⟩, _, _, rfl, hlh', by simp [hk], fun x hx => ?_, by show n3 ≤ _; omega⟩
      rcases List.mem_append.mp hx with hx | hx
      · exact hkk x hx
      · rcases List.mem_singleton.mp hx with rfl
        exact ⟨⟨l, rfl, hg, l0, l12⟩⟩
  · rintro d ⟨_, s4, s5, lh, kept, n', rfl, _⟩
    exact last_b k
end RH

set_option Elab.async false
set_option linter.all false
set_option maxRecDepth 100000
set_option maxHeartbeats 1000000
/-! the end: a law whose def wants that no repr goes on around it -/
namespace RH
open PySem PySem.Spec PyProof.Rows L2

section
variable {P : Program} {w : World} {K : PySem.W.Frag} {mg mb : Str → Option Value} {k : Nat} {fa a : Addr} {fd : FuncData} {x : Str} {sp : Sp} {t : Shared} {us : List Value} {ns : List Int}
/-- the heap Z of which nothing is tracked but, at most, the script at a -/
structure Bare (P : Program) (w : World) (K : PySem.W.Frag) (t : Shared) (a : Addr) (ns : List Int) (Z : Hp) : Prop where
  only : Only Z
  scr : SqL K Z a (ns.map V.int)
  hok : HOk P w Z t.heap
  at_ : ∀ b, Z b ≠ none → b = a
  noK : Z a ≠ none → K.lookup a = none
theorem bare_is (KX : K.In t.heap) (ha : t.heap.get? a = some { cls := .type "list", data := .seq us.toArray }) (hi : IntsAre us ns) (hl : ns.length ≤ sizeLine) : ∃ Z, Bare P w K t a ns Z := by
  have rel := vals_ints hi
  have hlen := hi.length
  cases q : K.lookup a with
  | some ob =>
    have e : t.heap.get? a = some ob := KX a ob q
    rw [ha] at e
    injection e with e
    subst e
    refine ⟨fun _ => none, fun _ => .inl rfl, ?_, (fun b u z => by cases z), (fun b z => (z rfl).elim), fun z => (z rfl).elim⟩
    exact .inr ⟨_, us.toArray, _, q, rfl, rfl, rfl, by rw [List.size_toArray, hlen]; exact hl, by simpa using rel⟩
  | none =>
    let u0 : HO := .frz { cls := .type "list", data := .seq us.toArray } (.lst (ns.map V.int))
    have yes : (fun b => if b = a then some u0 else none : Hp) a = some u0 := if_pos rfl
    have no : ∀ b, b ≠ a → (fun b => if b = a then some u0 else none : Hp) b = none := fun b h => if_neg h
    refine ⟨fun b => if b = a then some u0 else none, fun b => ?_, .inl (.inr ⟨_, yes⟩), fun b u z => ?_, fun b z => ?_, fun _ => q⟩
    · by_cases h : b = a
      · subst h; exact .inr ⟨_, _, yes⟩
      · exact .inl (no b h)
    · by_cases h : b = a
      · subst h
        have z := yes.symm.trans z
        injection z with z
        subst z
        exact ⟨ha, (by rw [List.length_map]; exact hl), us, _, rel, ha⟩
      · have z := (no b h).symm.trans z
        cases z
    · by_cases h : b = a
      · exact h
      · exact (z (no b h)).elim
theorem law_callG (KX : K.In t.heap) (hns : t.heap.Ns mainGlobals mg) (hb : t.heap.Ns builtinsNs mb) (hbb : ∀ y : Str, y ≠ "__name__" → mb y = bootBuiltins y) (hlim : t.heap.NoLimit) (hg : t.gens = #[])
    (ha : t.heap.get? a = some { cls := .type "list", data := .seq us.toArray }) (hi : IntsAre us ns) (hl : ns.length ≤ sizeLine) (hr : Room k callerA) (F : ∀ base : Heap, K.In base → base.Ns mainGlobals mg → FnG P w K mg base CX0 k fa fd [x] sp)
    (hbind : ∀ (s : Shared) (u : Value), BindsTo s fd ⟨[u], []⟩ [(x, u)]) (hsp : ∀ Z : Hp, Only Z → SqL K Z a (ns.map V.int) → sp [.ref a] Z (fun v _ => v = .bl true) fun _ _ _ => False) :
    codeAny (model P w) callerA (.call (.ref fa) ⟨[.ref a], []⟩) (fun r s' => r = .ok (.ret (.bool true)) ∧ OldK t.heap s'.heap ∧ s'.os = t.os ∧ AllBare s'.gens) t := by
  obtain ⟨Z, hZ⟩ := bare_is (P := P) (w := w) KX ha hi hl
  have old : ∀ {b : Addr} {ob : Obj}, t.heap.get? b = some ob → Z b = none → (hidT t.heap Z).get? b = some ob := fun e n => hidT_get e n
  have off : ∀ {b : Addr} {ob : Obj} {es : Array DictEntry} {ep : Nat}, t.heap.get? b = some ob → ob.data = .dict es ep → Z b = none := fun {b ob es ep} e d => by
    by_cases q : Z b = none
    · exact q
    · have h := hZ.at_ b q
      subst h
      rw [ha] at e
      injection e with e
      subst e
      exact absurd (show Data.seq us.toArray _ = Data.dict es ep from d) (by intro z; cases z)
  have ns_ : ∀ {b : Addr} {m : Str → Option Value}, t.heap.Ns b m → (hidT t.heap Z).Ns b m := fun ⟨ob, es, ep, e, d, r⟩ => ⟨ob, es, ep, old e (off e d), d, r⟩
  have KZ : K.In (hidT t.heap Z) := fun b ob e => old (KX b ob e) (by
    by_cases q : Z b = none
    · exact q
    · have h := hZ.at_ b q
      subst h
      rw [hZ.noK q] at e; cases e)
  obtain ⟨mc, c1, c2⟩ := hlim
  have M : Mod K mg (hidT t.heap Z) := ⟨KZ, ns_ hns, ⟨mb, ns_ hb, hbb⟩, mc, ns_ c1, c2⟩
  have none_in : ∀ {b : Addr}, b ∉ frs [] := fun z => by cases (show _ ∈ ([] : List Addr) from z)
  have E0 : Env0 P w K mg (hidT t.heap Z) callerA [] t Z := { frames := rfl, mod := M, bs := fun _ _ e => of_hidT e, bsz := Nat.le_of_eq (hidT_size _ _), funs := trivial, frf := fun _ z => (none_in z).elim, hok := hZ.hok, bare := .of_eq hg }
  have go := (F _ KZ (ns_ hns)).run callerA [] t Z ⟨[.ref a], []⟩ [.ref a] [.ref a] (fun v _ => v = .bl true) (fun _ _ _ => False) hr rfl E0 (hbind t (.ref a)) (.cons rfl .nil) (hsp Z hZ.only hZ.scr)
  refine codeAny_mono go fun r s' z => ?_
  match r, z with
  | .ok (.ret u), ⟨v, Z', z1, z2, z3, z4, z5, z6⟩ =>
    have z6 : v = .bl true := z6
    subst z6
    have z5 : u = Value.bool true := z5
    subst z5
    refine ⟨rfl, OldK.of_keep fun b ob e => ?_, z1, z2⟩
    rcases hZ.only b with n | ⟨o1, xs, n⟩
    · exact z3.keep b ob e n none_in (fun z => by cases z)
    · obtain ⟨g1, _⟩ := hZ.hok b _ n
      obtain ⟨g2, _⟩ := z4 b _ (z3.frzs b o1 _ n)
      rw [e] at g1
      injection g1 with g1
      rw [g1]; exact g2
  | .error e, z => cases z
end
theorem walkG {l : PySem.W.OpenLaw} {n k : Nat} {q : Program} {loose : List Str} {XP : (Str → Option Value) → Heap → Prop} {YP : World → Heap → Prop} {d : DefRec} {K : Params → PySem.W.Frag} {sp : PySem.W.Frag → Sp} {x : Str}
    (hn : l.most = some n) (hn2 : n ≤ sizeLine) (hdf : d.params.defaults = []) (hr : Room k callerA) (hY : ∀ (w : World) (h : Heap), YP w h → (K w.params).In h)
    (F : ∀ (w : World) (mg : Str → Option Value) (fa : Addr) (h : Heap), (K w.params).In h → h.Ns mainGlobals mg → mg d.name = some (.ref fa) → ∃ fd : FuncData, (∀ (s : Shared) (u : Value), BindsTo s fd ⟨[u], []⟩ [(x, u)]) ∧ ∀ base : Heap, (K w.params).In base → base.Ns mainGlobals mg → FnG l.prog w (K w.params) mg base CX0 k fa fd [x] (sp (K w.params)))
    (hsp : ∀ (K : PySem.W.Frag) (H : Hp) (a : Addr) (ns : List Int), ns.length ≤ n → Only H → SqL K H a (ns.map V.int) → sp K [.ref a] H (fun v _ => v = .bl true) fun _ _ _ => False) :
    PySem.W.WalkO q loose XP YP l.row.toRowW d [] (fun f vs => PySem.call f vs) :=
  Att.attach_call hn hdf fun w s0 s1 mg mb fa o pm cd doc a vs ns G Y ho hd hcd hmg hobj hints hlen hg => by
    obtain ⟨fd, hb, hF⟩ := F w mg fa _ (hY w _ Y) G.T.g hmg
    exact law_callG (hY w _ Y) G.T.g G.T.b G.T.builtins G.T.nolimit hg hobj hints (Nat.le_trans hlen hn2) hr hF hb fun Z h1 h2 => hsp _ Z a ns hlen h1 h2
end RH

set_option Elab.async false
set_option linter.all false
set_option maxRecDepth 100000
set_option maxHeartbeats 4000000
/-! the recursive defs at depth 0 -/
namespace RH
open PySem PySem.Spec PyProof.Rows L2

def m_never : FM := fun _ _ _ => False
theorem same_at0 (m0 : FM) : ∀ ds n Ψ, ds.length = 2 → m__law_same 0 ds n Ψ → w__law_same m0 (fnStart false ds 3 n) (fnEnds Ψ) := by
  rintro ds n Ψ - ⟨x, rfl, hp, hk, hw, h⟩
  exact same_atom ⟨0, hp, hk⟩ (pl0_atom hp) h
theorem loose_at0 (m0 : FM) : ∀ ds n Ψ, ds.length = 1 → m__law_loose 0 ds n Ψ → w__law_loose m0 (fnStart true ds 2 n) (fnEnds Ψ) := by
  rintro ds n Ψ - ⟨x, rfl, hp, hw, hk, hn, h⟩
  have hs := pl0_atom hp
  have := h (.val x) n (loose_atom hs) (by omega)
  cases x <;> first | (cases hs; done) | (cases hp; done) | simpa [dRet, dAndV, dOrV, dNotV, dIsi, dVar, dC, dOp, dCB, dCons, dNil, dLst, dTup, dSeq, dIfS, dOr, dAnd, dNot, dTest, dChain, dInG, gLen, gI0, gEq, gIx, gList, gTuple, gBls, look_val, look_own, fz_val, fz_own, fzs_nil, fzs_cons, fnStart, fnEnds, ret_val, ret_own, gCall, dCall, resume_val, resume_new, dSet, dgName, dgCons, dgNil, dgTup, dgSeq, DS.put, DS.new, DS.trim, trimS_un, trimS_val, trimS_strm, trimS_own, wipeR, dYes, seqD_lst, seqD_tup, iterD_lst, iterD_tup, iterD_str, lenD_lst, lenD_tup, lenD_str, tyD_non, tyD_bl, tyD_int, tyD_str, tyD_lst, tyD_tup, tyD_dic, isiD, flatD_non, flatD_bl, flatD_int, flatD_str, atD_lst, atD_tup, dPar, dIf, dDrop, dBM, gAppend, gExtend, gPopAt, gClear, diSeq, diRng1, diRng2, diEnum, diZip, dSl, dPart, dNo, gSl, gInS, gIn, gPlus, gOr, gCat, gCatS, gTimes, gRep, gI, blsD, putAll, dParT, dStar, DS.ice, iceS_un, iceS_val, iceS_strm, iceS_own, dOr2, gNeS, and_assoc, w__law_loose] using this
theorem spoilt_at0 (m0 : FM) : ∀ ds n Ψ, ds.length = 1 → m__law_spoilt 0 ds n Ψ → w__law_spoilt m0 (fnStart false ds 1 n) (fnEnds Ψ) := by
  rintro ds n Ψ - ⟨x, rfl, hh, hp, h⟩
  have hs := pl0_atom hp
  cases x <;> first | (cases hs; done) | (cases hh; done) | simpa [dRet, dAndV, dOrV, dNotV, dIsi, dVar, dC, dOp, dCB, dCons, dNil, dLst, dTup, dSeq, dIfS, dOr, dAnd, dNot, dTest, dChain, dInG, gLen, gI0, gEq, gIx, gList, gTuple, gBls, look_val, look_own, fz_val, fz_own, fzs_nil, fzs_cons, fnStart, fnEnds, ret_val, ret_own, gCall, dCall, resume_val, resume_new, dSet, dgName, dgCons, dgNil, dgTup, dgSeq, DS.put, DS.new, DS.trim, trimS_un, trimS_val, trimS_strm, trimS_own, wipeR, dYes, seqD_lst, seqD_tup, iterD_lst, iterD_tup, iterD_str, lenD_lst, lenD_tup, lenD_str, tyD_non, tyD_bl, tyD_int, tyD_str, tyD_lst, tyD_tup, tyD_dic, isiD, flatD_non, flatD_bl, flatD_int, flatD_str, atD_lst, atD_tup, dPar, dIf, dDrop, dBM, gAppend, gExtend, gPopAt, gClear, diSeq, diRng1, diRng2, diEnum, diZip, dSl, dPart, dNo, gSl, gInS, gIn, gPlus, gOr, gCat, gCatS, gTimes, gRep, gI, blsD, putAll, dParT, dStar, DS.ice, iceS_un, iceS_val, iceS_strm, iceS_own, dOr2, gNeS, and_assoc, w__law_spoilt] using h
end RH

set_option Elab.async false
set_option linter.all false
set_option maxRecDepth 100000
set_option maxHeartbeats 4000000
/-! the walk of this law's defs, printed by mk.py -/
namespace K11
open PySem PySem.Spec PyProof.Rows L2 RH

def topS (i : Nat) : Stmt := PySem.Challenge.pw_roadheld_k11_whole_controls_and_after.main.body.getD i (.Pass ⟨0, 0, 0, 0⟩)
structure Txt (K : PySem.W.Frag) (mg : Str → Option Value) where
  abs_ : mg "abs" = none
  all_ : mg "all" = none
  bool_ : mg "bool" = none
  dict_ : mg "dict" = none
  enumerate_ : mg "enumerate" = none
  int_ : mg "int" = none
  isinstance_ : mg "isinstance" = none
  len_ : mg "len" = none
  list_ : mg "list" = none
  range_ : mg "range" = none
  repr_ : mg "repr" = none
  sorted_ : mg "sorted" = none
  str_ : mg "str" = none
  tuple_ : mg "tuple" = none
  zip_ : mg "zip" = none
  a_WORDS : Addr
  m_WORDS : mg "WORDS" = some (.ref a_WORDS)
  q_WORDS : ∀ H, SqL K H a_WORDS l_WORDS ∨ SqT K H a_WORDS l_WORDS
  u_ALPHABET : Value
  m_ALPHABET : mg "ALPHABET" = some u_ALPHABET
  r_ALPHABET : L2.RelV (match c_ALPHABET with | .str s => .str s | _ => .non) u_ALPHABET
  a_KINDS : Addr
  m_KINDS : mg "KINDS" = some (.ref a_KINDS)
  q_KINDS : ∀ H, SqL K H a_KINDS l_KINDS ∨ SqT K H a_KINDS l_KINDS
section
variable {P : Program} {w : World} {K : PySem.W.Frag} {mg : Str → Option Value} {base : Heap}
/-- is_integer -/
abbrev s_is_integer : Stmt := topS 1
abbrev N_is_integer : List Str := ["thing"]
theorem sc_is_integer : FnScope N_is_integer ["thing"] (defScope s_is_integer) := ⟨rfl, rfl, rfl, by decide +kernel, rfl, by decide +kernel, by decide +kernel⟩

theorem ok_is_integer {f : Addr} {fd : FuncData} {kk : Nat} (T : Txt K mg) (F : Fun K "is_integer" "is_integer" s_is_integer f fd) (g : mg "is_integer" = some (.ref f)) : DefOk P w K mg base "is_integer" ["thing"] (kk + 1) false 1 m_is_integer f fd := by
  refine ⟨g, F.kp, F.binds (ps := ["thing"]) fun _ _ _ _ _ _ us hl => match us, hl with | [_], _ => rfl, F.ok sc_is_integer (fun vs H Q E h => by rw [h.len] <;> rfl) (fun cdv A outer s H vs Q E hr h => ?_)⟩
  refine DSs.fn (w := w_is_integer) (hs := false) (ar := 1) (k := 0) (m := m_is_integer) ?_ h rfl rd_is_integer
  exact (ds_one (ds_ret (de_and (de_isi (de_var 0) rfl T.isinstance_ (pe_bltn rfl T.int_ (by decide +kernel) rfl) (by decide)) (de_one (de_not (de_isi (de_var 0) rfl T.isinstance_ (pe_bltn rfl T.bool_ (by decide +kernel) rfl) (by decide)))))))

/-- is_number -/
abbrev s_is_number : Stmt := topS 2
abbrev N_is_number : List Str := ["thing"]
theorem sc_is_number : FnScope N_is_number ["thing"] (defScope s_is_number) := ⟨rfl, rfl, rfl, by decide +kernel, rfl, by decide +kernel, by decide +kernel⟩

theorem ok_is_number {f : Addr} {fd : FuncData} {kk : Nat} (T : Txt K mg) (F : Fun K "is_number" "is_number" s_is_number f fd) (g : mg "is_number" = some (.ref f)) {kk_is_integer : Nat} {f_is_integer : Addr} {fd_is_integer : FuncData} (D_is_integer : DefOk P w K mg base "is_integer" ["thing"] kk_is_integer false 1 m_is_integer f_is_integer fd_is_integer) (l_is_integer : kk_is_integer ≤ kk) : DefOk P w K mg base "is_number" ["thing"] (kk + 1) false 1 m_is_number f fd := by
  refine ⟨g, F.kp, F.binds (ps := ["thing"]) fun _ _ _ _ _ _ us hl => match us, hl with | [_], _ => rfl, F.ok sc_is_number (fun vs H Q E h => by rw [h.len] <;> rfl) (fun cdv A outer s H vs Q E hr h => ?_)⟩
  refine DSs.fn (w := w_is_number) (hs := false) (ar := 1) (k := 0) (m := m_is_number) ?_ h rfl rd_is_number
  exact (ds_one (ds_ret (de_and (de_callD D_is_integer (hr.mono (by omega)) rfl (da_cons (de_var 0) da_nil)) (de_one (de_ge (de_var 0) de_int)))))

/-- is_list -/
abbrev s_is_list : Stmt := topS 3
abbrev N_is_list : List Str := ["thing"]
theorem sc_is_list : FnScope N_is_list ["thing"] (defScope s_is_list) := ⟨rfl, rfl, rfl, by decide +kernel, rfl, by decide +kernel, by decide +kernel⟩

theorem ok_is_list {f : Addr} {fd : FuncData} {kk : Nat} (T : Txt K mg) (F : Fun K "is_list" "is_list" s_is_list f fd) (g : mg "is_list" = some (.ref f)) : DefOk P w K mg base "is_list" ["thing"] (kk + 1) false 1 m_is_list f fd := by
  refine ⟨g, F.kp, F.binds (ps := ["thing"]) fun _ _ _ _ _ _ us hl => match us, hl with | [_], _ => rfl, F.ok sc_is_list (fun vs H Q E h => by rw [h.len] <;> rfl) (fun cdv A outer s H vs Q E hr h => ?_)⟩
  refine DSs.fn (w := w_is_list) (hs := false) (ar := 1) (k := 0) (m := m_is_list) ?_ h rfl rd_is_list
  exact (ds_one (ds_ret (de_isiT (de_var 0) rfl T.isinstance_ (tya_cons (pe_bltn rfl T.list_ (by decide +kernel) rfl) (tya_cons (pe_bltn rfl T.tuple_ (by decide +kernel) rfl) tya_nil)) (by decide) (by decide))))

/-- is_row -/
abbrev s_is_row : Stmt := topS 4
abbrev N_is_row : List Str := ["thing", "many"]
theorem sc_is_row : FnScope N_is_row ["thing", "many"] (defScope s_is_row) := ⟨rfl, rfl, rfl, by decide +kernel, rfl, by decide +kernel, by decide +kernel⟩

theorem ok_is_row {f : Addr} {fd : FuncData} {kk : Nat} (T : Txt K mg) (F : Fun K "is_row" "is_row" s_is_row f fd) (g : mg "is_row" = some (.ref f)) {kk_is_list : Nat} {f_is_list : Addr} {fd_is_list : FuncData} (D_is_list : DefOk P w K mg base "is_list" ["thing"] kk_is_list false 1 m_is_list f_is_list fd_is_list) (l_is_list : kk_is_list ≤ kk) : DefOk P w K mg base "is_row" ["thing", "many"] (kk + 1) false 2 m_is_row f fd := by
  refine ⟨g, F.kp, F.binds (ps := ["thing", "many"]) fun _ _ _ _ _ _ us hl => match us, hl with | [_, _], _ => rfl, F.ok sc_is_row (fun vs H Q E h => by rw [h.len] <;> rfl) (fun cdv A outer s H vs Q E hr h => ?_)⟩
  refine DSs.fn (w := w_is_row) (hs := false) (ar := 2) (k := 0) (m := m_is_row) ?_ h rfl rd_is_row
  exact (ds_one (ds_ret (de_and (de_callD D_is_list (hr.mono (by omega)) rfl (da_cons (de_var 0) da_nil)) (de_one (de_eq (hu64 hr) (de_len rfl T.len_ (da_cons (de_var 0) da_nil)) (de_var 1))))))

/-- is_agent -/
abbrev s_is_agent : Stmt := topS 14
abbrev N_is_agent : List Str := ["thing", "sign"]
theorem sc_is_agent : FnScope N_is_agent ["thing"] (defScope s_is_agent) := ⟨rfl, rfl, rfl, by decide +kernel, rfl, by decide +kernel, by decide +kernel⟩

theorem ok_is_agent {f : Addr} {fd : FuncData} {kk : Nat} (T : Txt K mg) (F : Fun K "is_agent" "is_agent" s_is_agent f fd) (g : mg "is_agent" = some (.ref f)) : DefOk P w K mg base "is_agent" ["thing"] (kk + 1) false 1 m_is_agent f fd := by
  refine ⟨g, F.kp, F.binds (ps := ["thing"]) fun _ _ _ _ _ _ us hl => match us, hl with | [_], _ => rfl, F.ok sc_is_agent (fun vs H Q E h => by rw [h.len] <;> rfl) (fun cdv A outer s H vs Q E hr h => ?_)⟩
  refine DSs.fn (w := w_is_agent) (hs := false) (ar := 1) (k := 1) (m := m_is_agent) ?_ h rfl rd_is_agent
  exact (ds_cons (ds_if (DW.dt (dw_or (dt_not (dt_val (de_isi (de_var 0) rfl T.isinstance_ (pe_bltn rfl T.str_ (by decide +kernel) rfl) (by decide)))) (dw_or (dt_not (dt_chainLe de_int (de_len rfl T.len_ (da_cons (de_var 0) da_nil)) de_int)) (dw_or1 (dt_inG (de_var 0) (pe_glob rfl T.m_WORDS rfl) T.q_WORDS (by decide +kernel))))))
      (ds_one (ds_ret de_bl))
      ds_nil)
    (ds_one (ds_ret (de_all rfl rfl T.all_ (da_cons (de_lc [("sign", 1)] rfl sc_is_agent.nd (di_seq (de_var 0)) (blkOk_by (N := N_is_agent) (sc := defScope s_is_agent) (by decide +kernel)) (fun _ => (dg_name (i := 1) sc_is_agent.nd rfl (Or.inl rfl) (by decide))) (fun _ => dts_nil) (fun _ => (de_inS (de_var 1) (de_glob rfl T.m_ALPHABET T.r_ALPHABET (fun _ => rfl)) rfl))) da_nil)))))

/-- is_word -/
abbrev s_is_word : Stmt := topS 15
abbrev N_is_word : List Str := ["thing"]
theorem sc_is_word : FnScope N_is_word ["thing"] (defScope s_is_word) := ⟨rfl, rfl, rfl, by decide +kernel, rfl, by decide +kernel, by decide +kernel⟩

theorem ok_is_word {f : Addr} {fd : FuncData} {kk : Nat} (T : Txt K mg) (F : Fun K "is_word" "is_word" s_is_word f fd) (g : mg "is_word" = some (.ref f)) {kk_is_integer : Nat} {f_is_integer : Addr} {fd_is_integer : FuncData} (D_is_integer : DefOk P w K mg base "is_integer" ["thing"] kk_is_integer false 1 m_is_integer f_is_integer fd_is_integer) (l_is_integer : kk_is_integer ≤ kk) {kk_is_row : Nat} {f_is_row : Addr} {fd_is_row : FuncData} (D_is_row : DefOk P w K mg base "is_row" ["thing", "many"] kk_is_row false 2 m_is_row f_is_row fd_is_row) (l_is_row : kk_is_row ≤ kk) : DefOk P w K mg base "is_word" ["thing"] (kk + 1) false 1 m_is_word f fd := by
  refine ⟨g, F.kp, F.binds (ps := ["thing"]) fun _ _ _ _ _ _ us hl => match us, hl with | [_], _ => rfl, F.ok sc_is_word (fun vs H Q E h => by rw [h.len] <;> rfl) (fun cdv A outer s H vs Q E hr h => ?_)⟩
  refine DSs.fn (w := w_is_word) (hs := false) (ar := 1) (k := 0) (m := m_is_word) ?_ h rfl rd_is_word
  exact (ds_cons (ds_if (DW.dt (dw_or (dt_not (dt_val (de_callD D_is_row (hr.mono (by omega)) rfl (da_cons (de_var 0) (da_cons de_int da_nil))))) (dw_or (dt_not (dt_val (de_isi (de_ix (de_var 0) de_int (fun _ _ => rfl)) rfl T.isinstance_ (pe_bltn rfl T.str_ (by decide +kernel) rfl) (by decide)))) (dw_or1 (dt_ne (hu64 hr) (de_ix (de_var 0) de_int (fun _ _ => rfl)) de_str)))))
      (ds_one (ds_ret de_bl))
      ds_nil)
    (ds_one (ds_ret (de_and (de_callD D_is_integer (hr.mono (by omega)) rfl (da_cons (de_ix (de_var 0) de_int (fun _ _ => rfl)) da_nil)) (de_one (de_chainLe de_int (de_ix (de_var 0) de_int (fun _ _ => rfl)) de_int))))))

/-- is_layer -/
abbrev s_is_layer : Stmt := topS 16
abbrev N_is_layer : List Str := ["thing"]
theorem sc_is_layer : FnScope N_is_layer ["thing"] (defScope s_is_layer) := ⟨rfl, rfl, rfl, by decide +kernel, rfl, by decide +kernel, by decide +kernel⟩

theorem ok_is_layer {f : Addr} {fd : FuncData} {kk : Nat} (T : Txt K mg) (F : Fun K "is_layer" "is_layer" s_is_layer f fd) (g : mg "is_layer" = some (.ref f)) {kk_is_agent : Nat} {f_is_agent : Addr} {fd_is_agent : FuncData} (D_is_agent : DefOk P w K mg base "is_agent" ["thing"] kk_is_agent false 1 m_is_agent f_is_agent fd_is_agent) (l_is_agent : kk_is_agent ≤ kk) {kk_is_row : Nat} {f_is_row : Addr} {fd_is_row : FuncData} (D_is_row : DefOk P w K mg base "is_row" ["thing", "many"] kk_is_row false 2 m_is_row f_is_row fd_is_row) (l_is_row : kk_is_row ≤ kk) {kk_is_word : Nat} {f_is_word : Addr} {fd_is_word : FuncData} (D_is_word : DefOk P w K mg base "is_word" ["thing"] kk_is_word false 1 m_is_word f_is_word fd_is_word) (l_is_word : kk_is_word ≤ kk) : DefOk P w K mg base "is_layer" ["thing"] (kk + 1) false 1 m_is_layer f fd := by
  refine ⟨g, F.kp, F.binds (ps := ["thing"]) fun _ _ _ _ _ _ us hl => match us, hl with | [_], _ => rfl, F.ok sc_is_layer (fun vs H Q E h => by rw [h.len] <;> rfl) (fun cdv A outer s H vs Q E hr h => ?_)⟩
  refine DSs.fn (w := w_is_layer) (hs := false) (ar := 1) (k := 0) (m := m_is_layer) ?_ h rfl rd_is_layer
  exact (ds_cons (ds_if (dt_val (de_callD D_is_word (hr.mono (by omega)) rfl (da_cons (de_var 0) da_nil)))
      (ds_one (ds_ret de_bl))
      ds_nil)
    (ds_one (ds_ret (de_and (de_callD D_is_row (hr.mono (by omega)) rfl (da_cons (de_var 0) (da_cons de_int da_nil))) (de_and (de_isi (de_ix (de_var 0) de_int (fun _ _ => rfl)) rfl T.isinstance_ (pe_bltn rfl T.str_ (by decide +kernel) rfl) (by decide)) (de_and (de_inG (de_ix (de_var 0) de_int (fun _ _ => rfl)) (pe_glob rfl T.m_KINDS rfl) T.q_KINDS (by decide +kernel)) (de_one (de_callD D_is_agent (hr.mono (by omega)) rfl (da_cons (de_ix (de_var 0) de_int (fun _ _ => rfl)) da_nil)))))))))

/-- are_layers -/
abbrev s_are_layers : Stmt := topS 18
abbrev N_are_layers : List Str := ["thing", "one"]
theorem sc_are_layers : FnScope N_are_layers ["thing"] (defScope s_are_layers) := ⟨rfl, rfl, rfl, by decide +kernel, rfl, by decide +kernel, by decide +kernel⟩

theorem ok_are_layers {f : Addr} {fd : FuncData} {kk : Nat} (T : Txt K mg) (F : Fun K "are_layers" "are_layers" s_are_layers f fd) (g : mg "are_layers" = some (.ref f)) {kk_is_layer : Nat} {f_is_layer : Addr} {fd_is_layer : FuncData} (D_is_layer : DefOk P w K mg base "is_layer" ["thing"] kk_is_layer false 1 m_is_layer f_is_layer fd_is_layer) (l_is_layer : kk_is_layer ≤ kk) {kk_is_list : Nat} {f_is_list : Addr} {fd_is_list : FuncData} (D_is_list : DefOk P w K mg base "is_list" ["thing"] kk_is_list false 1 m_is_list f_is_list fd_is_list) (l_is_list : kk_is_list ≤ kk) : DefOk P w K mg base "are_layers" ["thing"] (kk + 1) false 1 m_are_layers f fd := by
  refine ⟨g, F.kp, F.binds (ps := ["thing"]) fun _ _ _ _ _ _ us hl => match us, hl with | [_], _ => rfl, F.ok sc_are_layers (fun vs H Q E h => by rw [h.len] <;> rfl) (fun cdv A outer s H vs Q E hr h => ?_)⟩
  refine DSs.fn (w := w_are_layers) (hs := false) (ar := 1) (k := 1) (m := m_are_layers) ?_ h rfl rd_are_layers
  exact (ds_one (ds_ret (de_and (de_callD D_is_list (hr.mono (by omega)) rfl (da_cons (de_var 0) da_nil)) (de_one (de_all rfl rfl T.all_ (da_cons (de_lc [("one", 1)] rfl sc_are_layers.nd (di_seq (de_var 0)) (blkOk_by (N := N_are_layers) (sc := defScope s_are_layers) (by decide +kernel)) (fun _ => (dg_name (i := 1) sc_are_layers.nd rfl (Or.inl rfl) (by decide))) (fun _ => dts_nil) (fun _ => (de_callD D_is_layer (hr.mono (by omega)) rfl (da_cons (de_var 1) da_nil)))) da_nil))))))

/-- kept -/
abbrev s_kept : Stmt := topS 19
abbrev N_kept : List Str := ["layers", "one"]
theorem sc_kept : FnScope N_kept ["layers"] (defScope s_kept) := ⟨rfl, rfl, rfl, by decide +kernel, rfl, by decide +kernel, by decide +kernel⟩

theorem ok_kept {f : Addr} {fd : FuncData} {kk : Nat} (T : Txt K mg) (F : Fun K "kept" "kept" s_kept f fd) (g : mg "kept" = some (.ref f)) : DefOk P w K mg base "kept" ["layers"] (kk + 1) false 1 m_kept f fd := by
  refine ⟨g, F.kp, F.binds (ps := ["layers"]) fun _ _ _ _ _ _ us hl => match us, hl with | [_], _ => rfl, F.ok sc_kept (fun vs H Q E h => by rw [h.len] <;> rfl) (fun cdv A outer s H vs Q E hr h => ?_)⟩
  refine DSs.fn (w := w_kept) (hs := false) (ar := 1) (k := 1) (m := m_kept) ?_ h rfl rd_kept
  exact (ds_one (ds_ret (de_tuple rfl T.tuple_ (da_cons (de_lc [("one", 1)] rfl sc_kept.nd (di_seq (de_var 0)) (blkOk_by (N := N_kept) (sc := defScope s_kept) (by decide +kernel)) (fun _ => (dg_name (i := 1) sc_kept.nd rfl (Or.inl rfl) (by decide))) (fun _ => dts_nil) (fun _ => (de_tuple rfl T.tuple_ (da_cons (de_var 1) da_nil)))) da_nil))))

/-- is_rule -/
abbrev s_is_rule : Stmt := topS 20
abbrev N_is_rule : List Str := ["thing"]
theorem sc_is_rule : FnScope N_is_rule ["thing"] (defScope s_is_rule) := ⟨rfl, rfl, rfl, by decide +kernel, rfl, by decide +kernel, by decide +kernel⟩

theorem ok_is_rule {f : Addr} {fd : FuncData} {kk : Nat} (T : Txt K mg) (F : Fun K "is_rule" "is_rule" s_is_rule f fd) (g : mg "is_rule" = some (.ref f)) {kk_are_layers : Nat} {f_are_layers : Addr} {fd_are_layers : FuncData} (D_are_layers : DefOk P w K mg base "are_layers" ["thing"] kk_are_layers false 1 m_are_layers f_are_layers fd_are_layers) (l_are_layers : kk_are_layers ≤ kk) {kk_is_row : Nat} {f_is_row : Addr} {fd_is_row : FuncData} (D_is_row : DefOk P w K mg base "is_row" ["thing", "many"] kk_is_row false 2 m_is_row f_is_row fd_is_row) (l_is_row : kk_is_row ≤ kk) : DefOk P w K mg base "is_rule" ["thing"] (kk + 1) false 1 m_is_rule f fd := by
  refine ⟨g, F.kp, F.binds (ps := ["thing"]) fun _ _ _ _ _ _ us hl => match us, hl with | [_], _ => rfl, F.ok sc_is_rule (fun vs H Q E h => by rw [h.len] <;> rfl) (fun cdv A outer s H vs Q E hr h => ?_)⟩
  refine DSs.fn (w := w_is_rule) (hs := false) (ar := 1) (k := 0) (m := m_is_rule) ?_ h rfl rd_is_rule
  exact (ds_one (ds_ret (de_and (de_callD D_is_row (hr.mono (by omega)) rfl (da_cons (de_var 0) (da_cons de_int da_nil))) (de_and (de_callD D_are_layers (hr.mono (by omega)) rfl (da_cons (de_ix (de_var 0) de_int (fun _ _ => rfl)) da_nil)) (de_one (de_callD D_are_layers (hr.mono (by omega)) rfl (da_cons (de_ix (de_var 0) de_int (fun _ _ => rfl)) da_nil)))))))

/-- checked_rules -/
abbrev s_checked_rules : Stmt := topS 21
abbrev N_checked_rules : List Str := ["some", "index", "thing", "takes", "puts", "_"]
theorem sc_checked_rules : FnScope N_checked_rules ["some"] (defScope s_checked_rules) := ⟨rfl, rfl, rfl, by decide +kernel, rfl, by decide +kernel, by decide +kernel⟩

theorem ok_checked_rules {f : Addr} {fd : FuncData} {kk : Nat} (T : Txt K mg) (F : Fun K "checked_rules" "checked_rules" s_checked_rules f fd) (g : mg "checked_rules" = some (.ref f)) {kk_kept : Nat} {f_kept : Addr} {fd_kept : FuncData} (D_kept : DefOk P w K mg base "kept" ["layers"] kk_kept false 1 m_kept f_kept fd_kept) (l_kept : kk_kept ≤ kk) {kk_is_rule : Nat} {f_is_rule : Addr} {fd_is_rule : FuncData} (D_is_rule : DefOk P w K mg base "is_rule" ["thing"] kk_is_rule false 1 m_is_rule f_is_rule fd_is_rule) (l_is_rule : kk_is_rule ≤ kk) {kk_is_list : Nat} {f_is_list : Addr} {fd_is_list : FuncData} (D_is_list : DefOk P w K mg base "is_list" ["thing"] kk_is_list false 1 m_is_list f_is_list fd_is_list) (l_is_list : kk_is_list ≤ kk) : DefOk P w K mg base "checked_rules" ["some"] (kk + 1) false 1 m_checked_rules f fd := by
  refine ⟨g, F.kp, F.binds (ps := ["some"]) fun _ _ _ _ _ _ us hl => match us, hl with | [_], _ => rfl, F.ok sc_checked_rules (fun vs H Q E h => by rw [h.len] <;> rfl) (fun cdv A outer s H vs Q E hr h => ?_)⟩
  refine DSs.fn (w := w_checked_rules) (hs := false) (ar := 1) (k := 5) (m := m_checked_rules) ?_ h rfl rd_checked_rules
  exact (ds_cons (ds_if (dt_not (dt_val (de_callD D_is_list (hr.mono (by omega)) rfl (da_cons (de_var 0) da_nil))))
      (ds_one ds_never)
      ds_nil)
    (ds_cons (ds_for PassesOwn.never rfl (di_enum rfl T.enumerate_ (da_cons (de_var 0) da_nil)) (dg_seq (vs := [1, 2]) rfl (dgs_cons (i := 1) sc_checked_rules.nd rfl (Or.inl rfl) (by decide) (dgs_cons (i := 2) sc_checked_rules.nd rfl (Or.inl rfl) (by decide) dgs_nil)))
      (ds_one (ds_if (dt_not (dt_val (de_callD D_is_rule (hr.mono (by omega)) rfl (da_cons (de_var 2) da_nil))))
      (ds_one ds_never)
      ds_nil)))
    (ds_one (ds_ret (de_lc [("takes", 3), ("puts", 4), ("_", 5)] rfl sc_checked_rules.nd (di_seq (de_var 0)) (blkOk_by (N := N_checked_rules) (sc := defScope s_checked_rules) (by decide +kernel)) (fun _ => (dg_seq rfl (dgs_cons (i := 3) sc_checked_rules.nd rfl (Or.inl rfl) (by decide) (dgs_cons (i := 4) sc_checked_rules.nd rfl (Or.inl rfl) (by decide) (dgs_cons (i := 5) sc_checked_rules.nd rfl (Or.inl rfl) (by decide) dgs_nil))))) (fun _ => dts_nil) (fun _ => (de_tup (da_cons (de_callD D_kept (hr.mono (by omega)) rfl (da_cons (de_var 3) da_nil)) (da_cons (de_callD D_kept (hr.mono (by omega)) rfl (da_cons (de_var 4) da_nil)) da_nil)))))))))

/-- checked_layers -/
abbrev s_checked_layers : Stmt := topS 22
abbrev N_checked_layers : List Str := ["layers"]
theorem sc_checked_layers : FnScope N_checked_layers ["layers"] (defScope s_checked_layers) := ⟨rfl, rfl, rfl, by decide +kernel, rfl, by decide +kernel, by decide +kernel⟩

theorem ok_checked_layers {f : Addr} {fd : FuncData} {kk : Nat} (T : Txt K mg) (F : Fun K "checked_layers" "checked_layers" s_checked_layers f fd) (g : mg "checked_layers" = some (.ref f)) {kk_kept : Nat} {f_kept : Addr} {fd_kept : FuncData} (D_kept : DefOk P w K mg base "kept" ["layers"] kk_kept false 1 m_kept f_kept fd_kept) (l_kept : kk_kept ≤ kk) {kk_are_layers : Nat} {f_are_layers : Addr} {fd_are_layers : FuncData} (D_are_layers : DefOk P w K mg base "are_layers" ["thing"] kk_are_layers false 1 m_are_layers f_are_layers fd_are_layers) (l_are_layers : kk_are_layers ≤ kk) : DefOk P w K mg base "checked_layers" ["layers"] (kk + 1) false 1 m_checked_layers f fd := by
  refine ⟨g, F.kp, F.binds (ps := ["layers"]) fun _ _ _ _ _ _ us hl => match us, hl with | [_], _ => rfl, F.ok sc_checked_layers (fun vs H Q E h => by rw [h.len] <;> rfl) (fun cdv A outer s H vs Q E hr h => ?_)⟩
  refine DSs.fn (w := w_checked_layers) (hs := false) (ar := 1) (k := 0) (m := m_checked_layers) ?_ h rfl rd_checked_layers
  exact (ds_cons (ds_if (dt_not (dt_val (de_callD D_are_layers (hr.mono (by omega)) rfl (da_cons (de_var 0) da_nil))))
      (ds_one ds_never)
      ds_nil)
    (ds_one (ds_ret (de_callD D_kept (hr.mono (by omega)) rfl (da_cons (de_var 0) da_nil)))))

/-- after -/
abbrev s_after : Stmt := topS 23
abbrev N_after : List Str := ["rules", "layers", "rule", "known", "here", "takes", "puts"]
theorem sc_after : FnScope N_after ["rules", "layers", "rule"] (defScope s_after) := ⟨rfl, rfl, rfl, by decide +kernel, rfl, by decide +kernel, by decide +kernel⟩

theorem ok_after {f : Addr} {fd : FuncData} {kk : Nat} (T : Txt K mg) (F : Fun K "after" "after" s_after f fd) (g : mg "after" = some (.ref f)) {kk_is_number : Nat} {f_is_number : Addr} {fd_is_number : FuncData} (D_is_number : DefOk P w K mg base "is_number" ["thing"] kk_is_number false 1 m_is_number f_is_number fd_is_number) (l_is_number : kk_is_number ≤ kk) {kk_checked_layers : Nat} {f_checked_layers : Addr} {fd_checked_layers : FuncData} (D_checked_layers : DefOk P w K mg base "checked_layers" ["layers"] kk_checked_layers false 1 m_checked_layers f_checked_layers fd_checked_layers) (l_checked_layers : kk_checked_layers ≤ kk) {kk_checked_rules : Nat} {f_checked_rules : Addr} {fd_checked_rules : FuncData} (D_checked_rules : DefOk P w K mg base "checked_rules" ["some"] kk_checked_rules false 1 m_checked_rules f_checked_rules fd_checked_rules) (l_checked_rules : kk_checked_rules ≤ kk) : DefOk P w K mg base "after" ["rules", "layers", "rule"] (kk + 1) false 3 m_after f fd := by
  refine ⟨g, F.kp, F.binds (ps := ["rules", "layers", "rule"]) fun _ _ _ _ _ _ us hl => match us, hl with | [_, _, _], _ => rfl, F.ok sc_after (fun vs H Q E h => by rw [h.len] <;> rfl) (fun cdv A outer s H vs Q E hr h => ?_)⟩
  refine DSs.fn (w := w_after) (hs := false) (ar := 3) (k := 4) (m := m_after) ?_ h rfl rd_after
  exact (ds_cons (ds_par (i := 3) (j := 4) rfl sc_after.nd rfl rfl (by decide) rfl rfl (da_cons (de_callD D_checked_rules (hr.mono (by omega)) rfl (da_cons (de_var 0) da_nil)) (da_cons (de_callD D_checked_layers (hr.mono (by omega)) rfl (da_cons (de_var 1) da_nil)) da_nil)) (fun _ h => ps_par rfl sc_after.nd rfl rfl (by decide) rfl rfl h (by rfl)))
    (ds_cons (ds_if (DW.dt (dw_or (dt_not (dt_val (de_callD D_is_number (hr.mono (by omega)) rfl (da_cons (de_var 2) da_nil)))) (dw_or1 (dt_ge (de_var 2) (de_len rfl T.len_ (da_cons (de_var 3) da_nil))))))
      (ds_one ds_never)
      ds_nil)
    (ds_cons (ds_asg (de_ix (de_var 3) (de_var 2) (fun _ _ => rfl)) (dg_seq (vs := [5, 6]) rfl (dgs_cons (i := 5) sc_after.nd rfl (Or.inl rfl) (by decide) (dgs_cons (i := 6) sc_after.nd rfl (Or.inl rfl) (by decide) dgs_nil))))
    (ds_one (ds_ret (de_ifExp (dt_eq (hu64 hr) (de_slice sl_any (de_var 4) do_none (do_some (de_len rfl T.len_ (da_cons (de_var 5) da_nil)))) (de_var 5)) (de_lst (da_star (de_var 6) (da_star (de_slice sl_any (de_var 4) (do_some (de_len rfl T.len_ (da_cons (de_var 5) da_nil))) do_none) da_nil))) de_non))))))

abbrev s__law_draw : Stmt := topS 28
abbrev N__law_draw : List Str := ["_law_stream_here", "_law_many", "_law_cell", "_law_digit", "_law_mixed_here"]
theorem sc__law_draw : FnScope N__law_draw ["_law_stream_here", "_law_many"] (defScope s__law_draw) := ⟨rfl, rfl, rfl, by decide +kernel, rfl, by decide +kernel, by decide +kernel⟩
theorem ok__law_draw {f : Addr} {fd : FuncData} {kk : Nat} (T : Txt K mg) (F : Fun K "_law_draw" "_law_draw" s__law_draw f fd) (g : mg "_law_draw" = some (.ref f)) : DefOk P w K mg base "_law_draw" ["_law_stream_here", "_law_many"] (kk + 1) true 1 m__law_draw f fd := by
  refine ⟨g, F.kp, F.binds (ps := ["_law_stream_here", "_law_many"]) fun _ _ _ _ _ _ us hl => match us, hl with | [_, _], _ => rfl, F.ok sc__law_draw (fun vs H Q E h => by rw [h.len] <;> rfl) (fun cdv A outer s H vs Q E hr h => ⟨drawT K, ?_, drawT_run h⟩)⟩
  exact pss_cons (ps_asg (pe_op op_add (pe_ix ix_seq (pv 0) pe_int (fun _ _ => rfl)) pe_int) (pg_sub (pv 0) pe_int set_list))
    (pss_cons (ps_while PassesOwn.never (PW.pt (pw_and (pt_cmpR op_eq (pe_ix ix_seq (pv 0) pe_int (fun _ _ => rfl)) pe_int (nomark _)) (pw_and1 (pt_cmpR (op_neD (hu64 hr)) (pe_ix ix_seq (pv 0) pe_int (fun _ _ => rfl)) (pe_lst pa_nil) (nomark _)))))
      (pss_cons (ps_set (i := 2) sc__law_draw.nd rfl (.inl rfl) (pe_callB call_abs rfl T.abs_ (by decide +kernel) (pa_cons (pe_bm PySem.F.plainAttrs_list PySem.F.slot_list_pop PySem.F.type_list_pop mt_popAt (pe_ix ix_seq (pv 0) pe_int (fun _ _ => rfl)) (pa_cons pe_int pa_nil)) pa_nil)))
      (pss_cons (ps_asg (pe_op op_mod (pe_callTy call_int1 rfl T.int_ (by decide +kernel) (pa_cons (pe_op op_add (pe_op op_add (pe_op op_mul (pe_ix ix_seq (pv 0) pe_int (fun _ _ => rfl)) pe_int) (pv 2)) pe_int) pa_nil)) pe_int) (pg_sub (pv 0) pe_int set_list))
      (pss_one (ps_asg (pe_ifExp (pt_cmpR op_ge (pv 2) (pe_op op_pow pe_int pe_int) (nomark _)) (pv 2) pe_int) (pg_sub (pv 0) pe_int set_list))))))
    (pss_cons (ps_if (pt_cmpR op_gt (pe_ix ix_seq (pv 0) pe_int (fun _ _ => rfl)) pe_int (nomark _))
      (pss_cons (ps_set (i := 3) sc__law_draw.nd rfl (.inl rfl) (pe_op op_mod (pe_callTy call_int1 rfl T.int_ (by decide +kernel) (pa_cons (pe_ix ix_seq (pv 0) pe_int (fun _ _ => rfl)) pa_nil)) (pv 1)))
      (pss_cons (ps_asg (pe_op op_fdiv (pe_ix ix_seq (pv 0) pe_int (fun _ _ => rfl)) (pv 1)) (pg_sub (pv 0) pe_int set_list))
      (pss_one (ps_ret (pv 3))))) pss_nil)
    (pss_cons (ps_set (i := 4) sc__law_draw.nd rfl (.inl rfl) (pe_op op_mod (pe_callTy call_int1 rfl T.int_ (by decide +kernel) (pa_cons (pe_op op_pow (pe_op op_add (pe_op op_add (pe_ix ix_seq (pv 0) pe_int (fun _ _ => rfl)) (pe_op op_mul pe_int (pe_ix ix_seq (pv 0) pe_int (fun _ _ => rfl)))) pe_int) pe_int) pa_nil)) pe_int))
    (pss_one (ps_ret (pe_op op_mod (pe_op op_mod (pe_callTy call_int1 rfl T.int_ (by decide +kernel) (pa_cons (pe_op op_pow (pe_op op_add (pe_op op_add (pe_op op_mul (pv 4) pe_int) (pe_op op_mul pe_int (pe_ix ix_seq (pv 0) pe_int (fun _ _ => rfl)))) pe_int) pe_int) pa_nil)) pe_int) (pv 1)))))))

/-- _law_pick -/
abbrev s__law_pick : Stmt := topS 29
abbrev N__law_pick : List Str := ["_law_stream_here", "_law_things"]
theorem sc__law_pick : FnScope N__law_pick ["_law_stream_here", "_law_things"] (defScope s__law_pick) := ⟨rfl, rfl, rfl, by decide +kernel, rfl, by decide +kernel, by decide +kernel⟩

theorem ok__law_pick {f : Addr} {fd : FuncData} {kk : Nat} (T : Txt K mg) (F : Fun K "_law_pick" "_law_pick" s__law_pick f fd) (g : mg "_law_pick" = some (.ref f)) {kk__law_draw : Nat} {f__law_draw : Addr} {fd__law_draw : FuncData} (D__law_draw : DefOk P w K mg base "_law_draw" ["_law_stream_here", "_law_many"] kk__law_draw true 1 m__law_draw f__law_draw fd__law_draw) (l__law_draw : kk__law_draw ≤ kk) : DefOk P w K mg base "_law_pick" ["_law_stream_here", "_law_things"] (kk + 1) true 1 m__law_pick f fd := by
  refine ⟨g, F.kp, F.binds (ps := ["_law_stream_here", "_law_things"]) fun _ _ _ _ _ _ us hl => match us, hl with | [_, _], _ => rfl, F.ok sc__law_pick (fun vs H Q E h => by rw [h.len] <;> rfl) (fun cdv A outer s H vs Q E hr h => ?_)⟩
  refine DSs.fn (w := w__law_pick) (hs := true) (ar := 1) (k := 0) (m := m__law_pick) ?_ h rfl rd__law_pick
  exact (ds_one (ds_ret (de_ix (de_var 1) (de_callD D__law_draw (hr.mono (by omega)) rfl (da_cons (de_var 0) (da_cons (de_len rfl T.len_ (da_cons (de_var 1) da_nil)) da_nil))) (fun _ _ => rfl))))

/-- _law_mixed -/
abbrev s__law_mixed : Stmt := topS 30
abbrev N__law_mixed : List Str := ["_law_stream_here", "_law_things", "_law_left", "_law_found", "_law_k"]
theorem sc__law_mixed : FnScope N__law_mixed ["_law_stream_here", "_law_things"] (defScope s__law_mixed) := ⟨rfl, rfl, rfl, by decide +kernel, rfl, by decide +kernel, by decide +kernel⟩

theorem ok__law_mixed {f : Addr} {fd : FuncData} {kk : Nat} (T : Txt K mg) (F : Fun K "_law_mixed" "_law_mixed" s__law_mixed f fd) (g : mg "_law_mixed" = some (.ref f)) {kk__law_draw : Nat} {f__law_draw : Addr} {fd__law_draw : FuncData} (D__law_draw : DefOk P w K mg base "_law_draw" ["_law_stream_here", "_law_many"] kk__law_draw true 1 m__law_draw f__law_draw fd__law_draw) (l__law_draw : kk__law_draw ≤ kk) : DefOk P w K mg base "_law_mixed" ["_law_stream_here", "_law_things"] (kk + 1) true 1 m__law_mixed f fd := by
  refine ⟨g, F.kp, F.binds (ps := ["_law_stream_here", "_law_things"]) fun _ _ _ _ _ _ us hl => match us, hl with | [_, _], _ => rfl, F.ok sc__law_mixed (fun vs H Q E h => by rw [h.len] <;> rfl) (fun cdv A outer s H vs Q E hr h => ?_)⟩
  refine DSs.fn (w := w__law_mixed) (hs := true) (ar := 1) (k := 3) (m := m__law_mixed) ?_ h rfl rd__law_mixed
  exact (ds_cons (ds_par (i := 2) (j := 3) rfl sc__law_mixed.nd rfl rfl (by decide) rfl rfl (da_cons (de_list rfl T.list_ (da_cons (de_var 1) da_nil)) (da_cons (de_lst da_nil) da_nil)) (fun _ h => ps_par rfl sc__law_mixed.nd rfl rfl (by decide) rfl rfl h (by rfl)))
    (ds_cons (ds_for PassesOwn.never rfl (di_rng1 (fun _ h => pi_range1 rfl T.range_ h) (da_cons (de_len rfl T.len_ (da_cons (de_var 2) da_nil)) da_nil)) (dg_name (vs := [4]) (i := 4) sc__law_mixed.nd rfl (Or.inl rfl) (by decide))
      (ds_one (ds_expr (de_append (de_var 3) (da_cons (de_popAt (de_var 2) (da_cons (de_callD D__law_draw (hr.mono (by omega)) rfl (da_cons (de_var 0) (da_cons (de_len rfl T.len_ (da_cons (de_var 2) da_nil)) da_nil))) da_nil)) da_nil)))))
    (ds_one (ds_ret (de_var 3)))))

/-- _law_each_once -/
abbrev s__law_each_once : Stmt := topS 31
abbrev N__law_each_once : List Str := ["_law_some", "_law_found", "_law_thing"]
theorem sc__law_each_once : FnScope N__law_each_once ["_law_some"] (defScope s__law_each_once) := ⟨rfl, rfl, rfl, by decide +kernel, rfl, by decide +kernel, by decide +kernel⟩

theorem ok__law_each_once {f : Addr} {fd : FuncData} {kk : Nat} (T : Txt K mg) (F : Fun K "_law_each_once" "_law_each_once" s__law_each_once f fd) (g : mg "_law_each_once" = some (.ref f)) : DefOk P w K mg base "_law_each_once" ["_law_some"] (kk + 1) false 1 m__law_each_once f fd := by
  refine ⟨g, F.kp, F.binds (ps := ["_law_some"]) fun _ _ _ _ _ _ us hl => match us, hl with | [_], _ => rfl, F.ok sc__law_each_once (fun vs H Q E h => by rw [h.len] <;> rfl) (fun cdv A outer s H vs Q E hr h => ?_)⟩
  refine DSs.fn (w := w__law_each_once) (hs := false) (ar := 1) (k := 2) (m := m__law_each_once) ?_ h rfl rd__law_each_once
  exact (ds_cons (ds_set (i := 1) sc__law_each_once.nd rfl (Or.inl rfl) (de_lst da_nil))
    (ds_cons (ds_for PassesOwn.never rfl (di_seq (de_var 0)) (dg_name (vs := [2]) (i := 2) sc__law_each_once.nd rfl (Or.inl rfl) (by decide))
      (ds_one (ds_expr (de_extend (de_var 1) (da_cons (de_ifExp (dt_notin (hu65 hr) (de_var 2) (de_var 1) rfl) (de_lst (da_cons (de_var 2) da_nil)) (de_lst da_nil)) da_nil)))))
    (ds_one (ds_ret (de_var 1)))))

/-- _law_loose -/
abbrev s__law_loose : Stmt := topS 32
abbrev N__law_loose : List Str := ["_law_stream_here", "_law_thing", "_law_some", "_law_one"]
theorem sc__law_loose : FnScope N__law_loose ["_law_stream_here", "_law_thing"] (defScope s__law_loose) := ⟨rfl, rfl, rfl, by decide +kernel, rfl, by decide +kernel, by decide +kernel⟩

theorem ok__law_loose {f : Addr} {fd : FuncData} {kk : Nat} (T : Txt K mg) (F : Fun K "_law_loose" "_law_loose" s__law_loose f fd) (g : mg "_law_loose" = some (.ref f)) {m0 m1 : FM} {kk__law_draw : Nat} {f__law_draw : Addr} {fd__law_draw : FuncData} (D__law_draw : DefOk P w K mg base "_law_draw" ["_law_stream_here", "_law_many"] kk__law_draw true 1 m__law_draw f__law_draw fd__law_draw) (l__law_draw : kk__law_draw ≤ kk) {kk__law_loose : Nat} {f__law_loose : Addr} {fd__law_loose : FuncData} (D__law_loose : DefOk P w K mg base "_law_loose" ["_law_stream_here", "_law_thing"] kk__law_loose true 1 m0 f__law_loose fd__law_loose) (l__law_loose : kk__law_loose ≤ kk) (rd : ∀ ds n Ψ, ds.length = 1 → m1 ds n Ψ → w__law_loose m0 (fnStart true ds 2 n) (fnEnds Ψ)) : DefOk P w K mg base "_law_loose" ["_law_stream_here", "_law_thing"] (kk + 1) true 1 m1 f fd := by
  refine ⟨g, F.kp, F.binds (ps := ["_law_stream_here", "_law_thing"]) fun _ _ _ _ _ _ us hl => match us, hl with | [_, _], _ => rfl, F.ok sc__law_loose (fun vs H Q E h => by rw [h.len] <;> rfl) (fun cdv A outer s H vs Q E hr h => ?_)⟩
  refine DSs.fn (w := (w__law_loose m0)) (hs := true) (ar := 1) (k := 2) (m := m1) ?_ h rfl rd
  exact (ds_cons (ds_if (dt_val (de_isiT (de_var 1) rfl T.isinstance_ (tya_cons (pe_bltn rfl T.list_ (by decide +kernel) rfl) (tya_cons (pe_bltn rfl T.tuple_ (by decide +kernel) rfl) tya_nil)) (by decide) (by decide)))
      (ds_cons (ds_setLc (i := 2) [("_law_one", 3)] rfl sc__law_loose.nd rfl rfl (sw_true rfl rfl rfl (by decide +kernel)) (di_seq (de_var 1)) (blkOk_by (N := N__law_loose) (sc := defScope s__law_loose) (by decide +kernel)) (fun _ => (dg_name (i := 3) sc__law_loose.nd rfl (Or.inl rfl) (by decide))) (fun _ => dts_nil) (fun _ => (de_callD D__law_loose (hr.mono (by omega)) rfl (da_cons (de_var 0) (da_cons (de_var 3) da_nil)))))
    (ds_one (ds_ret (de_ifExp (dt_eq (hu64 hr) (de_callD D__law_draw (hr.mono (by omega)) rfl (da_cons (de_var 0) (da_cons de_int da_nil))) de_int) (de_var 2) (de_tuple rfl T.tuple_ (da_cons (de_var 2) da_nil))))))
      ds_nil)
    (ds_one (ds_ret (de_var 1))))

/-- _law_same -/
abbrev s__law_same : Stmt := topS 33
abbrev N__law_same : List Str := ["_law_found", "_law_due", "_law_mine", "_law_theirs", "_law_key"]
theorem sc__law_same : FnScope N__law_same ["_law_found", "_law_due"] (defScope s__law_same) := ⟨rfl, rfl, rfl, by decide +kernel, rfl, by decide +kernel, by decide +kernel⟩

theorem ok__law_same {f : Addr} {fd : FuncData} {kk : Nat} (T : Txt K mg) (F : Fun K "_law_same" "_law_same" s__law_same f fd) (g : mg "_law_same" = some (.ref f)) {m0 m1 : FM} {kk__law_same : Nat} {f__law_same : Addr} {fd__law_same : FuncData} (D__law_same : DefOk P w K mg base "_law_same" ["_law_found", "_law_due"] kk__law_same false 2 m0 f__law_same fd__law_same) (l__law_same : kk__law_same ≤ kk) (rd : ∀ ds n Ψ, ds.length = 2 → m1 ds n Ψ → w__law_same m0 (fnStart false ds 3 n) (fnEnds Ψ)) : DefOk P w K mg base "_law_same" ["_law_found", "_law_due"] (kk + 1) false 2 m1 f fd := by
  refine ⟨g, F.kp, F.binds (ps := ["_law_found", "_law_due"]) fun _ _ _ _ _ _ us hl => match us, hl with | [_, _], _ => rfl, F.ok sc__law_same (fun vs H Q E h => by rw [h.len] <;> rfl) (fun cdv A outer s H vs Q E hr h => ?_)⟩
  refine DSs.fn (w := (w__law_same m0)) (hs := false) (ar := 2) (k := 3) (m := m1) ?_ h rfl rd
  exact (ds_cons (ds_if (dt_val (de_isiT (de_var 1) rfl T.isinstance_ (tya_cons (pe_bltn rfl T.list_ (by decide +kernel) rfl) (tya_cons (pe_bltn rfl T.tuple_ (by decide +kernel) rfl) tya_nil)) (by decide) (by decide)))
      (ds_cons (ds_if (DW.dt (dw_or (dt_ne (hu64 hr) (de_isi (de_var 0) rfl T.isinstance_ (pe_bltn rfl T.list_ (by decide +kernel) rfl) (by decide)) (de_isi (de_var 1) rfl T.isinstance_ (pe_bltn rfl T.list_ (by decide +kernel) rfl) (by decide))) (dw_or1 (dt_ne (hu64 hr) (de_isi (de_var 0) rfl T.isinstance_ (pe_bltn rfl T.tuple_ (by decide +kernel) rfl) (by decide)) (de_isi (de_var 1) rfl T.isinstance_ (pe_bltn rfl T.tuple_ (by decide +kernel) rfl) (by decide))))))
      (ds_one (ds_ret de_bl))
      ds_nil)
    (ds_one (ds_ret (de_and (de_eq (hu64 hr) (de_len rfl T.len_ (da_cons (de_var 0) da_nil)) (de_len rfl T.len_ (da_cons (de_var 1) da_nil))) (de_one (de_all rfl rfl T.all_ (da_cons (de_lc [("_law_mine", 2), ("_law_theirs", 3)] rfl sc__law_same.nd (di_zip rfl T.zip_ (da_cons (de_var 0) (da_cons (de_var 1) da_nil))) (blkOk_by (N := N__law_same) (sc := defScope s__law_same) (by decide +kernel)) (fun _ => (dg_seq rfl (dgs_cons (i := 2) sc__law_same.nd rfl (Or.inl rfl) (by decide) (dgs_cons (i := 3) sc__law_same.nd rfl (Or.inl rfl) (by decide) dgs_nil)))) (fun _ => dts_nil) (fun _ => (de_callD D__law_same (hr.mono (by omega)) rfl (da_cons (de_var 2) (da_cons (de_var 3) da_nil))))) da_nil)))))))
      ds_nil)
    (ds_cons (ds_if (dt_val (de_isi (de_var 1) rfl T.isinstance_ (pe_bltn rfl T.dict_ (by decide +kernel) rfl) (by decide))) dss_never
      ds_nil)
    (ds_cons (ds_if (DW.dt (dw_or (dt_val (de_isi (de_var 1) rfl T.isinstance_ (pe_bltn rfl T.bool_ (by decide +kernel) rfl) (by decide))) (dw_or1 (dt_val (de_isi (de_var 0) rfl T.isinstance_ (pe_bltn rfl T.bool_ (by decide +kernel) rfl) (by decide))))))
      (ds_one (ds_ret (de_and (de_isi (de_var 1) rfl T.isinstance_ (pe_bltn rfl T.bool_ (by decide +kernel) rfl) (by decide)) (de_and (de_isi (de_var 0) rfl T.isinstance_ (pe_bltn rfl T.bool_ (by decide +kernel) rfl) (by decide)) (de_one (de_eq (hu64 hr) (de_var 0) (de_var 1)))))))
      ds_nil)
    (ds_one (ds_ret (de_and (de_not (de_isiT (de_var 0) rfl T.isinstance_ (tya_cons (pe_bltn rfl T.list_ (by decide +kernel) rfl) (tya_cons (pe_bltn rfl T.tuple_ (by decide +kernel) rfl) (tya_cons (pe_bltn rfl T.dict_ (by decide +kernel) rfl) tya_nil))) (by decide) (by decide))) (de_one (de_eq (hu64 hr) (de_var 0) (de_var 1)))))))))

/-- _law_controls -/
abbrev s__law_controls : Stmt := topS 34
abbrev N__law_controls : List Str := ["_law_lot", "_law_found", "_law_takes", "_law_puts", "_law_move", "_law_many"]
theorem sc__law_controls : FnScope N__law_controls ["_law_lot"] (defScope s__law_controls) := ⟨rfl, rfl, rfl, by decide +kernel, rfl, by decide +kernel, by decide +kernel⟩

theorem ok__law_controls {f : Addr} {fd : FuncData} {kk : Nat} (T : Txt K mg) (F : Fun K "_law_controls" "_law_controls" s__law_controls f fd) (g : mg "_law_controls" = some (.ref f)) {kk__law_each_once : Nat} {f__law_each_once : Addr} {fd__law_each_once : FuncData} (D__law_each_once : DefOk P w K mg base "_law_each_once" ["_law_some"] kk__law_each_once false 1 m__law_each_once f__law_each_once fd__law_each_once) (l__law_each_once : kk__law_each_once ≤ kk) : DefOk P w K mg base "_law_controls" ["_law_lot"] (kk + 1) false 1 m__law_controls f fd := by
  refine ⟨g, F.kp, F.binds (ps := ["_law_lot"]) fun _ _ _ _ _ _ us hl => match us, hl with | [_], _ => rfl, F.ok sc__law_controls (fun vs H Q E h => by rw [h.len] <;> rfl) (fun cdv A outer s H vs Q E hr h => ?_)⟩
  refine DSs.fn (w := w__law_controls) (hs := false) (ar := 1) (k := 5) (m := m__law_controls) ?_ h rfl rd__law_controls
  exact (ds_cons (ds_set (i := 1) sc__law_controls.nd rfl (Or.inl rfl) (de_lst (da_cons (de_tup da_nil) da_nil)))
    (ds_cons (ds_for PassesOwn.never rfl (di_seq (de_var 0)) (dg_seq (vs := [2, 3, 4]) rfl (dgs_cons (i := 2) sc__law_controls.nd rfl (Or.inr rfl) (by decide) (dgs_cons (i := 3) sc__law_controls.nd rfl (Or.inl rfl) (by decide) (dgs_cons (i := 4) sc__law_controls.nd rfl (Or.inl rfl) (by decide) dgs_nil))))
      (ds_one (ds_expr (de_extend (de_var 1) (da_cons (de_lc [("_law_many", 5)] rfl sc__law_controls.nd (di_rng1 (fun _ h => pi_range1 rfl T.range_ h) (da_cons (de_len rfl T.len_ (da_cons (de_var 2) da_nil)) da_nil)) (blkOk_by (N := N__law_controls) (sc := defScope s__law_controls) (by decide +kernel)) (fun _ => (dg_name (i := 5) sc__law_controls.nd rfl (Or.inl rfl) (by decide))) (fun _ => dts_nil) (fun _ => (de_tuple rfl T.tuple_ (da_cons (de_slice sl_any (de_var 2) do_none (do_some (de_var 5))) da_nil)))) da_nil)))))
    (ds_one (ds_ret (de_sorted2 (hu64 hr) rfl T.sorted_ (da_cons (de_callD D__law_each_once (hr.mono (by omega)) rfl (da_cons (de_var 1) da_nil)) da_nil))))))

/-- _law_after -/
abbrev s__law_after : Stmt := topS 35
abbrev N__law_after : List Str := ["_law_rule", "_law_layers", "_law_takes", "_law_puts"]
theorem sc__law_after : FnScope N__law_after ["_law_rule", "_law_layers"] (defScope s__law_after) := ⟨rfl, rfl, rfl, by decide +kernel, rfl, by decide +kernel, by decide +kernel⟩

theorem ok__law_after {f : Addr} {fd : FuncData} {kk : Nat} (T : Txt K mg) (F : Fun K "_law_after" "_law_after" s__law_after f fd) (g : mg "_law_after" = some (.ref f)) : DefOk P w K mg base "_law_after" ["_law_rule", "_law_layers"] (kk + 1) false 2 m__law_after f fd := by
  refine ⟨g, F.kp, F.binds (ps := ["_law_rule", "_law_layers"]) fun _ _ _ _ _ _ us hl => match us, hl with | [_, _], _ => rfl, F.ok sc__law_after (fun vs H Q E h => by rw [h.len] <;> rfl) (fun cdv A outer s H vs Q E hr h => ?_)⟩
  refine DSs.fn (w := w__law_after) (hs := false) (ar := 2) (k := 2) (m := m__law_after) ?_ h rfl rd__law_after
  exact (ds_cons (ds_par (i := 2) (j := 3) rfl sc__law_after.nd rfl rfl (by decide) rfl rfl (da_cons (de_list rfl T.list_ (da_cons (de_ix (de_var 0) de_int (fun _ _ => rfl)) da_nil)) (da_cons (de_list rfl T.list_ (da_cons (de_ix (de_var 0) de_int (fun _ _ => rfl)) da_nil)) da_nil)) (fun _ h => ps_par rfl sc__law_after.nd rfl rfl (by decide) rfl rfl h (by rfl)))
    (ds_one (ds_ret (de_ifExp (dt_eq (hu64 hr) (de_list rfl T.list_ (da_cons (de_slice sl_any (de_var 1) do_none (do_some (de_len rfl T.len_ (da_cons (de_var 2) da_nil)))) da_nil)) (de_var 2)) (de_plus (de_var 3) (de_list rfl T.list_ (da_cons (de_slice sl_any (de_var 1) (do_some (de_len rfl T.len_ (da_cons (de_var 2) da_nil))) do_none) da_nil))) de_non))))

/-- _law_spoilt -/
abbrev s__law_spoilt : Stmt := topS 36
abbrev N__law_spoilt : List Str := ["_law_thing", "_law_part"]
theorem sc__law_spoilt : FnScope N__law_spoilt ["_law_thing"] (defScope s__law_spoilt) := ⟨rfl, rfl, rfl, by decide +kernel, rfl, by decide +kernel, by decide +kernel⟩

theorem ok__law_spoilt {f : Addr} {fd : FuncData} {kk : Nat} (T : Txt K mg) (F : Fun K "_law_spoilt" "_law_spoilt" s__law_spoilt f fd) (g : mg "_law_spoilt" = some (.ref f)) {m0 m1 : FM} {kk__law_spoilt : Nat} {f__law_spoilt : Addr} {fd__law_spoilt : FuncData} (D__law_spoilt : DefOk P w K mg base "_law_spoilt" ["_law_thing"] kk__law_spoilt false 1 m0 f__law_spoilt fd__law_spoilt) (l__law_spoilt : kk__law_spoilt ≤ kk) (rd : ∀ ds n Ψ, ds.length = 1 → m1 ds n Ψ → w__law_spoilt m0 (fnStart false ds 1 n) (fnEnds Ψ)) : DefOk P w K mg base "_law_spoilt" ["_law_thing"] (kk + 1) false 1 m1 f fd := by
  refine ⟨g, F.kp, F.binds (ps := ["_law_thing"]) fun _ _ _ _ _ _ us hl => match us, hl with | [_], _ => rfl, F.ok sc__law_spoilt (fun vs H Q E h => by rw [h.len] <;> rfl) (fun cdv A outer s H vs Q E hr h => ?_)⟩
  refine DSs.fn (w := (w__law_spoilt m0)) (hs := false) (ar := 1) (k := 1) (m := m1) ?_ h rfl rd
  exact (ds_one (ds_if (dt_val (de_isiT (de_var 0) rfl T.isinstance_ (tya_cons (pe_bltn rfl T.list_ (by decide +kernel) rfl) (tya_cons (pe_bltn rfl T.tuple_ (by decide +kernel) rfl) tya_nil)) (by decide) (by decide)))
      (ds_cons (ds_for PassesOwn.never rfl (di_seq (de_var 0)) (dg_name (vs := [1]) (i := 1) sc__law_spoilt.nd rfl (Or.inl rfl) (by decide))
      (ds_one (ds_expr (de_callD D__law_spoilt (hr.mono (by omega)) rfl (da_cons (de_var 1) da_nil)))))
    (ds_one (ds_if (dt_val (de_isi (de_var 0) rfl T.isinstance_ (pe_bltn rfl T.list_ (by decide +kernel) rfl) (by decide)))
      (ds_one (ds_expr (de_append (de_var 0) (da_cons de_str da_nil))))
      ds_nil)))
      ds_nil))

theorem okO__law_spoilt {f : Addr} {fd : FuncData} {kk : Nat} (T : Txt K mg) (F : Fun K "_law_spoilt" "_law_spoilt" s__law_spoilt f fd) (g : mg "_law_spoilt" = some (.ref f)) {m0 : FM} {m1 : OM} {kk__law_spoilt : Nat} {f__law_spoilt : Addr} {fd__law_spoilt : FuncData} (D__law_spoilt : DefOk P w K mg base "_law_spoilt" ["_law_thing"] kk__law_spoilt false 1 m0 f__law_spoilt fd__law_spoilt) (l__law_spoilt : kk__law_spoilt ≤ kk) (rd : ∀ ds l n Ψ, ds.length = 0 → m1 ds l n Ψ → wo__law_spoilt m0 (fnStartO false ds l 1 n) (fnEndsO Ψ)) : DefOO P w K mg base "_law_spoilt" ["_law_thing"] (kk + 1) false 0 m1 f fd := by
  refine ⟨g, F.kp, F.binds (ps := ["_law_thing"]) fun _ _ _ _ _ _ us hl => match us, hl with | [_], _ => rfl, F.ok sc__law_spoilt (fun vs H Q E h => by rw [h.len] <;> rfl) (fun cdv A outer s H vs Q E hr h => ?_)⟩
  refine DSs.fnO (w := (wo__law_spoilt m0)) (hs := false) (ar := 0) (k := 1) (m := m1) ?_ h rfl rd
  exact (ds_one (ds_if (dt_val (de_isiT (de_var 0) rfl T.isinstance_ (tya_cons (pe_bltn rfl T.list_ (by decide +kernel) rfl) (tya_cons (pe_bltn rfl T.tuple_ (by decide +kernel) rfl) tya_nil)) (by decide) (by decide)))
      (ds_cons (ds_forO PassesOwn.never rfl (de_var 0) (dg_name (vs := [1]) (i := 1) sc__law_spoilt.nd rfl (Or.inl rfl) (by decide))
      (ds_one (ds_expr (de_callD D__law_spoilt (hr.mono (by omega)) rfl (da_cons (de_var 1) da_nil)))))
    (ds_one (ds_if (dt_val (de_isi (de_var 0) rfl T.isinstance_ (pe_bltn rfl T.list_ (by decide +kernel) rfl) (by decide)))
      (ds_one (ds_expr (de_append (de_var 0) (da_cons de_str da_nil))))
      ds_nil)))
      ds_nil))

/-- _law_any_rules -/
abbrev s__law_any_rules : Stmt := topS 37
abbrev N__law_any_rules : List Str := ["_law_stream_here", "_law_many", "_law_layers", "_law_found", "_law_k", "_law_sizes", "_law_takes", "_law_puts", "_law_one"]
theorem sc__law_any_rules : FnScope N__law_any_rules ["_law_stream_here", "_law_many"] (defScope s__law_any_rules) := ⟨rfl, rfl, rfl, by decide +kernel, rfl, by decide +kernel, by decide +kernel⟩

theorem ok__law_any_rules {f : Addr} {fd : FuncData} {kk : Nat} (T : Txt K mg) (F : Fun K "_law_any_rules" "_law_any_rules" s__law_any_rules f fd) (g : mg "_law_any_rules" = some (.ref f)) {kk__law_draw : Nat} {f__law_draw : Addr} {fd__law_draw : FuncData} (D__law_draw : DefOk P w K mg base "_law_draw" ["_law_stream_here", "_law_many"] kk__law_draw true 1 m__law_draw f__law_draw fd__law_draw) (l__law_draw : kk__law_draw ≤ kk) {kk__law_pick : Nat} {f__law_pick : Addr} {fd__law_pick : FuncData} (D__law_pick : DefOk P w K mg base "_law_pick" ["_law_stream_here", "_law_things"] kk__law_pick true 1 m__law_pick f__law_pick fd__law_pick) (l__law_pick : kk__law_pick ≤ kk) {kk__law_mixed : Nat} {f__law_mixed : Addr} {fd__law_mixed : FuncData} (D__law_mixed : DefOk P w K mg base "_law_mixed" ["_law_stream_here", "_law_things"] kk__law_mixed true 1 m__law_mixed f__law_mixed fd__law_mixed) (l__law_mixed : kk__law_mixed ≤ kk) : DefOk P w K mg base "_law_any_rules" ["_law_stream_here", "_law_many"] (kk + 1) true 1 m__law_any_rules f fd := by
  refine ⟨g, F.kp, F.binds (ps := ["_law_stream_here", "_law_many"]) fun _ _ _ _ _ _ us hl => match us, hl with | [_, _], _ => rfl, F.ok sc__law_any_rules (fun vs H Q E h => by rw [h.len] <;> rfl) (fun cdv A outer s H vs Q E hr h => ?_)⟩
  refine DSs.fn (w := w__law_any_rules) (hs := true) (ar := 1) (k := 7) (m := m__law_any_rules) ?_ h rfl rd__law_any_rules
  exact (ds_cons (ds_set (i := 2) sc__law_any_rules.nd rfl (Or.inr rfl) (de_lst (da_cons (de_tup (da_cons de_str (da_cons de_str da_nil))) (da_cons (de_tup (da_cons de_str (da_cons de_str da_nil))) (da_cons (de_tup (da_cons de_str (da_cons de_int da_nil))) (da_cons (de_tup (da_cons de_str (da_cons de_int da_nil))) (da_cons (de_tup (da_cons de_str (da_cons de_str da_nil))) da_nil)))))))
    (ds_cons (ds_parT rfl (da_cons (de_slice sl_any (de_callD D__law_mixed (hr.mono (by omega)) rfl (da_cons (de_var 0) (da_cons (de_var 2) da_nil))) do_none (do_some (de_plus de_int (de_callD D__law_draw (hr.mono (by omega)) rfl (da_cons (de_var 0) (da_cons de_int da_nil)))))) (da_cons (de_lst da_nil) da_nil)) (dn_cons (i := 2) sc__law_any_rules.nd rfl (Or.inr rfl) (dn_cons (i := 3) sc__law_any_rules.nd rfl (Or.inl rfl) dn_nil)))
    (ds_cons (ds_for PassesOwn.never rfl (di_rng1 (fun _ h => pi_range1 rfl T.range_ h) (da_cons (de_plus de_int (de_callD D__law_draw (hr.mono (by omega)) rfl (da_cons (de_var 0) (da_cons (de_var 1) da_nil)))) da_nil)) (dg_name (vs := [4]) (i := 4) sc__law_any_rules.nd rfl (Or.inl rfl) (by decide))
      (ds_cons (ds_set (i := 5) sc__law_any_rules.nd rfl (Or.inl rfl) (de_tup (da_cons (de_lst (da_cons de_int (da_cons de_int (da_cons de_int (da_cons de_int (da_cons de_int (da_cons de_int (da_cons de_int (da_cons de_int (da_cons de_int (da_cons de_int da_nil))))))))))) (da_cons (de_lst (da_cons de_int (da_cons de_int (da_cons de_int (da_cons de_int (da_cons de_int (da_cons de_int (da_cons de_int (da_cons de_int (da_cons de_int da_nil)))))))))) da_nil))))
    (ds_cons (ds_set (i := 5) sc__law_any_rules.nd rfl (Or.inl rfl) (de_ifExp (dt_lt (de_var 4) de_int) (de_var 5) (de_tup (da_cons (de_lst (da_cons de_int (da_cons de_int (da_cons de_int (da_cons de_int (da_cons de_int da_nil)))))) (da_cons (de_lst (da_cons de_int (da_cons de_int (da_cons de_int (da_cons de_int (da_cons de_int da_nil)))))) da_nil)))))
    (ds_cons (ds_setLc (i := 6) [("_law_one", 8)] rfl sc__law_any_rules.nd rfl rfl (sw_true rfl rfl rfl (by decide +kernel)) (di_rng1 (fun _ h => pi_range1 rfl T.range_ h) (da_cons (de_borrow (de_callD D__law_pick (hr.mono (by omega)) rfl (da_cons (de_var 0) (da_cons (de_ix (de_var 5) de_int (fun _ _ => rfl)) da_nil)))) da_nil)) (blkOk_by (N := N__law_any_rules) (sc := defScope s__law_any_rules) (by decide +kernel)) (fun _ => (dg_name (i := 8) sc__law_any_rules.nd rfl (Or.inl rfl) (by decide))) (fun _ => dts_nil) (fun _ => (de_borrow (de_callD D__law_pick (hr.mono (by omega)) rfl (da_cons (de_var 0) (da_cons (de_var 2) da_nil))))))
    (ds_cons (ds_setLc (i := 7) [("_law_one", 8)] rfl sc__law_any_rules.nd rfl rfl (sw_true rfl rfl rfl (by decide +kernel)) (di_rng1 (fun _ h => pi_range1 rfl T.range_ h) (da_cons (de_borrow (de_callD D__law_pick (hr.mono (by omega)) rfl (da_cons (de_var 0) (da_cons (de_ix (de_var 5) de_int (fun _ _ => rfl)) da_nil)))) da_nil)) (blkOk_by (N := N__law_any_rules) (sc := defScope s__law_any_rules) (by decide +kernel)) (fun _ => (dg_name (i := 8) sc__law_any_rules.nd rfl (Or.inl rfl) (by decide))) (fun _ => dts_nil) (fun _ => (de_borrow (de_callD D__law_pick (hr.mono (by omega)) rfl (da_cons (de_var 0) (da_cons (de_var 2) da_nil))))))
    (ds_one (ds_expr (de_append (de_var 3) (da_cons (de_tup (da_cons (de_var 6) (da_cons (de_var 7) (da_cons (de_borrow (de_callD D__law_pick (hr.mono (by omega)) rfl (da_cons (de_var 0) (da_cons (de_lst (da_cons de_non (da_cons de_int (da_cons de_str (da_cons (de_tup (da_cons de_str (da_cons (de_ix (de_var 2) de_int (fun _ _ => rfl)) da_nil))) da_nil))))) da_nil)))) da_nil)))) da_nil)))))))))
    (ds_one (ds_ret (de_var 3))))))

/-- _law_climbing -/
abbrev s__law_climbing : Stmt := topS 38
abbrev N__law_climbing : List Str := ["_law_stream_here", "_law_many", "_law_found", "_law_k", "_law_puts", "_law_one"]
theorem sc__law_climbing : FnScope N__law_climbing ["_law_stream_here", "_law_many"] (defScope s__law_climbing) := ⟨rfl, rfl, rfl, by decide +kernel, rfl, by decide +kernel, by decide +kernel⟩

theorem ok__law_climbing {f : Addr} {fd : FuncData} {kk : Nat} (T : Txt K mg) (F : Fun K "_law_climbing" "_law_climbing" s__law_climbing f fd) (g : mg "_law_climbing" = some (.ref f)) {kk__law_mixed : Nat} {f__law_mixed : Addr} {fd__law_mixed : FuncData} (D__law_mixed : DefOk P w K mg base "_law_mixed" ["_law_stream_here", "_law_things"] kk__law_mixed true 1 m__law_mixed f__law_mixed fd__law_mixed) (l__law_mixed : kk__law_mixed ≤ kk) {kk__law_draw : Nat} {f__law_draw : Addr} {fd__law_draw : FuncData} (D__law_draw : DefOk P w K mg base "_law_draw" ["_law_stream_here", "_law_many"] kk__law_draw true 1 m__law_draw f__law_draw fd__law_draw) (l__law_draw : kk__law_draw ≤ kk) : DefOk P w K mg base "_law_climbing" ["_law_stream_here", "_law_many"] (kk + 1) true 1 m__law_climbing f fd := by
  refine ⟨g, F.kp, F.binds (ps := ["_law_stream_here", "_law_many"]) fun _ _ _ _ _ _ us hl => match us, hl with | [_, _], _ => rfl, F.ok sc__law_climbing (fun vs H Q E h => by rw [h.len] <;> rfl) (fun cdv A outer s H vs Q E hr h => ?_)⟩
  refine DSs.fn (w := w__law_climbing) (hs := true) (ar := 1) (k := 4) (m := m__law_climbing) ?_ h rfl rd__law_climbing
  exact (ds_cons (ds_set (i := 2) sc__law_climbing.nd rfl (Or.inl rfl) (de_lst da_nil))
    (ds_cons (ds_for PassesOwn.never rfl (di_rng1 (fun _ h => pi_range1 rfl T.range_ h) (da_cons (de_var 1) da_nil)) (dg_name (vs := [3]) (i := 3) sc__law_climbing.nd rfl (Or.inr rfl) (by decide))
      (ds_cons (ds_set (i := 4) sc__law_climbing.nd rfl (Or.inl rfl) (de_ifExp (dt_lt (de_plus (de_var 3) de_int) (de_var 1)) (de_lc [("_law_one", 5)] rfl sc__law_climbing.nd (di_rng1 (fun _ h => pi_range1 rfl T.range_ h) (da_cons (de_plus de_int (de_callD D__law_draw (hr.mono (by omega)) rfl (da_cons (de_var 0) (da_cons de_int da_nil)))) da_nil)) (blkOk_by (N := N__law_climbing) (sc := defScope s__law_climbing) (by decide +kernel)) (fun _ => (dg_name (i := 5) sc__law_climbing.nd rfl (Or.inl rfl) (by decide))) (fun _ => dts_nil) (fun _ => (de_tup (da_cons de_str (da_cons (de_plus (de_var 3) de_int) da_nil))))) (de_lst da_nil)))
    (ds_one (ds_expr (de_append (de_var 2) (da_cons (de_tup (da_cons (de_lst (da_cons (de_tup (da_cons de_str (da_cons (de_var 3) da_nil))) da_nil)) (da_cons (de_var 4) (da_cons (de_var 3) da_nil)))) da_nil))))))
    (ds_cons (ds_if (dt_eq (hu64 hr) (de_callD D__law_draw (hr.mono (by omega)) rfl (da_cons (de_var 0) (da_cons de_int da_nil))) de_int)
      (ds_cons (ds_expr (de_append (de_var 2) (da_cons (de_tup (da_cons (de_lst da_nil) (da_cons (de_lst (da_cons (de_tup (da_cons de_str (da_cons de_str da_nil))) da_nil)) (da_cons de_non da_nil)))) da_nil)))
    (ds_one (ds_expr (de_append (de_var 2) (da_cons (de_tup (da_cons (de_lst (da_cons (de_tup (da_cons de_str (da_cons de_str da_nil))) (da_cons (de_tup (da_cons de_str (da_cons (de_callD D__law_draw (hr.mono (by omega)) rfl (da_cons (de_var 0) (da_cons (de_var 1) da_nil))) da_nil))) da_nil))) (da_cons (de_lst da_nil) (da_cons de_non da_nil)))) da_nil)))))
      ds_nil)
    (ds_one (ds_ret (de_callD D__law_mixed (hr.mono (by omega)) rfl (da_cons (de_var 0) (da_cons (de_var 2) da_nil))))))))

/-- _law_drawn_rules -/
abbrev s__law_drawn_rules : Stmt := topS 39
abbrev N__law_drawn_rules : List Str := ["_law_stream_here"]
theorem sc__law_drawn_rules : FnScope N__law_drawn_rules ["_law_stream_here"] (defScope s__law_drawn_rules) := ⟨rfl, rfl, rfl, by decide +kernel, rfl, by decide +kernel, by decide +kernel⟩

theorem ok__law_drawn_rules {f : Addr} {fd : FuncData} {kk : Nat} (T : Txt K mg) (F : Fun K "_law_drawn_rules" "_law_drawn_rules" s__law_drawn_rules f fd) (g : mg "_law_drawn_rules" = some (.ref f)) {kk__law_any_rules : Nat} {f__law_any_rules : Addr} {fd__law_any_rules : FuncData} (D__law_any_rules : DefOk P w K mg base "_law_any_rules" ["_law_stream_here", "_law_many"] kk__law_any_rules true 1 m__law_any_rules f__law_any_rules fd__law_any_rules) (l__law_any_rules : kk__law_any_rules ≤ kk) {kk__law_draw : Nat} {f__law_draw : Addr} {fd__law_draw : FuncData} (D__law_draw : DefOk P w K mg base "_law_draw" ["_law_stream_here", "_law_many"] kk__law_draw true 1 m__law_draw f__law_draw fd__law_draw) (l__law_draw : kk__law_draw ≤ kk) {kk__law_climbing : Nat} {f__law_climbing : Addr} {fd__law_climbing : FuncData} (D__law_climbing : DefOk P w K mg base "_law_climbing" ["_law_stream_here", "_law_many"] kk__law_climbing true 1 m__law_climbing f__law_climbing fd__law_climbing) (l__law_climbing : kk__law_climbing ≤ kk) : DefOk P w K mg base "_law_drawn_rules" ["_law_stream_here"] (kk + 1) true 0 m__law_drawn_rules f fd := by
  refine ⟨g, F.kp, F.binds (ps := ["_law_stream_here"]) fun _ _ _ _ _ _ us hl => match us, hl with | [_], _ => rfl, F.ok sc__law_drawn_rules (fun vs H Q E h => by rw [h.len] <;> rfl) (fun cdv A outer s H vs Q E hr h => ?_)⟩
  refine DSs.fn (w := w__law_drawn_rules) (hs := true) (ar := 0) (k := 0) (m := m__law_drawn_rules) ?_ h rfl rd__law_drawn_rules
  exact (ds_cons (ds_if (dt_eq (hu64 hr) (de_callD D__law_draw (hr.mono (by omega)) rfl (da_cons (de_var 0) (da_cons de_int da_nil))) de_int)
      (ds_one (ds_ret (de_callD D__law_climbing (hr.mono (by omega)) rfl (da_cons (de_var 0) (da_cons (de_plus de_int (de_callD D__law_draw (hr.mono (by omega)) rfl (da_cons (de_var 0) (da_cons de_int da_nil)))) da_nil)))))
      ds_nil)
    (ds_one (ds_ret (de_callD D__law_any_rules (hr.mono (by omega)) rfl (da_cons (de_var 0) (da_cons de_int da_nil))))))

/-- _law_layers_in -/
abbrev s__law_layers_in : Stmt := topS 40
abbrev N__law_layers_in : List Str := ["_law_lot", "_law_found", "_law_takes", "_law_puts", "_law_move"]
theorem sc__law_layers_in : FnScope N__law_layers_in ["_law_lot"] (defScope s__law_layers_in) := ⟨rfl, rfl, rfl, by decide +kernel, rfl, by decide +kernel, by decide +kernel⟩

theorem ok__law_layers_in {f : Addr} {fd : FuncData} {kk : Nat} (T : Txt K mg) (F : Fun K "_law_layers_in" "_law_layers_in" s__law_layers_in f fd) (g : mg "_law_layers_in" = some (.ref f)) {kk__law_each_once : Nat} {f__law_each_once : Addr} {fd__law_each_once : FuncData} (D__law_each_once : DefOk P w K mg base "_law_each_once" ["_law_some"] kk__law_each_once false 1 m__law_each_once f__law_each_once fd__law_each_once) (l__law_each_once : kk__law_each_once ≤ kk) : DefOk P w K mg base "_law_layers_in" ["_law_lot"] (kk + 1) false 1 m__law_layers_in f fd := by
  refine ⟨g, F.kp, F.binds (ps := ["_law_lot"]) fun _ _ _ _ _ _ us hl => match us, hl with | [_], _ => rfl, F.ok sc__law_layers_in (fun vs H Q E h => by rw [h.len] <;> rfl) (fun cdv A outer s H vs Q E hr h => ?_)⟩
  refine DSs.fn (w := w__law_layers_in) (hs := false) (ar := 1) (k := 4) (m := m__law_layers_in) ?_ h rfl rd__law_layers_in
  exact (ds_cons (ds_set (i := 1) sc__law_layers_in.nd rfl (Or.inl rfl) (de_lst da_nil))
    (ds_cons (ds_for PassesOwn.never rfl (di_seq (de_var 0)) (dg_seq (vs := [2, 3, 4]) rfl (dgs_cons (i := 2) sc__law_layers_in.nd rfl (Or.inl rfl) (by decide) (dgs_cons (i := 3) sc__law_layers_in.nd rfl (Or.inl rfl) (by decide) (dgs_cons (i := 4) sc__law_layers_in.nd rfl (Or.inl rfl) (by decide) dgs_nil))))
      (ds_one (ds_expr (de_extend (de_var 1) (da_cons (de_plus (de_list rfl T.list_ (da_cons (de_var 2) da_nil)) (de_list rfl T.list_ (da_cons (de_var 3) da_nil))) da_nil)))))
    (ds_one (ds_ret (de_sorted2 (hu64 hr) rfl T.sorted_ (da_cons (de_callD D__law_each_once (hr.mono (by omega)) rfl (da_cons (de_var 1) da_nil)) da_nil))))))

end
end K11

set_option Elab.async false
set_option linter.all false
set_option maxRecDepth 100000
set_option maxHeartbeats 4000000
/-! controls_of -/
namespace K11
open PySem PySem.Spec PyProof.Rows L2 RH

section
variable {P : Program} {w : World} {K : PySem.W.Frag} {mg : Str → Option Value} {base : Heap}
abbrev s_controls_of : Stmt := topS 24
abbrev N_controls_of : List Str := ["known", "found", "takes", "_", "many"]
theorem sc_controls_of : FnScope N_controls_of ["known"] (defScope s_controls_of) := ⟨rfl, rfl, rfl, by decide +kernel, rfl, by decide +kernel, by decide +kernel⟩
theorem hu8 {k : Nat} {A : Around} (r : Room k A) : A.units + 8 < cLine := by have := r.un; omega
theorem hu9 {k : Nat} {A : Around} (r : Room k A) : A.units + 9 < cLine := by have := r.un; omega
theorem ok_controls_of {f : Addr} {fd : FuncData} {kk : Nat} (T : Txt K mg) (F : Fun K "controls_of" "controls_of" s_controls_of f fd) (g : mg "controls_of" = some (.ref f)) : DefOk P w K mg base "controls_of" ["known"] (kk + 1) false 1 m_controls_of f fd := by
  refine ⟨g, F.kp, F.binds (ps := ["known"]) fun _ _ _ _ _ _ us hl => match us, hl with | [_], _ => rfl, F.ok sc_controls_of (fun vs H Q E h => by rw [h.len] <;> rfl) (fun cdv A outer s H vs Q E hr h => ?_)⟩
  refine ⟨ctlT K w, pss_cons (ps_set (i := 1) sc_controls_of.nd rfl (.inl rfl) (pe_dispN1 (hu8 hr) (pe_tup pa_nil) pe_bl))
    (pss_cons (ps_for PassesOwn.never rfl (pi_list (pv 0)) (pg_tup rfl (pgs_cons (pg_name (i := 2) sc_controls_of.nd rfl (.inr rfl)) (pgs_cons (pg_name (i := 3) sc_controls_of.nd rfl (.inl rfl)) pgs_nil)))
      (pss_one (ps_expr (pe_updN (hu9 hr) (pv 1) (pe_dcN (own := [("many", 4)]) (hu8 hr) rfl sc_controls_of.nd (pi_range1 rfl T.range_ (pa_cons (pe_callB call_len rfl T.len_ PySem.boot_len (pa_cons (pv 2) pa_nil)) pa_nil)) (blkOk_by (N := N_controls_of) (sc := defScope s_controls_of) (by decide +kernel))
        (fun _ _ _ _ _ => pg_name (i := 4) sc_controls_of.nd rfl (.inl rfl)) (fun _ _ _ _ _ => pts_nil) (fun _ _ _ _ _ => pe_slice (show SlR _ (rSlT K) from sl_tup) (pv 2) po_none (po_some (pv 4))) (fun _ _ _ _ _ => pe_bl))))))
    (pss_one (ps_ret (pe_callB (call_sortN rfl (hu64 hr)) rfl T.sorted_ (by decide +kernel) (pa_cons (pv 1) pa_nil))))), ctlT_run h⟩
/-- controls -/
abbrev s_controls : Stmt := topS 25
abbrev N_controls : List Str := ["rules"]
theorem sc_controls : FnScope N_controls ["rules"] (defScope s_controls) := ⟨rfl, rfl, rfl, by decide +kernel, rfl, by decide +kernel, by decide +kernel⟩

theorem ok_controls {f : Addr} {fd : FuncData} {kk : Nat} (T : Txt K mg) (F : Fun K "controls" "controls" s_controls f fd) (g : mg "controls" = some (.ref f)) {kk_checked_rules : Nat} {f_checked_rules : Addr} {fd_checked_rules : FuncData} (D_checked_rules : DefOk P w K mg base "checked_rules" ["some"] kk_checked_rules false 1 m_checked_rules f_checked_rules fd_checked_rules) (l_checked_rules : kk_checked_rules ≤ kk) {kk_controls_of : Nat} {f_controls_of : Addr} {fd_controls_of : FuncData} (D_controls_of : DefOk P w K mg base "controls_of" ["known"] kk_controls_of false 1 m_controls_of f_controls_of fd_controls_of) (l_controls_of : kk_controls_of ≤ kk) : DefOk P w K mg base "controls" ["rules"] (kk + 1) false 1 m_controls f fd := by
  refine ⟨g, F.kp, F.binds (ps := ["rules"]) fun _ _ _ _ _ _ us hl => match us, hl with | [_], _ => rfl, F.ok sc_controls (fun vs H Q E h => by rw [h.len] <;> rfl) (fun cdv A outer s H vs Q E hr h => ?_)⟩
  refine DSs.fn (w := w_controls) (hs := false) (ar := 1) (k := 0) (m := m_controls) ?_ h rfl rd_controls
  exact (ds_one (ds_ret (de_callD D_controls_of (hr.mono (by omega)) rfl (da_cons (de_callD D_checked_rules (hr.mono (by omega)) rfl (da_cons (de_var 0) da_nil)) da_nil))))

end
end K11

set_option Elab.async false
set_option linter.all false
set_option maxRecDepth 100000
set_option maxHeartbeats 4000000
/-! the law's own defs -/
namespace K11
open PySem PySem.Spec PyProof.Rows L2 RH

section
variable {P : Program} {w : World} {K : PySem.W.Frag} {mg : Str → Option Value} {base : Heap}

/-- _law_right -/
abbrev s__law_right : Stmt := topS 41
abbrev N__law_right : List Str := ["_law_stream_here", "_law_some", "_law_held", "_law_was", "_law_due", "_law_told", "_law_k", "_law_layers", "_law_rule", "_law_found", "_law_again", "_law_one"]
theorem sc__law_right : FnScope N__law_right ["_law_stream_here", "_law_some", "_law_held"] (defScope s__law_right) := ⟨rfl, rfl, rfl, by decide +kernel, rfl, by decide +kernel, by decide +kernel⟩

theorem kb_after_rule_layers_rules {f : Addr} {fd : FuncData} (F : Fun K "after" "after" s_after f fd) : KB K fd ["rules", "layers", "rule"] ["rule", "layers", "rules"] 0 3 [2, 1, 0] := by
  obtain ⟨oc, od, kV, doc, pm, an, cdv, ct, osl, rfl, lk, hcd⟩ := F.ex
  exact fun s us ws _ hu hw => match us, ws, hu, hw with | [], [_, _, _], _, _ => .of_eq rfl

theorem kb_controls_rules {f : Addr} {fd : FuncData} (F : Fun K "controls" "controls" s_controls f fd) : KB K fd ["rules"] ["rules"] 0 1 [0] := by
  obtain ⟨oc, od, kV, doc, pm, an, cdv, ct, osl, rfl, lk, hcd⟩ := F.ex
  exact fun s us ws _ hu hw => match us, ws, hu, hw with | [], [_], _, _ => .of_eq rfl

theorem okO__law_right {f : Addr} {fd : FuncData} {kk : Nat} (T : Txt K mg) (F : Fun K "_law_right" "_law_right" s__law_right f fd) (g : mg "_law_right" = some (.ref f)) {kk_after : Nat} {f_after : Addr} {fd_after : FuncData} (D_after : DefOk P w K mg base "after" ["rules", "layers", "rule"] kk_after false 3 m_after f_after fd_after) (l_after : kk_after ≤ kk) {kk__law_same : Nat} {f__law_same : Addr} {fd__law_same : FuncData} (D__law_same : DefOk P w K mg base "_law_same" ["_law_found", "_law_due"] kk__law_same false 2 (m__law_same 60) f__law_same fd__law_same) (l__law_same : kk__law_same ≤ kk) {kk__law_spoilt : Nat} {f__law_spoilt : Addr} {fd__law_spoilt : FuncData} (D__law_spoilt : DefOk P w K mg base "_law_spoilt" ["_law_thing"] kk__law_spoilt false 1 (m__law_spoilt 60) f__law_spoilt fd__law_spoilt) (l__law_spoilt : kk__law_spoilt ≤ kk) {kO__law_spoilt : Nat} {fO__law_spoilt : Addr} {fdO__law_spoilt : FuncData} (DO__law_spoilt : DefOO P w K mg base "_law_spoilt" ["_law_thing"] kO__law_spoilt false 0 (mo__law_spoilt 60) fO__law_spoilt fdO__law_spoilt) (lO__law_spoilt : kO__law_spoilt ≤ kk) {kk__law_loose : Nat} {f__law_loose : Addr} {fd__law_loose : FuncData} (D__law_loose : DefOk P w K mg base "_law_loose" ["_law_stream_here", "_law_thing"] kk__law_loose true 1 (m__law_loose 4) f__law_loose fd__law_loose) (l__law_loose : kk__law_loose ≤ kk) {kk__law_after : Nat} {f__law_after : Addr} {fd__law_after : FuncData} (D__law_after : DefOk P w K mg base "_law_after" ["_law_rule", "_law_layers"] kk__law_after false 2 m__law_after f__law_after fd__law_after) (l__law_after : kk__law_after ≤ kk) {kk__law_draw : Nat} {f__law_draw : Addr} {fd__law_draw : FuncData} (D__law_draw : DefOk P w K mg base "_law_draw" ["_law_stream_here", "_law_many"] kk__law_draw true 1 m__law_draw f__law_draw fd__law_draw) (l__law_draw : kk__law_draw ≤ kk) {kk__law_layers_in : Nat} {f__law_layers_in : Addr} {fd__law_layers_in : FuncData} (D__law_layers_in : DefOk P w K mg base "_law_layers_in" ["_law_lot"] kk__law_layers_in false 1 m__law_layers_in f__law_layers_in fd__law_layers_in) (l__law_layers_in : kk__law_layers_in ≤ kk) {kk__law_pick : Nat} {f__law_pick : Addr} {fd__law_pick : FuncData} (D__law_pick : DefOk P w K mg base "_law_pick" ["_law_stream_here", "_law_things"] kk__law_pick true 1 m__law_pick f__law_pick fd__law_pick) (l__law_pick : kk__law_pick ≤ kk) {kk_controls : Nat} {f_controls : Addr} {fd_controls : FuncData} (D_controls : DefOk P w K mg base "controls" ["rules"] kk_controls false 1 m_controls f_controls fd_controls) (l_controls : kk_controls ≤ kk) {kk__law_controls : Nat} {f__law_controls : Addr} {fd__law_controls : FuncData} (D__law_controls : DefOk P w K mg base "_law_controls" ["_law_lot"] kk__law_controls false 1 m__law_controls f__law_controls fd__law_controls) (l__law_controls : kk__law_controls ≤ kk) (F_after : Fun K "after" "after" s_after f_after fd_after) (F_controls : Fun K "controls" "controls" s_controls f_controls fd_controls) : DefOG P w K mg base "_law_right" ["_law_stream_here", "_law_some", "_law_held"] (kk + 1) true 1 mo__law_right f fd := by
  refine ⟨g, F.kp, F.binds (ps := ["_law_stream_here", "_law_some", "_law_held"]) fun _ _ _ _ _ _ us hl => match us, hl with | [_, _, _], _ => rfl, RH.Fun.okG F sc__law_right (fun vs H Q E h => by rw [h.len] <;> rfl) (fun cdv A outer s H vs Q E hr hG h => ?_)⟩
  refine DSs.fnO (w := wo__law_right) (hs := true) (ar := 1) (k := 9) (m := mo__law_right) ?_ h rfl rdo__law_right
  exact (ds_cons (ds_expr (de_clear (de_var 2)))
    (ds_cons (ds_expr (de_extend (de_var 2) (da_cons (de_var 1) da_nil)))
    (ds_cons (ds_par (i := 3) (j := 4) rfl sc__law_right.nd rfl rfl (by decide) rfl rfl (da_cons (de_borrow (de_repr hG (hu64 hr) rfl T.repr_ (da_cons (de_var 2) da_nil))) (da_cons (de_callD D__law_controls (hr.mono (by omega)) rfl (da_cons (de_var 1) da_nil)) da_nil)) (fun _ h => ps_par rfl sc__law_right.nd rfl rfl (by decide) rfl rfl h (by rfl)))
    (ds_cons (ds_set (i := 5) sc__law_right.nd rfl (Or.inl rfl) (de_borrow (de_callD D_controls (hr.mono (by omega)) rfl (da_cons (de_var 2) da_nil))))
    (ds_cons (ds_if (DW.dt (dw_or (dt_not (dt_val (de_borrow (de_callD D__law_same (hr.mono (by omega)) rfl (da_cons (de_var 5) (da_cons (de_var 4) da_nil)))))) (dw_or (dt_not (dt_val (de_borrow (de_callD D__law_same (hr.mono (by omega)) rfl (da_cons (de_borrow (de_callK0 D_controls (hr.mono (by omega)) rfl (kb_controls_rules F_controls) (dk_cons (de_callD D__law_loose (hr.mono (by omega)) rfl (da_cons (de_var 0) (da_cons (de_var 1) da_nil))) dk_nil))) (da_cons (de_var 4) da_nil)))))) (dw_or1 (dt_neS (de_borrow (de_repr hG (hu64 hr) rfl T.repr_ (da_cons (de_var 2) da_nil))) (de_var 3))))))
      (ds_one (ds_ret de_bl))
      ds_nil)
    (ds_cons (ds_expr (de_append (de_var 5) (da_cons de_str da_nil)))
    (ds_cons (ds_if (dt_not (dt_val (de_borrow (de_callD D__law_same (hr.mono (by omega)) rfl (da_cons (de_borrow (de_callD D_controls (hr.mono (by omega)) rfl (da_cons (de_var 2) da_nil))) (da_cons (de_var 4) da_nil))))))
      (ds_one (ds_ret de_bl))
      ds_nil)
    (ds_cons (ds_for PassesOwn.never rfl (di_rng1 (fun _ h => pi_range1 rfl T.range_ h) (da_cons de_int da_nil)) (dg_name (vs := [6]) (i := 6) sc__law_right.nd rfl (Or.inl rfl) (by decide))
      (ds_cons (ds_setLc (i := 7) [("_law_one", 11)] rfl sc__law_right.nd rfl rfl (sw_true rfl rfl rfl (by decide +kernel)) (di_rng1 (fun _ h => pi_range1 rfl T.range_ h) (da_cons (de_callD D__law_draw (hr.mono (by omega)) rfl (da_cons (de_var 0) (da_cons de_int da_nil))) da_nil)) (blkOk_by (N := N__law_right) (sc := defScope s__law_right) (by decide +kernel)) (fun _ => (dg_name (i := 11) sc__law_right.nd rfl (Or.inl rfl) (by decide))) (fun _ => dts_nil) (fun _ => (de_borrow (de_callD D__law_pick (hr.mono (by omega)) rfl (da_cons (de_var 0) (da_cons (de_plus (de_callD D__law_layers_in (hr.mono (by omega)) rfl (da_cons (de_var 1) da_nil)) (de_lst (da_cons (de_tup (da_cons de_str (da_cons de_int da_nil))) da_nil))) da_nil))))))
    (ds_cons (ds_set (i := 8) sc__law_right.nd rfl (Or.inl rfl) (de_callD D__law_draw (hr.mono (by omega)) rfl (da_cons (de_var 0) (da_cons (de_len rfl T.len_ (da_cons (de_var 1) da_nil)) da_nil))))
    (ds_cons (ds_set (i := 7) sc__law_right.nd rfl (Or.inl rfl) (de_ifExp (dt_eq (hu64 hr) (de_callD D__law_draw (hr.mono (by omega)) rfl (da_cons (de_var 0) (da_cons de_int da_nil))) de_int) (de_plus (de_list rfl T.list_ (da_cons (de_ix (de_ix (de_var 1) (de_var 8) (fun _ _ => rfl)) de_int (fun _ _ => rfl)) da_nil)) (de_var 7)) (de_var 7)))
    (ds_cons (ds_set (i := 4) sc__law_right.nd rfl (Or.inl rfl) (de_callD D__law_after (hr.mono (by omega)) rfl (da_cons (de_ix (de_var 1) (de_var 8) (fun _ _ => rfl)) (da_cons (de_var 7) da_nil))))
    (ds_cons (ds_par (i := 9) (j := 10) rfl sc__law_right.nd rfl rfl (by decide) rfl rfl (da_cons (de_borrow (de_callD D_after (hr.mono (by omega)) rfl (da_cons (de_var 2) (da_cons (de_var 7) (da_cons (de_var 8) da_nil))))) (da_cons (de_borrow (de_callK0 D_after (hr.mono (by omega)) rfl (kb_after_rule_layers_rules F_after) (dk_cons (de_var 8) (dk_cons (de_callD D__law_loose (hr.mono (by omega)) rfl (da_cons (de_var 0) (da_cons (de_var 7) da_nil))) (dk_cons (de_var 1) dk_nil))))) da_nil)) (fun _ h => ps_par rfl sc__law_right.nd rfl rfl (by decide) rfl rfl h (by rfl)))
    (ds_cons (ds_if (dt_not (dt_val (de_borrow (de_callD D__law_same (hr.mono (by omega)) rfl (da_cons (de_lst (da_cons (de_var 9) (da_cons (de_var 10) da_nil))) (da_cons (de_lst (da_cons (de_var 4) (da_cons (de_var 4) da_nil))) da_nil))))))
      (ds_one (ds_ret de_bl))
      ds_nil)
    (ds_cons (ds_expr (de_or2 (de_callD D__law_spoilt (hr.mono (by omega)) rfl (da_cons (de_var 9) da_nil)) (de_callO DO__law_spoilt (hr.mono (by omega)) rfl (da_cons (de_var 9) da_nil))))
    (ds_one (ds_if (DW.dt (dw_or (dt_not (dt_val (de_borrow (de_callD D__law_same (hr.mono (by omega)) rfl (da_cons (de_borrow (de_callD D_after (hr.mono (by omega)) rfl (da_cons (de_var 2) (da_cons (de_var 7) (da_cons (de_var 8) da_nil))))) (da_cons (de_var 4) da_nil)))))) (dw_or1 (dt_neS (de_borrow (de_repr hG (hu64 hr) rfl T.repr_ (da_cons (de_var 2) da_nil))) (de_var 3)))))
      (ds_one (ds_ret de_bl))
      ds_nil))))))))))
    (ds_one (ds_ret de_bl))))))))))


abbrev s__law_stream : Stmt := topS 27
abbrev N__law_stream : List Str := ["_law_script"]
theorem sc__law_stream : FnScope N__law_stream ["_law_script"] (defScope s__law_stream) := ⟨rfl, rfl, rfl, by decide +kernel, rfl, by decide +kernel, by decide +kernel⟩
def spStream (K : PySem.W.Frag) : Sp := fun vs H Q _ => ∃ (a : Addr) (ns : List Int), vs = [.ref a] ∧ SqL K H a (ns.map V.int) ∧ ns.length ≤ 63 ∧
  ∀ q q', H q' = none → q ≠ q' → H q = none → Q (.ref q) (upd (upd H q' (.lst (ns.map V.int))) q (.lst [.ref q', .int 0, .int 0, .int 17]))
theorem ok__law_stream {f : Addr} {fd : FuncData} (T : Txt K mg) (F : Fun K "_law_stream" "_law_stream" s__law_stream f fd) : FnOk P w K mg base CX0 1 f fd ["_law_script"] (spStream K) := by
  refine F.ok sc__law_stream (fun vs H Q E h => ?_) (fun cdv A outer s H vs Q E hr h => ?_)
  · obtain ⟨a, ns, rfl, _⟩ := h
    rfl
  · obtain ⟨a, ns, rfl, hS, hl, k⟩ := h
    refine ⟨_, pss_one (ps_ret (pe_lst (pa_cons (pe_callTy call_list_of rfl T.list_ (by decide +kernel) (pa_cons (pv 0) pa_nil)) (pa_cons pe_int (pa_cons pe_int (pa_cons pe_int pa_nil)))))), ?_⟩
    refine ⟨_, rfl, a, ns.map V.int, rfl, .inl hS, fun q' hq' => ⟨(by show 4 ≤ sizeLine; decide), fun q hq => ?_⟩⟩
    have ne : q ≠ q' := fun z => by subst z; rw [upd_same] at hq; cases hq
    exact k q q' hq' ne (by rw [L2.upd_ne ne] at hq; exact hq)

abbrev s_law : Stmt := topS 42
abbrev N_law : List Str := ["_law_script", "_law_stream_here", "_law_held", "_law_kept", "_law_turn", "_law_some"]
theorem sc_law : FnScope N_law ["_law_script"] (defScope s_law) := ⟨rfl, rfl, rfl, by decide +kernel, rfl, by decide +kernel, by decide +kernel⟩
def spLaw (K : PySem.W.Frag) : Sp := fun vs H Q _ => ∃ (a : Addr) (ns : List Int), vs = [.ref a] ∧ SqL K H a (ns.map V.int) ∧ ns.length ≤ 63 ∧ ∀ H', Q (.bl true) H'
theorem ok_law {f fs : Addr} {fd fds : FuncData} {kk : Nat} (T : Txt K mg) (F : Fun K "law" "law" s_law f fd) (FS : Fun K "_law_stream" "_law_stream" s__law_stream fs fds) (gS : mg "_law_stream" = some (.ref fs)) (k1 : 1 ≤ kk) {kk_controls : Nat} {f_controls : Addr} {fd_controls : FuncData} (D_controls : DefOk P w K mg base "controls" ["rules"] kk_controls false 1 m_controls f_controls fd_controls) (l_controls : kk_controls ≤ kk) {kk__law_same : Nat} {f__law_same : Addr} {fd__law_same : FuncData} (D__law_same : DefOk P w K mg base "_law_same" ["_law_found", "_law_due"] kk__law_same false 2 (m__law_same 60) f__law_same fd__law_same) (l__law_same : kk__law_same ≤ kk) {kk__law_drawn_rules : Nat} {f__law_drawn_rules : Addr} {fd__law_drawn_rules : FuncData} (D__law_drawn_rules : DefOk P w K mg base "_law_drawn_rules" ["_law_stream_here"] kk__law_drawn_rules true 0 m__law_drawn_rules f__law_drawn_rules fd__law_drawn_rules) (l__law_drawn_rules : kk__law_drawn_rules ≤ kk) {kO__law_right : Nat} {fO__law_right : Addr} {fdO__law_right : FuncData} (DO__law_right : DefOG P w K mg base "_law_right" ["_law_stream_here", "_law_some", "_law_held"] kO__law_right true 1 mo__law_right fO__law_right fdO__law_right) (lO__law_right : kO__law_right ≤ kk) : FnG P w K mg base CX0 (kk + 1) f fd ["_law_script"] (spLaw K) := by
  have G : FnOk P w K mg base CX0 1 fs fds ["_law_script"] (spStream K) := ok__law_stream T FS
  have bS := FS.binds (ps := ["_law_script"]) fun _ _ _ _ _ _ us hl => match us, hl with | [_], _ => rfl
  refine RH.Fun.okG F sc_law (fun vs H Q E h => ?_) (fun cdv A outer s H vs Q E hr hG h => ?_)
  · obtain ⟨a, ns, rfl, _⟩ := h
    rfl
  · obtain ⟨a, ns, rfl, hS, hl, k⟩ := h
    have rest : DSs (cxOf CX0 P w K mg base N_law "law" (defScope s_law) f cdv A outer s H E).nox (defBody s_law).tail w_law1 :=
      (ds_cons (ds_par (i := 2) (j := 3) rfl sc_law.nd rfl rfl (by decide) rfl rfl (da_cons (de_lst da_nil) (da_cons (de_lst da_nil) da_nil)) (fun _ h => ps_par rfl sc_law.nd rfl rfl (by decide) rfl rfl h (by rfl)))
    (ds_cons (ds_for PassesOwn.never rfl (di_rng1 (fun _ h => pi_range1 rfl T.range_ h) (da_cons de_int da_nil)) (dg_name (vs := [4]) (i := 4) sc_law.nd rfl (Or.inl rfl) (by decide))
      (ds_cons (ds_expr (de_append (de_var 3) (da_cons (de_callD D__law_drawn_rules (hr.mono (by omega)) rfl (da_cons (de_var 1) da_nil)) da_nil)))
    (ds_one (ds_for PassesOwn.never rfl (di_seq (de_tup (da_cons (de_ix (de_var 3) (de_neg de_int) (fun _ _ => rfl)) (da_cons (de_ix (de_var 3) de_int (fun _ _ => rfl)) da_nil)))) (dg_name (vs := [5]) (i := 5) sc_law.nd rfl (Or.inl rfl) (by decide))
      (ds_one (ds_if (dt_not (dt_val (de_callOG DO__law_right (hr.mono (by omega)) hG rfl (da_cons (de_var 1) (da_cons (de_var 5) (da_cons (de_var 2) da_nil))))))
      (ds_one (ds_ret de_bl))
      ds_nil))))))
    (ds_one (ds_ret (de_borrow (de_callD D__law_same (hr.mono (by omega)) rfl (da_cons (de_lst (da_cons (de_borrow (de_callD D_controls (hr.mono (by omega)) rfl (da_cons (de_lst da_nil) da_nil))) (da_cons (de_borrow (de_callD D_controls (hr.mono (by omega)) rfl (da_cons (de_tup da_nil) da_nil))) da_nil))) (da_cons (de_lst (da_cons (de_lst (da_cons (de_tup da_nil) da_nil)) (da_cons (de_lst (da_cons (de_tup da_nil) da_nil)) da_nil))) da_nil))))))))
    obtain ⟨t, ht, snd⟩ := rest
    refine ⟨_, pss_cons (ps_set (i := 1) sc_law.nd rfl (Or.inl rfl) (pe_call G (hr.mono k1) rfl gS FS.kp bS .nil pass0 (pa_cons (pv 0) pa_nil))) ht, ?_⟩
    refine ⟨_, rfl, a, ns, rfl, hS, hl, fun q q' hq' ne hq => ?_⟩
    have live : ∀ b, mutA (some (q, q')) b → upd (upd H q' (.lst (ns.map V.int))) q (.lst [.ref q', .int 0, .int 0, .int 17]) b ≠ none := fun b hb => by
      rcases hb with rfl | rfl
      · rw [upd_same]; exact fun z => by cases z
      · rw [L2.upd_ne ne.symm, upd_same]; exact fun z => by cases z
    refine snd ⟨some (q, q'), _, fun _ => none, live⟩ ⟨[.un, .strm, .un, .un, .un, .un], [], 0⟩ [] _ _ { nx := fun _ => False, rt := fun s _ => s = .val (.bl true) } _ ?_ (law_b (by decide) fun _ => rfl) ?_
    · refine ⟨fun _ => none, [], ?_, ⟨rfl, fun i s v h1 h2 => ?_⟩, Tm.nil⟩
      · refine ⟨fun _ _ e => e, fun _ _ e => (by cases e), fun _ _ _ => rfl, fun _ _ e _ => e, rfl, fun i j p h1 => (by simp at h1), fun i p e h1 => (by simp at h1), ?_⟩
        exact ⟨ne, rfl, rfl, ns, 0, 0, 17, upd_same, by rw [L2.upd_ne ne.symm, upd_same], hl, by decide, by decide, by decide, by decide, by decide⟩
      · match i, h1, h2 with
        | 0, h1, _ => cases h1; trivial
        | 1, h1, h2 => cases h1; cases h2; exact ⟨q, q', rfl, rfl⟩
        | 2, h1, _ => cases h1; trivial
        | 3, h1, _ => cases h1; trivial
        | 4, h1, _ => cases h1; trivial
        | 5, h1, _ => cases h1; trivial
        | n + 6, h1, _ => cases h1
    · exact ⟨fun d σ H F z => z.elim, fun s d v σ H2 F z => by
        subst z
        have hv := F.look (x := .bl true) List.mem_cons_self rfl
        have hv : v = .bl true := hv
        subst hv
        exact k H2, fun d σ H F z => z.elim, fun d σ H F z => z.elim⟩
end
end K11

set_option Elab.async false
set_option linter.all false
set_option maxRecDepth 100000
set_option maxHeartbeats 4000000
/-! what the top holds; all defs together -/
namespace K11
open PySem PySem.Spec PyProof.Rows L2 RH

/-- a def of the module -/
def DF (K : PySem.W.Frag) (x : Str) (st : Stmt) : Prop := ∃ (f : Addr) (oc : Value) (od : Option Addr) (osl : Array (Option Value)) (kV doc pm : Value) (an : Option Addr) (cdv ct : Value), PySem.W.nsIn K mainGlobals x = some (some (.ref f)) ∧
  K.lookup f = some ⟨oc, od, .func (PySem.W.fnOf x x (defArgs st) (defBody st) (defScope st) .none kV doc pm an cdv ct), osl⟩ ∧ PySem.W.codeIn K cdv x = true ∧ PySem.W.keepIn K (.ref f) = true
theorem DF.mk {K : PySem.W.Frag} {x : Str} {st : Stmt} {f : Addr} {oc : Value} {od : Option Addr} {osl : Array (Option Value)} {kV doc pm : Value} {an : Option Addr} {cdv ct : Value} (h1 : PySem.W.nsIn K mainGlobals x = some (some (.ref f))) (h2 : K.lookup f = some ⟨oc, od, .func (PySem.W.fnOf x x (defArgs st) (defBody st) (defScope st) .none kV doc pm an cdv ct), osl⟩)
    (h3 : PySem.W.codeIn K cdv x = true) (h4 : PySem.W.keepIn K (.ref f) = true) : DF K x st := ⟨f, oc, od, osl, kV, doc, pm, an, cdv, ct, h1, h2, h3, h4⟩
theorem DF.get {K : PySem.W.Frag} {x : Str} {st : Stmt} {h : Heap} {mg : Str → Option Value} (D : DF K x st) (X : K.In h) (G : h.Ns mainGlobals mg) : ∃ f fd, mg x = some (.ref f) ∧ Fun K x x st f fd := by
  obtain ⟨f, oc, od, osl, kV, doc, pm, an, cdv, ct, h1, h2, h3, h4⟩ := D
  exact ⟨f, _, PySem.W.mg_of X G h1, fun_mk (st := st) h2 h3 h4⟩
theorem vals_abs : ∀ {l : List V} {us : List Value}, us.map absV = l.map some → Vals l us
  | [], [], _ => .nil
  | [], _ :: _, h => by cases h
  | _ :: _, [], h => by cases h
  | x :: l, u :: us, h => by
    injection h with h1 h2
    refine .cons ?_ (vals_abs h2)
    cases u <;> first | (cases h1; rfl) | (cases h1; exact ⟨_, rfl⟩) | cases h1
/-- a list, a tuple of the module -/
def SeqIn (K : PySem.W.Frag) (x : Str) (l : List V) : Prop := ∃ (a : Addr) (cl : Value) (its : Array Value) (n : Nat) (sl : Array (Option Value)), PySem.W.nsIn K mainGlobals x = some (some (.ref a)) ∧ K.lookup a = some ⟨cl, none, .seq its n, sl⟩ ∧ (cl = .type "list" ∨ cl = .type "tuple") ∧ its.size ≤ sizeLine ∧ its.toList.map absV = l.map some
theorem SeqIn.mk {K : PySem.W.Frag} {x : Str} {l : List V} {a : Addr} {cl : Value} {its : Array Value} {n : Nat} {sl : Array (Option Value)} (h1 : PySem.W.nsIn K mainGlobals x = some (some (.ref a))) (h2 : K.lookup a = some ⟨cl, none, .seq its n, sl⟩) (h3 : cl = .type "list" ∨ cl = .type "tuple") (h4 : its.size ≤ sizeLine) (h5 : its.toList.map absV = l.map some) : SeqIn K x l := ⟨a, cl, its, n, sl, h1, h2, h3, h4, h5⟩
theorem StrIn.mk {K : PySem.W.Frag} {x : Str} {v : V} {u : Value} (h1 : PySem.W.nsIn K mainGlobals x = some (some u)) (h2 : L2.RelV v u) : ∃ u, PySem.W.nsIn K mainGlobals x = some (some u) ∧ L2.RelV v u := ⟨u, h1, h2⟩
theorem SeqIn.get {K : PySem.W.Frag} {x : Str} {l : List V} {h : Heap} {mg : Str → Option Value} (D : SeqIn K x l) (X : K.In h) (G : h.Ns mainGlobals mg) : ∃ a, mg x = some (.ref a) ∧ ∀ H, SqL K H a l ∨ SqT K H a l := by
  obtain ⟨a, cl, its, n, sl, h1, h2, h3, h4, h5⟩ := D
  refine ⟨a, PySem.W.mg_of X G h1, fun H => ?_⟩
  rcases h3 with rfl | rfl
  · exact .inl (.inr ⟨_, its, n, h2, rfl, rfl, rfl, h4, vals_abs h5⟩)
  · exact .inr (.inr ⟨_, its, n, h2, rfl, rfl, h4, vals_abs h5⟩)
structure Facts (K : PySem.W.Frag) : Prop where
  z_abs : PySem.W.nsIn K mainGlobals "abs" = some none
  z_all : PySem.W.nsIn K mainGlobals "all" = some none
  z_bool : PySem.W.nsIn K mainGlobals "bool" = some none
  z_dict : PySem.W.nsIn K mainGlobals "dict" = some none
  z_enumerate : PySem.W.nsIn K mainGlobals "enumerate" = some none
  z_int : PySem.W.nsIn K mainGlobals "int" = some none
  z_isinstance : PySem.W.nsIn K mainGlobals "isinstance" = some none
  z_len : PySem.W.nsIn K mainGlobals "len" = some none
  z_list : PySem.W.nsIn K mainGlobals "list" = some none
  z_range : PySem.W.nsIn K mainGlobals "range" = some none
  z_repr : PySem.W.nsIn K mainGlobals "repr" = some none
  z_sorted : PySem.W.nsIn K mainGlobals "sorted" = some none
  z_str : PySem.W.nsIn K mainGlobals "str" = some none
  z_tuple : PySem.W.nsIn K mainGlobals "tuple" = some none
  z_zip : PySem.W.nsIn K mainGlobals "zip" = some none
  t_WORDS : SeqIn K "WORDS" l_WORDS
  t_ALPHABET : ∃ u, PySem.W.nsIn K mainGlobals "ALPHABET" = some (some u) ∧ L2.RelV (match c_ALPHABET with | .str s => .str s | _ => .non) u
  t_KINDS : SeqIn K "KINDS" l_KINDS
  d_is_integer : DF K "is_integer" s_is_integer
  d_is_number : DF K "is_number" s_is_number
  d_is_list : DF K "is_list" s_is_list
  d_is_row : DF K "is_row" s_is_row
  d_is_agent : DF K "is_agent" s_is_agent
  d_is_word : DF K "is_word" s_is_word
  d_is_layer : DF K "is_layer" s_is_layer
  d_are_layers : DF K "are_layers" s_are_layers
  d_kept : DF K "kept" s_kept
  d_is_rule : DF K "is_rule" s_is_rule
  d_checked_rules : DF K "checked_rules" s_checked_rules
  d_checked_layers : DF K "checked_layers" s_checked_layers
  d_after : DF K "after" s_after
  d_controls_of : DF K "controls_of" s_controls_of
  d_controls : DF K "controls" s_controls
  d__law_stream : DF K "_law_stream" s__law_stream
  d__law_draw : DF K "_law_draw" s__law_draw
  d__law_pick : DF K "_law_pick" s__law_pick
  d__law_mixed : DF K "_law_mixed" s__law_mixed
  d__law_each_once : DF K "_law_each_once" s__law_each_once
  d__law_loose : DF K "_law_loose" s__law_loose
  d__law_same : DF K "_law_same" s__law_same
  d__law_controls : DF K "_law_controls" s__law_controls
  d__law_after : DF K "_law_after" s__law_after
  d__law_spoilt : DF K "_law_spoilt" s__law_spoilt
  d__law_any_rules : DF K "_law_any_rules" s__law_any_rules
  d__law_climbing : DF K "_law_climbing" s__law_climbing
  d__law_drawn_rules : DF K "_law_drawn_rules" s__law_drawn_rules
  d__law_layers_in : DF K "_law_layers_in" s__law_layers_in
  d__law_right : DF K "_law_right" s__law_right
  d_law : DF K "law" s_law
theorem never {P : Program} {w : World} {K : PySem.W.Frag} {mg : Str → Option Value} {base : Heap} {x : Str} {ps : List Str} {hs : Bool} {ar : Nat} {f : Addr} {fd : FuncData} (g : mg x = some (.ref f)) (kp : PySem.W.keepIn K (.ref f) = true) (bd : Binds K fd ps []) (hl : (if hs then 1 else 0) + ar = ps.length) : DefOk P w K mg base x ps 0 hs ar m_never f fd :=
  ⟨g, kp, bd, ⟨fun vs H Q E h => h.len.trans hl, fun A outer s H args us vs Q E _ _ _ _ h => by
    obtain ⟨_, _, _, _, _, _, _, _, _, _, _, _, hm, _⟩ := h
    exact hm.elim⟩⟩
section
variable {P : Program} {w : World} {K : PySem.W.Frag} {mg : Str → Option Value} {base h : Heap}
theorem all_of (Z : Facts K) (X : K.In h) (G : h.Ns mainGlobals mg) {fa : Addr} (hfa : mg "law" = some (.ref fa)) : ∃ fd : FuncData, (∀ (s : Shared) (u : Value), BindsTo s fd ⟨[u], []⟩ [("_law_script", u)]) ∧ ∀ base : Heap, K.In base → base.Ns mainGlobals mg → FnG P w K mg base CX0 64 fa fd ["_law_script"] (spLaw K) := by
  obtain ⟨f_is_integer, fd_is_integer, g_is_integer, F_is_integer⟩ := Z.d_is_integer.get X G
  obtain ⟨f_is_number, fd_is_number, g_is_number, F_is_number⟩ := Z.d_is_number.get X G
  obtain ⟨f_is_list, fd_is_list, g_is_list, F_is_list⟩ := Z.d_is_list.get X G
  obtain ⟨f_is_row, fd_is_row, g_is_row, F_is_row⟩ := Z.d_is_row.get X G
  obtain ⟨f_is_agent, fd_is_agent, g_is_agent, F_is_agent⟩ := Z.d_is_agent.get X G
  obtain ⟨f_is_word, fd_is_word, g_is_word, F_is_word⟩ := Z.d_is_word.get X G
  obtain ⟨f_is_layer, fd_is_layer, g_is_layer, F_is_layer⟩ := Z.d_is_layer.get X G
  obtain ⟨f_are_layers, fd_are_layers, g_are_layers, F_are_layers⟩ := Z.d_are_layers.get X G
  obtain ⟨f_kept, fd_kept, g_kept, F_kept⟩ := Z.d_kept.get X G
  obtain ⟨f_is_rule, fd_is_rule, g_is_rule, F_is_rule⟩ := Z.d_is_rule.get X G
  obtain ⟨f_checked_rules, fd_checked_rules, g_checked_rules, F_checked_rules⟩ := Z.d_checked_rules.get X G
  obtain ⟨f_checked_layers, fd_checked_layers, g_checked_layers, F_checked_layers⟩ := Z.d_checked_layers.get X G
  obtain ⟨f_after, fd_after, g_after, F_after⟩ := Z.d_after.get X G
  obtain ⟨f_controls_of, fd_controls_of, g_controls_of, F_controls_of⟩ := Z.d_controls_of.get X G
  obtain ⟨f_controls, fd_controls, g_controls, F_controls⟩ := Z.d_controls.get X G
  obtain ⟨f__law_stream, fd__law_stream, g__law_stream, F__law_stream⟩ := Z.d__law_stream.get X G
  obtain ⟨f__law_draw, fd__law_draw, g__law_draw, F__law_draw⟩ := Z.d__law_draw.get X G
  obtain ⟨f__law_pick, fd__law_pick, g__law_pick, F__law_pick⟩ := Z.d__law_pick.get X G
  obtain ⟨f__law_mixed, fd__law_mixed, g__law_mixed, F__law_mixed⟩ := Z.d__law_mixed.get X G
  obtain ⟨f__law_each_once, fd__law_each_once, g__law_each_once, F__law_each_once⟩ := Z.d__law_each_once.get X G
  obtain ⟨f__law_loose, fd__law_loose, g__law_loose, F__law_loose⟩ := Z.d__law_loose.get X G
  obtain ⟨f__law_same, fd__law_same, g__law_same, F__law_same⟩ := Z.d__law_same.get X G
  obtain ⟨f__law_controls, fd__law_controls, g__law_controls, F__law_controls⟩ := Z.d__law_controls.get X G
  obtain ⟨f__law_after, fd__law_after, g__law_after, F__law_after⟩ := Z.d__law_after.get X G
  obtain ⟨f__law_spoilt, fd__law_spoilt, g__law_spoilt, F__law_spoilt⟩ := Z.d__law_spoilt.get X G
  obtain ⟨f__law_any_rules, fd__law_any_rules, g__law_any_rules, F__law_any_rules⟩ := Z.d__law_any_rules.get X G
  obtain ⟨f__law_climbing, fd__law_climbing, g__law_climbing, F__law_climbing⟩ := Z.d__law_climbing.get X G
  obtain ⟨f__law_drawn_rules, fd__law_drawn_rules, g__law_drawn_rules, F__law_drawn_rules⟩ := Z.d__law_drawn_rules.get X G
  obtain ⟨f__law_layers_in, fd__law_layers_in, g__law_layers_in, F__law_layers_in⟩ := Z.d__law_layers_in.get X G
  obtain ⟨f__law_right, fd__law_right, g__law_right, F__law_right⟩ := Z.d__law_right.get X G
  obtain ⟨f_law, fd_law, g_law, F_law⟩ := Z.d_law.get X G
  cases hfa.symm.trans g_law
  obtain ⟨a_WORDS, m_WORDS, q_WORDS⟩ := Z.t_WORDS.get X G
  obtain ⟨u_ALPHABET, m_ALPHABET, r_ALPHABET⟩ := Z.t_ALPHABET
  obtain ⟨a_KINDS, m_KINDS, q_KINDS⟩ := Z.t_KINDS.get X G
  have T : Txt K mg := ⟨PySem.W.mg_none_of X G Z.z_abs, PySem.W.mg_none_of X G Z.z_all, PySem.W.mg_none_of X G Z.z_bool, PySem.W.mg_none_of X G Z.z_dict, PySem.W.mg_none_of X G Z.z_enumerate, PySem.W.mg_none_of X G Z.z_int, PySem.W.mg_none_of X G Z.z_isinstance, PySem.W.mg_none_of X G Z.z_len, PySem.W.mg_none_of X G Z.z_list, PySem.W.mg_none_of X G Z.z_range, PySem.W.mg_none_of X G Z.z_repr, PySem.W.mg_none_of X G Z.z_sorted, PySem.W.mg_none_of X G Z.z_str, PySem.W.mg_none_of X G Z.z_tuple, PySem.W.mg_none_of X G Z.z_zip, a_WORDS, m_WORDS, q_WORDS, u_ALPHABET, PySem.W.mg_of X G m_ALPHABET, r_ALPHABET, a_KINDS, m_KINDS, q_KINDS⟩
  refine ⟨fd_law, ?_, fun base _ _ => ?_⟩
  · obtain ⟨oc, od, kV, doc, pm, an, cdv, ct, osl, rfl, lk, hcd⟩ := F_law.ex
    exact fun s u => .of_eq rfl
  have D_is_integer := ok_is_integer (P := P) (w := w) (base := base) (kk := 0) T F_is_integer g_is_integer 
  have D_is_number := ok_is_number (P := P) (w := w) (base := base) (kk := 1) T F_is_number g_is_number D_is_integer (by decide)
  have D_is_list := ok_is_list (P := P) (w := w) (base := base) (kk := 0) T F_is_list g_is_list 
  have D_is_row := ok_is_row (P := P) (w := w) (base := base) (kk := 1) T F_is_row g_is_row D_is_list (by decide)
  have D_is_agent := ok_is_agent (P := P) (w := w) (base := base) (kk := 0) T F_is_agent g_is_agent 
  have D_is_word := ok_is_word (P := P) (w := w) (base := base) (kk := 2) T F_is_word g_is_word D_is_integer (by decide) D_is_row (by decide)
  have D_is_layer := ok_is_layer (P := P) (w := w) (base := base) (kk := 3) T F_is_layer g_is_layer D_is_agent (by decide) D_is_row (by decide) D_is_word (by decide)
  have D_are_layers := ok_are_layers (P := P) (w := w) (base := base) (kk := 4) T F_are_layers g_are_layers D_is_layer (by decide) D_is_list (by decide)
  have D_kept := ok_kept (P := P) (w := w) (base := base) (kk := 0) T F_kept g_kept 
  have D_is_rule := ok_is_rule (P := P) (w := w) (base := base) (kk := 5) T F_is_rule g_is_rule D_are_layers (by decide) D_is_row (by decide)
  have D_checked_rules := ok_checked_rules (P := P) (w := w) (base := base) (kk := 6) T F_checked_rules g_checked_rules D_kept (by decide) D_is_rule (by decide) D_is_list (by decide)
  have D_checked_layers := ok_checked_layers (P := P) (w := w) (base := base) (kk := 5) T F_checked_layers g_checked_layers D_kept (by decide) D_are_layers (by decide)
  have D_after := ok_after (P := P) (w := w) (base := base) (kk := 7) T F_after g_after D_is_number (by decide) D_checked_layers (by decide) D_checked_rules (by decide)
  have D_controls_of := ok_controls_of (P := P) (w := w) (base := base) (kk := 0) T F_controls_of g_controls_of
  have D_controls := ok_controls (P := P) (w := w) (base := base) (kk := 7) T F_controls g_controls D_checked_rules (by decide) D_controls_of (by decide)
  have D__law_draw := ok__law_draw (P := P) (w := w) (base := base) (kk := 0) T F__law_draw g__law_draw
  have D__law_pick := ok__law_pick (P := P) (w := w) (base := base) (kk := 1) T F__law_pick g__law_pick D__law_draw (by decide)
  have D__law_mixed := ok__law_mixed (P := P) (w := w) (base := base) (kk := 1) T F__law_mixed g__law_mixed D__law_draw (by decide)
  have D__law_each_once := ok__law_each_once (P := P) (w := w) (base := base) (kk := 0) T F__law_each_once g__law_each_once 
  have N__law_loose : DefOk P w K mg base "_law_loose" ["_law_stream_here", "_law_thing"] 0 true 1 m_never f__law_loose fd__law_loose := never g__law_loose F__law_loose.kp (F__law_loose.binds (ps := ["_law_stream_here", "_law_thing"]) fun _ _ _ _ _ _ us hl => match us, hl with | [_, _], _ => rfl) rfl
  have R__law_loose : ∀ n : Nat, DefOk P w K mg base "_law_loose" ["_law_stream_here", "_law_thing"] (n + 1 + 1) true 1 (m__law_loose n) f__law_loose fd__law_loose := fun n => by
    induction n with
    | zero => exact ok__law_loose (kk := 0 + 1) T F__law_loose g__law_loose D__law_draw (Nat.le_trans (by decide : 1 ≤ 1) (Nat.le_add_left _ _)) N__law_loose (Nat.zero_le _) (loose_at0 _)
    | succ n ih => exact ok__law_loose (kk := n + 1 + 1) T F__law_loose g__law_loose D__law_draw (Nat.le_trans (by decide : 1 ≤ 1) (Nat.le_add_left _ _)) ih (by omega) (rd__law_loose (n + 1))
  have D__law_loose := R__law_loose 4
  have N__law_same : DefOk P w K mg base "_law_same" ["_law_found", "_law_due"] 0 false 2 m_never f__law_same fd__law_same := never g__law_same F__law_same.kp (F__law_same.binds (ps := ["_law_found", "_law_due"]) fun _ _ _ _ _ _ us hl => match us, hl with | [_, _], _ => rfl) rfl
  have R__law_same : ∀ n : Nat, DefOk P w K mg base "_law_same" ["_law_found", "_law_due"] (n + 0 + 1) false 2 (m__law_same n) f__law_same fd__law_same := fun n => by
    induction n with
    | zero => exact ok__law_same (kk := 0 + 0) T F__law_same g__law_same N__law_same (Nat.zero_le _) (same_at0 _)
    | succ n ih => exact ok__law_same (kk := n + 1 + 0) T F__law_same g__law_same ih (by omega) (rd__law_same (n + 1))
  have D__law_same := R__law_same 60
  have D__law_controls := ok__law_controls (P := P) (w := w) (base := base) (kk := 1) T F__law_controls g__law_controls D__law_each_once (by decide)
  have D__law_after := ok__law_after (P := P) (w := w) (base := base) (kk := 0) T F__law_after g__law_after 
  have N__law_spoilt : DefOk P w K mg base "_law_spoilt" ["_law_thing"] 0 false 1 m_never f__law_spoilt fd__law_spoilt := never g__law_spoilt F__law_spoilt.kp (F__law_spoilt.binds (ps := ["_law_thing"]) fun _ _ _ _ _ _ us hl => match us, hl with | [_], _ => rfl) rfl
  have R__law_spoilt : ∀ n : Nat, DefOk P w K mg base "_law_spoilt" ["_law_thing"] (n + 0 + 1) false 1 (m__law_spoilt n) f__law_spoilt fd__law_spoilt := fun n => by
    induction n with
    | zero => exact ok__law_spoilt (kk := 0 + 0) T F__law_spoilt g__law_spoilt N__law_spoilt (Nat.zero_le _) (spoilt_at0 _)
    | succ n ih => exact ok__law_spoilt (kk := n + 1 + 0) T F__law_spoilt g__law_spoilt ih (by omega) (rd__law_spoilt (n + 1))
  have D__law_spoilt := R__law_spoilt 60
  have DO__law_spoilt := okO__law_spoilt (P := P) (w := w) (base := base) (kk := 61) T F__law_spoilt g__law_spoilt D__law_spoilt (by decide) (rdo__law_spoilt 60)
  have D__law_any_rules := ok__law_any_rules (P := P) (w := w) (base := base) (kk := 2) T F__law_any_rules g__law_any_rules D__law_draw (by decide) D__law_pick (by decide) D__law_mixed (by decide)
  have D__law_climbing := ok__law_climbing (P := P) (w := w) (base := base) (kk := 2) T F__law_climbing g__law_climbing D__law_mixed (by decide) D__law_draw (by decide)
  have D__law_drawn_rules := ok__law_drawn_rules (P := P) (w := w) (base := base) (kk := 3) T F__law_drawn_rules g__law_drawn_rules D__law_any_rules (by decide) D__law_draw (by decide) D__law_climbing (by decide)
  have D__law_layers_in := ok__law_layers_in (P := P) (w := w) (base := base) (kk := 1) T F__law_layers_in g__law_layers_in D__law_each_once (by decide)
  have DO__law_right := okO__law_right (P := P) (w := w) (base := base) (kk := 62) T F__law_right g__law_right D_after (by decide) D__law_same (by decide) D__law_spoilt (by decide) DO__law_spoilt (by decide) D__law_loose (by decide) D__law_after (by decide) D__law_draw (by decide) D__law_layers_in (by decide) D__law_pick (by decide) D_controls (by decide) D__law_controls (by decide) F_after F_controls
  exact ok_law (kk := 63) T F_law F__law_stream g__law_stream (by decide) D_controls (by decide) D__law_same (by decide) D__law_drawn_rules (by decide) DO__law_right (by decide)
end
end K11

open PySem PySem.W PyProof.Rows
set_option Elab.async false
set_option maxRecDepth 100000
set_option maxHeartbeats 0
open_top hd11 for PySem.Challenge.rw_roadheld_k11_whole_controls_and_after

open PySem PySem.W PyProof.Rows
set_option Elab.async false
set_option maxRecDepth 100000
set_option maxHeartbeats 0
theorem PySem.Challenge.cw_roadheld_k11_whole_controls_and_after_holds : PySem.Challenge.rw_roadheld_k11_whole_controls_and_after.Holds :=
  hd11 (by
    k_fill
    refine RH.walkG (l := PySem.Challenge.rw_roadheld_k11_whole_controls_and_after) (n := 63) (k := 64) (x := "_law_script") (sp := K11.spLaw) rfl (by decide) rfl ⟨rfl, by decide, by decide⟩ (fun w h Y => PySem.W.kIn_of Y) ?F fun K H a ns hl _ hS => ⟨a, ns, rfl, hS, hl, fun _ => rfl⟩
    case F =>
      intro w mg fa h KX G hmg
      refine K11.all_of (P := PySem.Challenge.rw_roadheld_k11_whole_controls_and_after.prog) (w := w) ?Z KX G hmg
      case Z =>
        refine ⟨?z_abs, ?z_all, ?z_bool, ?z_dict, ?z_enumerate, ?z_int, ?z_isinstance, ?z_len, ?z_list, ?z_range, ?z_repr, ?z_sorted, ?z_str, ?z_tuple, ?z_zip, ?t_WORDS, ?t_ALPHABET, ?t_KINDS, ?d_is_integer, ?d_is_number, ?d_is_list, ?d_is_row, ?d_is_agent, ?d_is_word, ?d_is_layer, ?d_are_layers, ?d_kept, ?d_is_rule, ?d_checked_rules, ?d_checked_layers, ?d_after, ?d_controls_of, ?d_controls, ?d__law_stream, ?d__law_draw, ?d__law_pick, ?d__law_mixed, ?d__law_each_once, ?d__law_loose, ?d__law_same, ?d__law_controls, ?d__law_after, ?d__law_spoilt, ?d__law_any_rules, ?d__law_climbing, ?d__law_drawn_rules, ?d__law_layers_in, ?d__law_right, ?d_law⟩
        (case z_abs => k_is)
        (case z_all => k_is)
        (case z_bool => k_is)
        (case z_dict => k_is)
        (case z_enumerate => k_is)
        (case z_int => k_is)
        (case z_isinstance => k_is)
        (case z_len => k_is)
        (case z_list => k_is)
        (case z_range => k_is)
        (case z_repr => k_is)
        (case z_sorted => k_is)
        (case z_str => k_is)
        (case z_tuple => k_is)
        (case z_zip => k_is)
        (case t_WORDS => refine' K11.SeqIn.mk ?u1 ?u2 ?u3 ?u4 ?u5; (case u1 => k_is); (case u2 => k_is); (case u3 => first | exact Or.inl rfl | exact Or.inr rfl); (case u4 => decide); (case u5 => rfl))
        (case t_ALPHABET => refine' K11.StrIn.mk ?u1 ?u2; (case u1 => k_is); (case u2 => exact ⟨_, rfl⟩))
        (case t_KINDS => refine' K11.SeqIn.mk ?u1 ?u2 ?u3 ?u4 ?u5; (case u1 => k_is); (case u2 => k_is); (case u3 => first | exact Or.inl rfl | exact Or.inr rfl); (case u4 => decide); (case u5 => rfl))
        (case d_is_integer => refine' K11.DF.mk ?u1 ?u2 ?u3 ?u4; (case u1 => k_is); (case u2 => k_is); (case u3 => k_is); (case u4 => k_is))
        (case d_is_number => refine' K11.DF.mk ?u1 ?u2 ?u3 ?u4; (case u1 => k_is); (case u2 => k_is); (case u3 => k_is); (case u4 => k_is))
        (case d_is_list => refine' K11.DF.mk ?u1 ?u2 ?u3 ?u4; (case u1 => k_is); (case u2 => k_is); (case u3 => k_is); (case u4 => k_is))
        (case d_is_row => refine' K11.DF.mk ?u1 ?u2 ?u3 ?u4; (case u1 => k_is); (case u2 => k_is); (case u3 => k_is); (case u4 => k_is))
        (case d_is_agent => refine' K11.DF.mk ?u1 ?u2 ?u3 ?u4; (case u1 => k_is); (case u2 => k_is); (case u3 => k_is); (case u4 => k_is))
        (case d_is_word => refine' K11.DF.mk ?u1 ?u2 ?u3 ?u4; (case u1 => k_is); (case u2 => k_is); (case u3 => k_is); (case u4 => k_is))
        (case d_is_layer => refine' K11.DF.mk ?u1 ?u2 ?u3 ?u4; (case u1 => k_is); (case u2 => k_is); (case u3 => k_is); (case u4 => k_is))
        (case d_are_layers => refine' K11.DF.mk ?u1 ?u2 ?u3 ?u4; (case u1 => k_is); (case u2 => k_is); (case u3 => k_is); (case u4 => k_is))
        (case d_kept => refine' K11.DF.mk ?u1 ?u2 ?u3 ?u4; (case u1 => k_is); (case u2 => k_is); (case u3 => k_is); (case u4 => k_is))
        (case d_is_rule => refine' K11.DF.mk ?u1 ?u2 ?u3 ?u4; (case u1 => k_is); (case u2 => k_is); (case u3 => k_is); (case u4 => k_is))
        (case d_checked_rules => refine' K11.DF.mk ?u1 ?u2 ?u3 ?u4; (case u1 => k_is); (case u2 => k_is); (case u3 => k_is); (case u4 => k_is))
        (case d_checked_layers => refine' K11.DF.mk ?u1 ?u2 ?u3 ?u4; (case u1 => k_is); (case u2 => k_is); (case u3 => k_is); (case u4 => k_is))
        (case d_after => refine' K11.DF.mk ?u1 ?u2 ?u3 ?u4; (case u1 => k_is); (case u2 => k_is); (case u3 => k_is); (case u4 => k_is))
        (case d_controls_of => refine' K11.DF.mk ?u1 ?u2 ?u3 ?u4; (case u1 => k_is); (case u2 => k_is); (case u3 => k_is); (case u4 => k_is))
        (case d_controls => refine' K11.DF.mk ?u1 ?u2 ?u3 ?u4; (case u1 => k_is); (case u2 => k_is); (case u3 => k_is); (case u4 => k_is))
        (case d__law_stream => refine' K11.DF.mk ?u1 ?u2 ?u3 ?u4; (case u1 => k_is); (case u2 => k_is); (case u3 => k_is); (case u4 => k_is))
        (case d__law_draw => refine' K11.DF.mk ?u1 ?u2 ?u3 ?u4; (case u1 => k_is); (case u2 => k_is); (case u3 => k_is); (case u4 => k_is))
        (case d__law_pick => refine' K11.DF.mk ?u1 ?u2 ?u3 ?u4; (case u1 => k_is); (case u2 => k_is); (case u3 => k_is); (case u4 => k_is))
        (case d__law_mixed => refine' K11.DF.mk ?u1 ?u2 ?u3 ?u4; (case u1 => k_is); (case u2 => k_is); (case u3 => k_is); (case u4 => k_is))
        (case d__law_each_once => refine' K11.DF.mk ?u1 ?u2 ?u3 ?u4; (case u1 => k_is); (case u2 => k_is); (case u3 => k_is); (case u4 => k_is))
        (case d__law_loose => refine' K11.DF.mk ?u1 ?u2 ?u3 ?u4; (case u1 => k_is); (case u2 => k_is); (case u3 => k_is); (case u4 => k_is))
        (case d__law_same => refine' K11.DF.mk ?u1 ?u2 ?u3 ?u4; (case u1 => k_is); (case u2 => k_is); (case u3 => k_is); (case u4 => k_is))
        (case d__law_controls => refine' K11.DF.mk ?u1 ?u2 ?u3 ?u4; (case u1 => k_is); (case u2 => k_is); (case u3 => k_is); (case u4 => k_is))
        (case d__law_after => refine' K11.DF.mk ?u1 ?u2 ?u3 ?u4; (case u1 => k_is); (case u2 => k_is); (case u3 => k_is); (case u4 => k_is))
        (case d__law_spoilt => refine' K11.DF.mk ?u1 ?u2 ?u3 ?u4; (case u1 => k_is); (case u2 => k_is); (case u3 => k_is); (case u4 => k_is))
        (case d__law_any_rules => refine' K11.DF.mk ?u1 ?u2 ?u3 ?u4; (case u1 => k_is); (case u2 => k_is); (case u3 => k_is); (case u4 => k_is))
        (case d__law_climbing => refine' K11.DF.mk ?u1 ?u2 ?u3 ?u4; (case u1 => k_is); (case u2 => k_is); (case u3 => k_is); (case u4 => k_is))
        (case d__law_drawn_rules => refine' K11.DF.mk ?u1 ?u2 ?u3 ?u4; (case u1 => k_is); (case u2 => k_is); (case u3 => k_is); (case u4 => k_is))
        (case d__law_layers_in => refine' K11.DF.mk ?u1 ?u2 ?u3 ?u4; (case u1 => k_is); (case u2 => k_is); (case u3 => k_is); (case u4 => k_is))
        (case d__law_right => refine' K11.DF.mk ?u1 ?u2 ?u3 ?u4; (case u1 => k_is); (case u2 => k_is); (case u3 => k_is); (case u4 => k_is))
        (case d_law => refine' K11.DF.mk ?u1 ?u2 ?u3 ?u4; (case u1 => k_is); (case u2 => k_is); (case u3 => k_is); (case u4 => k_is)))
#print axioms PySem.Challenge.cw_roadheld_k11_whole_controls_and_after_holds
