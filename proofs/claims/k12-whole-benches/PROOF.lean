import PyProof.Rows.All
import Wide.All
import OpenK.AllK
import Wide.FinOn
import HandS.ForMost
import HandS.ForExc
import HandS.AnyAll
import HandS.GenList
import KE.KLam
import HandS.Lambda
import HandS.Nested
import KE.SortData
import KE.GoesMore
import KE.GoesEnum
import HandS.Walk
import HandS.Zip
import HandS.SortKw
import HandS.TupMul
import HandS.IsInst
import HandS.Style
import HandS.Flow
import HandS.Defaults
import HandS.Property
import KE.KStateDown
import Lean
import HandS.Head0
import HandS.Head1
import HandS.Head2
import HandS.HeadEnd
import HandS.HeadHook1
import HandS.HeadHook2
import HandS.HeadHook3
import HandS.HeadHook4
import HandS.HeadWalk
import PySem.Challenge.RW_driftstore_k12_whole_benches
set_option Elab.async false
set_option linter.all false
/-! Rows of ints modulo p: independence, kept by the elementary steps. -/
namespace Dr
/-- the j-th number of a row -/
def at_ (r : List Int) (j : Nat) : Int := r.getD j 0
/-- Σ c i * (row i), at the place j -/
def comb : (Nat → Int) → List (List Int) → Nat → Int
  | _, [], _ => 0
  | c, r :: L, j => c 0 * at_ r j + comb (fun i => c (i + 1)) L j
def up (c : Nat → Int) (k : Nat) (v : Int) : Nat → Int := fun i => if i = k then v else c i
theorem up_same {c : Nat → Int} {k : Nat} {v : Int} : up c k v k = v := if_pos rfl
theorem up_ne {c : Nat → Int} {k i : Nat} {v : Int} (h : i ≠ k) : up c k v i = c i := if_neg h
/-- only the nought sum is nought -/
def Ind (p : Int) (L : List (List Int)) : Prop := ∀ c : Nat → Int, (∀ j, p ∣ comb c L j) → ∀ i, i < L.length → p ∣ c i
theorem comb_set (j : Nat) : ∀ (L : List (List Int)) (c : Nat → Int) (i : Nat) (r : List Int) (x : List Int), L[i]? = some x → comb c (L.set i r) j = comb c L j + c i * (at_ r j - at_ x j)
  | [], _, _, _, _, h => by simp at h
  | a :: L, c, 0, r, x, h => by
    have e : a = x := by simpa using h
    subst e
    show c 0 * at_ r j + _ = c 0 * at_ a j + _ + c 0 * (at_ r j - at_ a j)
    rw [Int.mul_sub]; omega
  | a :: L, c, i + 1, r, x, h => by
    have ih := comb_set j L (fun i => c (i + 1)) i r x (by simpa using h)
    show c 0 * at_ a j + comb (fun i => c (i + 1)) (L.set i r) j = c 0 * at_ a j + comb (fun i => c (i + 1)) L j + c (i + 1) * (at_ r j - at_ x j)
    rw [ih]; omega
theorem comb_up (j : Nat) : ∀ (L : List (List Int)) (c : Nat → Int) (k : Nat) (v : Int) (x : List Int), L[k]? = some x → comb (up c k v) L j = comb c L j + (v - c k) * at_ x j
  | [], _, _, _, _, h => by simp at h
  | a :: L, c, 0, v, x, h => by
    have e : a = x := by simpa using h
    subst e
    have e2 : (fun i => up c 0 v (i + 1)) = fun i => c (i + 1) := by
      funext i; exact up_ne (by omega)
    show up c 0 v 0 * at_ a j + comb (fun i => up c 0 v (i + 1)) L j = c 0 * at_ a j + comb (fun i => c (i + 1)) L j + (v - c 0) * at_ a j
    rw [e2, up_same, Int.sub_mul]; omega
  | a :: L, c, k + 1, v, x, h => by
    have ih := comb_up j L (fun i => c (i + 1)) k v x (by simpa using h)
    have e2 : (fun i => up c (k + 1) v (i + 1)) = up (fun i => c (i + 1)) k v := by
      funext i
      unfold up
      by_cases e : i = k
      · subst e; rw [if_pos rfl, if_pos rfl]
      · rw [if_neg e, if_neg (by omega)]
    show up c (k + 1) v 0 * at_ a j + comb (fun i => up c (k + 1) v (i + 1)) L j = c 0 * at_ a j + comb (fun i => c (i + 1)) L j + (v - c (k + 1)) * at_ x j
    rw [e2, ih, up_ne (by omega)]; omega
theorem lt_of_some {α : Type} {L : List α} {i : Nat} {x : α} (h : L[i]? = some x) : i < L.length := (List.getElem?_eq_some_iff.mp h).1
/-- row i becomes row i + f * row k -/
theorem Ind.add {p : Int} {L : List (List Int)} (I : Ind p L) {i k : Nat} {x y r : List Int} {f : Int} (hi : L[i]? = some x) (hk : L[k]? = some y) (ne : i ≠ k) (hr : ∀ j, p ∣ at_ r j - (at_ x j + f * at_ y j)) : Ind p (L.set i r) := by
  intro c hc t ht
  rw [List.length_set] at ht
  have main := I (up c k (c k + c i * f)) (fun j => by
    rw [comb_up j L c k _ y hk]
    have h1 := hc j
    rw [comb_set j L c i r x hi] at h1
    have h2 : p ∣ c i * (at_ r j - (at_ x j + f * at_ y j)) := Int.dvd_trans (hr j) (Int.dvd_mul_left _ _)
    have e : comb c L j + (c k + c i * f - c k) * at_ y j = (comb c L j + c i * (at_ r j - at_ x j)) - c i * (at_ r j - (at_ x j + f * at_ y j)) := by
      have e1 : c k + c i * f - c k = c i * f := by omega
      rw [e1, Int.mul_sub, Int.mul_sub, Int.mul_add, Int.mul_assoc]; omega
    rw [e]
    exact Int.dvd_sub h1 h2)
  have hci : p ∣ c i := by
    have := main i (lt_of_some hi)
    rwa [up_ne ne] at this
  by_cases e : t = k
  · subst e
    have := main t ht
    rw [up_same] at this
    have h3 : p ∣ c i * f := Int.dvd_trans hci (Int.dvd_mul_right _ _)
    have e2 : c t = (c t + c i * f) - c i * f := by omega
    rw [e2]
    exact Int.dvd_sub this h3
  · have := main t ht
    rwa [up_ne e] at this
/-- row i becomes u * row i, u * v being 1 -/
theorem Ind.scale {p : Int} {L : List (List Int)} (I : Ind p L) {i : Nat} {x r : List Int} {u v : Int} (hi : L[i]? = some x) (huv : p ∣ u * v - 1) (hr : ∀ j, p ∣ at_ r j - u * at_ x j) : Ind p (L.set i r) := by
  intro c hc t ht
  rw [List.length_set] at ht
  have main := I (up c i (c i * u)) (fun j => by
    rw [comb_up j L c i _ x hi]
    have h1 := hc j
    rw [comb_set j L c i r x hi] at h1
    have h2 : p ∣ c i * (at_ r j - u * at_ x j) := Int.dvd_trans (hr j) (Int.dvd_mul_left _ _)
    have e : comb c L j + (c i * u - c i) * at_ x j = (comb c L j + c i * (at_ r j - at_ x j)) - c i * (at_ r j - u * at_ x j) := by
      rw [Int.sub_mul, Int.mul_sub, Int.mul_sub, Int.mul_assoc]; omega
    rw [e]
    exact Int.dvd_sub h1 h2)
  by_cases e : t = i
  · subst e
    have h1 := main t ht
    rw [up_same] at h1
    have h2 : p ∣ c t * u * v := Int.dvd_trans h1 (Int.dvd_mul_right _ _)
    have h3 : p ∣ c t * (u * v - 1) := Int.dvd_trans huv (Int.dvd_mul_left _ _)
    have e2 : c t = c t * u * v - c t * (u * v - 1) := by
      rw [Int.mul_sub, Int.mul_assoc]; omega
    rw [e2]
    exact Int.dvd_sub h2 h3
  · have := main t ht
    rwa [up_ne e] at this
/-- two rows change places -/
theorem Ind.swap {p : Int} {L : List (List Int)} (I : Ind p L) {i k : Nat} {x y : List Int} (hi : L[i]? = some x) (hk : L[k]? = some y) : Ind p ((L.set i y).set k x) := by
  by_cases ne : i = k
  · subst ne
    rw [hi] at hk
    cases hk
    have e : (L.set i x).set i x = L := by
      rw [List.set_set]
      apply List.ext_getElem? fun m => ?_
      rw [List.getElem?_set]
      split
      · rename_i h; subst h
        split
        · exact hi.symm
        · rename_i h; exact absurd (lt_of_some hi) h
      · rfl
    rw [e]; exact I
  · intro c hc t ht
    rw [List.length_set, List.length_set] at ht
    have hk2 : (L.set i y)[k]? = some y := by rw [List.getElem?_set_ne ne]; exact hk
    have main := I (up (up c i (c k)) k (c i)) (fun j => by
      rw [comb_up j L _ k _ y hk, comb_up j L c i _ x hi, up_ne (fun h => ne h.symm)]
      have h1 := hc j
      rw [comb_set j _ c k x y hk2, comb_set j L c i y x hi] at h1
      have e : comb c L j + (c k - c i) * at_ x j + (c i - c k) * at_ y j = comb c L j + c i * (at_ y j - at_ x j) + c k * (at_ x j - at_ y j) := by
        rw [Int.sub_mul, Int.sub_mul, Int.mul_sub, Int.mul_sub]; omega
      rw [e]; exact h1)
    by_cases e : t = k
    · subst e
      have := main i (lt_of_some hi)
      rw [up_ne ne, up_same] at this
      exact this
    · by_cases e2 : t = i
      · subst e2
        have := main k (lt_of_some hk)
        rw [up_same] at this
        exact this
      · have := main t ht
        rwa [up_ne e, up_ne e2] at this
/-- no row is nought -/
theorem Ind.row {p : Int} {L : List (List Int)} (I : Ind p L) (hp : 1 < p) {i : Nat} {x : List Int} (hi : L[i]? = some x) : ¬ ∀ j, p ∣ at_ x j := by
  intro h
  have h0 : ∀ (L : List (List Int)) (j : Nat), comb (fun _ => 0) L j = 0 := by
    intro L j
    induction L with
    | nil => rfl
    | cons a L ih =>
      show 0 * at_ a j + comb (fun _ => 0) L j = 0
      rw [ih]; omega
  have := I (up (fun _ => 0) i 1) (fun j => by
    rw [comb_up j L _ i _ x hi, h0]
    have e : (0 : Int) + (1 - 0) * at_ x j = at_ x j := by omega
    rw [e]; exact h j) i (lt_of_some hi)
  rw [up_same] at this
  have := Int.le_of_dvd (by decide) this
  omega
/-- the table with 1 at the places (k, k) -/
def unitRow (n k : Nat) : List Int := (List.range n).map fun a => if a = k then 1 else 0
def unitTab (n : Nat) : List (List Int) := (List.range n).map fun k => unitRow n k
theorem len_unit (n : Nat) : (unitTab n).length = n := by simp [unitTab]
theorem ind_unit (p : Int) {n : Nat} (h1 : 1 ≤ n) (h4 : n ≤ 4) : Ind p (unitTab n) := by
  intro c hc i hi
  have h := hc i
  rw [len_unit] at hi
  have hn : (n = 1 ∧ i = 0) ∨ (n = 2 ∧ (i = 0 ∨ i = 1)) ∨ (n = 3 ∧ (i = 0 ∨ i = 1 ∨ i = 2)) ∨ (n = 4 ∧ (i = 0 ∨ i = 1 ∨ i = 2 ∨ i = 3)) := by omega
  rcases hn with ⟨rfl, rfl⟩ | ⟨rfl, rfl | rfl⟩ | ⟨rfl, rfl | rfl | rfl⟩ | ⟨rfl, rfl | rfl | rfl | rfl⟩
  all_goals simpa [comb, unitTab, unitRow, at_, List.range, List.range.loop] using h
end Dr
set_option maxRecDepth 100000
set_option maxHeartbeats 4000000
/-! all(elt for x in t), the element any expression (calls too), every item True. -/
namespace DrG
open PySem PySem.Spec PyProof.Rows L2 GxR GenW

/-- the context of the generator's frame: entered at s from the frames of X -/
def gcx (X : Cx) (A : Around) (s : Shared) (H : Hp) (ge : Env) (fp : List Addr) : Cx :=
  { X with A := A, s_0 := s, H_0 := H, env := ge, outer := X.stack, stack := ge :: X.stack, ex := fp, fn := fun _ => false, pn := [], xe := fun _ _ => False }
/-- the names of a generator expression: x (slot i), the walked thing, captured ones -/
structure GenB (N : List Str) (sc scope : Scope) (x : Str) (i : Nat) : Prop where
  kind : scope.kind = .function
  co : scope.isCoroutine = false
  cell : ∀ y ∈ scope.names, y.2 ≠ .cell
  dot : scope.names.lookup (".0" : Str) = some NameKind.local
  loc : scope.names.lookup x = some .local
  own : ∀ y ∈ scope.names, y.2 = .local → y.1 = x ∨ y.1 ∉ N
  free : ∀ y ∈ scope.names, y.2 = .free → sc.names.lookup y.1 = some .cell ∨ sc.names.lookup y.1 = some .free
  ix : N[i]? = some x
def genBB (N : List Str) (sc scope : Scope) (x : Str) (i : Nat) : Bool :=
  decide (scope.kind = .function) && !scope.isCoroutine && (scope.names.all fun y => !decide (y.2 = .cell)) && decide (scope.names.lookup (".0" : Str) = some NameKind.local) && decide (scope.names.lookup x = some .local) &&
    (scope.names.all fun y => !decide (y.2 = .local) || decide (y.1 = x) || !decide (y.1 ∈ N)) && (scope.names.all fun y => !decide (y.2 = .free) || decide (sc.names.lookup y.1 = some .cell) || decide (sc.names.lookup y.1 = some .free)) && decide (N[i]? = some x)
theorem genB_by {N : List Str} {sc scope : Scope} {x : Str} {i : Nat} (h : genBB N sc scope x i = true) : GenB N sc scope x i := by
  unfold genBB at h
  simp only [Bool.and_eq_true, Bool.or_eq_true, Bool.not_eq_true', decide_eq_true_eq, decide_eq_false_iff_not, List.all_eq_true] at h
  obtain ⟨⟨⟨⟨⟨⟨⟨h1, h2⟩, h3⟩, h4⟩, h5⟩, h6⟩, h7⟩, h8⟩ := h
  refine ⟨h1, h2, h3, h4, h5, fun y hy e => ?_, fun y hy e => ?_, h8⟩
  · rcases h6 y hy with (z | z) | z
    · exact absurd e z
    · exact .inl z
    · exact .inr z
  · rcases h7 y hy with (z | z) | z
    · exact absurd e z
    · exact .inl z
    · exact .inr z

section
variable {X : Cx} {pins : List (Addr × Obj)} {σ : L2.St} {H : Hp} {s : Shared}
/-- another state with the same heap -/
theorem inv_same {s' : Shared} (I : Inv X pins σ H s) (hh : s'.heap = s.heap) (ho : s'.os = s.os) (hb : AllBare s'.gens) : Inv X pins σ H s' := by
  obtain ⟨h', g', d', t', o'⟩ := s'
  have hh : h' = s.heap := hh
  have ho : o' = s.os := ho
  subst hh ho
  exact ⟨I.ok, I.os, hb, I.base, I.loc, I.cell, I.free, I.freeC, I.pin, I.hok, I.len⟩
/-- the generator's frame is made -/
theorem gen_start {scope : Scope} {x : Str} {i a : Nat} {go : Obj} {A : Around} {code : Value} {fp : List Addr} {h5 : Heap} {tk : Nat} {G : Array GenState} {m : Str → Option Value}
    (I : Inv X pins σ H s) (S : GenB X.N X.env.scope scope x i) (hNd : X.N.Nodup) (hc : X.calm = true)
    (hfr : A.frames = some (genEnv scope (cloFrom X.env.cells scope.names []) s.heap.objs.size code builtinsNs X.env :: X.stack)) (hd : A.handled = none)
    (hfp : ∀ b ∈ fp, FpOk X pins H b ∧ b < s.heap.objs.size) (hns : h5.Ns s.heap.objs.size m) (kp : ∀ b o, s.heap.get? b = some o → h5.get? b = some o) (hb : AllBare G)
    (ha : s.heap.objs.size < a) (hgo : h5.get? a = some go) (hgd : ∀ v, go.data ≠ .cell v) :
    Inv (gcx X A s H (genEnv scope (cloFrom X.env.cells scope.names []) s.heap.objs.size code builtinsNs X.env) fp) [(a, go)] (σ.set i none) H { s with heap := h5, gens := G, toks := tk } := by
  have hfree : ∀ y ∈ scope.names, y.2 = .free → ∃ c, X.env.cells.lookup y.1 = some c := fun y hy e => (S.free y hy e).elim (fun z => I.ok.has _ (.inl z)) fun z => I.ok.has _ (.inr z)
  have cm : ∀ {y c}, (cloFrom X.env.cells scope.names []).lookup y = some c → X.env.cells.lookup y = some c := fun {y c} e => by
    rcases cloFrom_mem (PySem.mem_of_lookup e) with hm | ⟨h1, h2⟩
    · cases hm
    · obtain ⟨c1, q1⟩ := hfree _ h1 rfl
      have q1 : X.env.cells.lookup y = some c1 := q1
      rw [q1] at h2
      rw [q1, h2]; rfl
  have look : ∀ {y}, scope.names.lookup y = some .free → ∃ c, (cloFrom X.env.cells scope.names []).lookup y = some c := fun {y} hl =>
    mem_lookup (cloFrom_has (cells := X.env.cells) (acc := []) (PySem.mem_of_lookup hl))
  have noCell : ∀ {y}, scope.names.lookup y ≠ some .cell := fun {y} hl => S.cell _ (PySem.mem_of_lookup hl) rfl
  have cellK : ∀ {c : Addr} {v : Option Value}, s.heap.IsCell c v → h5.IsCell c v := fun {c v} ⟨o, ho, hd⟩ => ⟨o, kp _ _ ho, hd⟩
  have fpn : ∀ b ∈ fp, b ≠ s.heap.objs.size := fun b hb' => Nat.ne_of_lt (hfp b hb').2
  refine ⟨⟨I.ok.mod, S.kind, I.ok.glob, rfl, Nat.le_refl _, fun y z c e1 e2 => I.ok.inj y z c (cm e1) (cm e2), fun y hy => ?_, fun y c z _ => ?_, fun _ => hd, hfr, .inr ⟨rfl, rfl⟩, fun b hb' => ⟨fpn b hb', fun y c e => (hfp b hb').1.2.2.2.2.1 y c (cm e)⟩, I.bs, Nat.le_trans I.ok.bsz I.sz, fun b o e hb' => ?_, fun b hb' z => ?_, I.stack, I.stkFree⟩,
    rfl, hb, Un.kept kp, ⟨m, hns, fun j y v e1 e2 e3 => ?_⟩, fun y c e => ?_, I.hok.fresh (Nat.le_refl _), fun y c e => I.freeC y c (cm e), fun p hp => ?_, I.hok.kept kp, ?_⟩
  · have hy : scope.names.lookup y = some .cell ∨ scope.names.lookup y = some .free := hy
    rcases hy with hy | hy
    · exact absurd hy noCell
    · exact look hy
  · have z : false = true := z
    cases z
  · rcases (hfp b hb').1.2.2.2.1 with z | z
    · exact I.ok.noex b o e z
    · exact absurd (Nat.lt_of_lt_of_le (Heap.lt_size (I.ok.bs b o e).1) z) (Nat.lt_irrefl _)
  · have z : b ∈ frs X.stack := z
    rcases List.mem_cons.mp (I.stkSub b z) with q | q
    · exact (hfp b hb').1.2.1 q
    · exact (hfp b hb').1.2.2.1 q
  · have e1 : X.N[j]? = some y := e1
    have e3 : Vis scope y := e3
    rcases e3 with k | k | k
    · rcases S.own _ (PySem.mem_of_lookup k) rfl with q | q
      · have q : y = x := q
        have hij : j = i := nodup_ix hNd e1 (by rw [q]; exact S.ix)
        subst hij
        have hlt : j < σ.length := by
          have h := (List.getElem?_eq_some_iff.mp e2).1
          rwa [List.length_set] at h
        rw [List.getElem?_set_self hlt] at e2
        cases e2
      · exact absurd (List.mem_of_getElem? e1) q
    · exact absurd k noCell
    · have hji : i ≠ j := fun q => by
        have hx := S.ix
        rw [q, e1] at hx
        cases hx
        rw [S.loc] at k
        cases k
      rw [List.getElem?_set_ne hji] at e2
      obtain ⟨m', hn', hl'⟩ := I.loc
      have hvis : Vis X.env.scope y := (S.free _ (PySem.mem_of_lookup k) rfl).elim (fun z => .inr (.inl z)) fun z => .inr (.inr z)
      obtain ⟨u, r, l⟩ := hl' j y v e1 e2 hvis
      obtain ⟨c2, h2⟩ := look k
      refine ⟨u, r, .inr ⟨.inr k, c2, h2, ?_⟩⟩
      have c1 := cm h2
      rcases l with ⟨k', _⟩ | ⟨_, c3, e', z⟩
      · have k' : X.env.scope.names.lookup y = some .local := k'
        rcases S.free _ (PySem.mem_of_lookup k) rfl with q | q
        · have q : X.env.scope.names.lookup y = some .cell := q
          rw [q] at k'; cases k'
        · have q : X.env.scope.names.lookup y = some .free := q
          rw [q] at k'; cases k'
      · rw [c1] at e'
        cases e'
        exact cellK z
  · obtain ⟨w', z⟩ := I.cell y c (cm e)
    exact ⟨w', cellK z⟩
  · have hp : p = (a, go) := by
      have hp : p ∈ [] ++ [(a, go)] := hp
      simpa using hp
    subst hp
    refine ⟨hgo, I.hok.fresh (Nat.le_of_lt ha), Nat.ne_of_gt ha, fun z => ?_, hgd⟩
    have z : a ∈ frs X.stack := z
    rcases List.mem_cons.mp (I.stkSub a z) with q | q
    · exact absurd (Nat.lt_trans I.lt ha) (by rw [q]; exact Nat.lt_irrefl _)
    · exact I.nofs (Nat.le_of_lt ha) q
  · rw [List.length_set]; exact I.len
end

/-! ### the consumer -/
def RG (Fin : Shared → Prop) : GenEnd := fun n _ r s₁ => r = .ok .next ∧ (n = 0 ∧ Fin s₁)
def YG (It : Shared → Prop) : Protocol := fun _ _ v s₁ kap => v = .bool true ∧ It s₁ ∧ ∀ s', s'.heap = s₁.heap → s'.os = s₁.os → AllBare s'.gens → kap (.send .none) s'
theorem all_drain {P : Program} {w : World} {A : Around} {R : Result → Shared → Prop} {a : Addr} {g : Nat} {Fin It : Shared → Prop} (hh : A.handled = none) (hd : A.depth < recursionLimit)
    (hIt : ∀ s, It s → s.heap.IsGen a g ∧ s.heap.NoLimit ∧ AllBare s.gens)
    (hend : ∀ s h', Fin s → (∀ b o, s.heap.get? b = some o → h'.get? b = some o) → R (.ok (.ret (.bool true))) { s.setGen g .finished with heap := h' }) :
    ∀ (m : Nat) (s : Shared), s.heap.IsGen a g → s.heap.NoLimit → (∃ gs, s.gens[g]? = some gs ∧ gs.Goes (model P w) A.in1.in1 (RG Fin) (YG It) m (.send .none) (s.setGen g .running)) →
      codeAny (model P w) A (.builtin "all.loop" ⟨[.ref a], []⟩) R s := by
  intro m
  induction m with
  | zero =>
    intro s hg hl ⟨gs, hgs, hgo⟩
    refine codeAny_builtin F.entry_all_loop ?_
    rw [Around.under_plainId F.plain_all_loop _]
    show wpAny _ A.in1 (pyNext (.ref a) >>= _) _ _ s
    refine wpAny_bind (wpAny_pyNext_genexpQ (A := A.in1) (P := fun n _ s₁ => n = 0 ∧ Fin s₁) hh hl hd hg hgs hgo (fun v s₁ gs' hbare hv => ?_) fun s₁ hp h' hk => ?_)
    · obtain ⟨_, hi, hk⟩ := hv
      exact False.elim (hk s₁ rfl rfl (hIt _ hi).2.2)
    · exact wpAny_bind (wpAny_rule (wpAny_pure (hend s₁ h' hp.2 hk)))
  | succ m ih =>
    intro s hg hl ⟨gs, hgs, hgo⟩
    have hgl : g < s.gens.size := (Array.getElem?_eq_some_iff.mp hgs).1
    refine codeAny_builtin F.entry_all_loop ?_
    rw [Around.under_plainId F.plain_all_loop _]
    show wpAny _ A.in1 (pyNext (.ref a) >>= _) _ _ s
    refine wpAny_bind (wpAny_gsz (n := g + 1) hgl (wpAny_pyNext_genexpQ (A := A.in1) (P := fun n _ s₁ => n = 0 ∧ Fin s₁) hh hl hd hg hgs hgo (fun v s₁ gs' hbare hv => ?_) fun s₁ hp h' hk => ?_))
    · intro hsz
      obtain ⟨rfl, hi, hk⟩ := hv
      obtain ⟨hg1, hl1, hb1⟩ := hIt _ hi
      refine wpAny_bind (wpAny_holding (wpAny_truthy_bool ?_))
      refine wpAny_bind (wpAny_letGo ?_)
      simp only [if_true]
      have hsz1 : g < s₁.gens.size := by
        have q : (s₁.setGen g gs').gens.size = s₁.gens.size := setGen_size _ _ _
        have hsz' : g + 1 ≤ (s₁.setGen g gs').gens.size := hsz
        omega
      refine wpAny_pure ⟨plainId_quiet F.plain_all_loop _, ih (s₁.setGen g gs') hg1 hl1 ⟨gs', setGen_at hsz1, ?_⟩⟩
      exact hk _ rfl rfl (allBare_setGen (s := s₁.setGen g gs') (allBare_setGen hb1 hbare) rfl)
    · intro _
      exact absurd hp.1 (Nat.succ_ne_zero m)
/-! ### the generator runs -/
section
variable {X : Cx}
/-- what the loop over the generator needs; Wv k H: behind k items -/
theorem seg_all {B : Around} {s4 : Shared} {H4 : Hp} {ge : Env} {fp : List Addr} {tn : Nat → Heap → Prop} {J : It} {elt iter : Expr} {x : Str} {i it a g n : Nat} {px pos : Pos} {scope : Scope} {go : Obj} {te : TE} {σ : L2.St} {Wv : Nat → Hp → Prop} {Fin : Hp → Prop}
    (hc : X.calm = true) (hNd : X.N.Nodup) (hix : X.N[i]? = some x) (hge : ge.scope = scope) (hx : scope.names.lookup x = some .local) (hco : scope.isCoroutine = false)
    (hgo : go.cls = .type "generator") (hgf : ∃ nm qn : Value, go.data = .fields #[.int g 0, nm, qn])
    (isg : ∀ h : Heap, h.get? a = some go → h.IsGen a g)
    (T : Turn X.prog X.w X.K (.Name x px) J fp it tn) (ha : ∀ b ∈ fp, a ≠ b)
    (he : PE (gcx X (B.over (.compLoop (.GeneratorExp elt [⟨.Name x px, iter, [], 0⟩] scope pos) 0 (.ref it) .none ge) []) s4 H4 ge fp) elt te)
    (turn : ∀ k H, k < n → Wv k H → J.go k H ∧ ∀ v H', J.yld k H v H' → te (σ.set i (some v)) H' fun y H2 => y = .bl true ∧ Wv (k + 1) H2)
    (done : ∀ H, Wv n H → J.stop n H ∧ Fin H) :
    ∀ (k j : Nat) (s₀ s : Shared) (H : Hp), n - j = k → j ≤ n → Inv (gcx X (B.over (.compLoop (.GeneratorExp elt [⟨.Name x px, iter, [], 0⟩] scope pos) 0 (.ref it) .none ge) []) s4 H4 ge fp) [(a, go)] (σ.set i none) H s → tn j s.heap → (∀ b ∈ fp, H b = none) → Wv j H →
      Seg (model X.prog X.w) B (RG fun s' => ∃ H', Inv (gcx X (B.over (.compLoop (.GeneratorExp elt [⟨.Name x px, iter, [], 0⟩] scope pos) 0 (.ref it) .none ge) []) s4 H4 ge fp) [(a, go)] (σ.set i none) H' s' ∧ Fin H') (YG fun s' => s'.heap.IsGen a g ∧ s'.heap.NoLimit ∧ AllBare s'.gens) (n - j) s₀
        (.compLoop (.GeneratorExp elt [⟨.Name x px, iter, [], 0⟩] scope pos) 0 (.ref it) .none ge) ((model X.prog X.w).den (.compLoop (.GeneratorExp elt [⟨.Name x px, iter, [], 0⟩] scope pos) 0 (.ref it) .none ge)) [] s := by
  generalize hXg : gcx X (B.over (.compLoop (.GeneratorExp elt [⟨.Name x px, iter, [], 0⟩] scope pos) 0 (.ref it) .none ge) []) s4 H4 ge fp = Xg at he ⊢
  have eP : Xg.prog = X.prog := by rw [← hXg]; rfl
  have ew : Xg.w = X.w := by rw [← hXg]; rfl
  have eK : Xg.K = X.K := by rw [← hXg]; rfl
  have eA : Xg.A = B.over (.compLoop (.GeneratorExp elt [⟨.Name x px, iter, [], 0⟩] scope pos) 0 (.ref it) .none ge) [] := by rw [← hXg]; rfl
  have eN : Xg.N = X.N := by rw [← hXg]; rfl
  have ec : Xg.calm = true := by rw [← hXg]; exact hc
  have eE : Xg.env = ge := by rw [← hXg]; rfl
  have ex_ : Xg.ex = fp := by rw [← hXg]; rfl
  have epn : Xg.pn = [] := by rw [← hXg]; rfl
  have exe : Xg.xe = fun _ _ => False := by rw [← hXg]; rfl
  have pg : PG Xg (.Name x px) (gName i) := pg_name (by rw [eN]; exact hNd) (by rw [eN]; exact hix) (by rw [eE]; exact .inl (by rw [hge]; exact hx)) (.inr (by rw [eE, hge]; exact hx))
  have stat : ∀ {σ' : L2.St} {H' : Hp} {s' : Shared}, Inv Xg [(a, go)] σ' H' s' → (∀ b ∈ fp, H' b = none) → ∀ b ∈ fp, FpOk Xg [(a, go)] H' b := fun {σ' H' s'} I' hn b hb =>
    ⟨hn b hb, (I'.ok.exf b (by rw [ex_]; exact hb)).1, I'.ok.exfs b (by rw [ex_]; exact hb), .inl (by rw [ex_]; exact hb), fun y c e => (I'.ok.exf b (by rw [ex_]; exact hb)).2 y c e, fun p hp => by
      rw [epn] at hp
      have hp : p = (a, go) := by simpa using hp
      subst hp
      exact ha b hb⟩
  intro k
  induction k with
  | zero =>
    intro j s₀ s H hk hj I st hn hw
    have hjn : j = n := by omega
    subst hjn
    obtain ⟨stop, fin⟩ := done H hw
    show Seg _ B _ _ _ s₀ _ ((compTurn (.GeneratorExp elt [⟨.Name x px, iter, [], 0⟩] scope pos) 0 (.ref it) .none ge).onRaise (leaving ge)) [] s
    rw [compTurn_gen, Sem.onRaise_eq_wrap]
    refine seg_bind_wrap (wpAny_standAt ?_)
    have td := T.done Xg eP ew eK ec j [(a, go)] s _ H (fun _ _ => False) I (stat I hn) st stop
    rw [eA] at td
    refine seg_bind_wrap (thnF td fun r s1 ⟨hr, I1⟩ => ?_)
    subst hr
    exact seg_end (.ok .next) ⟨rfl, by omega, H, I1, fin⟩
  | succ k ih =>
    intro j s₀ s H hk hj I st hn hw
    have hlt : j < n := by omega
    obtain ⟨gok, step⟩ := turn j H hlt hw
    show Seg _ B _ _ _ s₀ _ ((compTurn (.GeneratorExp elt [⟨.Name x px, iter, [], 0⟩] scope pos) 0 (.ref it) .none ge).onRaise (leaving ge)) [] s
    rw [compTurn_gen, Sem.onRaise_eq_wrap]
    refine seg_bind_wrap (wpAny_standAt ?_)
    have ti := T.item Xg eP ew eK ec j [(a, go)] s _ H (fun _ _ => False) I (stat I hn) st gok
    rw [eA] at ti
    refine seg_bind_wrap (thnF ti fun r s1 ⟨u, hr, h1⟩ => ?_)
    subst hr
    refine seg_bind_wrap (thnF h1 fun _ s2 ⟨v, H2, I2, r2, y2, st2, n2⟩ => ?_)
    have I2' := I2.pinned (stat I2 n2) (T.obj _ _ st2)
    have ta := pg.run _ s2 _ H2 v u (fun σ' H' => σ' = σ.set i (some v) ∧ H' = H2) I2' r2 ⟨by rw [List.set_set], rfl⟩
    rw [eP, ew, eA, eE, exe] at ta
    refine seg_bind_wrap (thnF ta fun _ s3 ⟨σ3, H3, I3, eσ, eH⟩ => ?_)
    subst eσ eH
    refine seg_bind_wrap (wpAny_tests_nil ?_)
    simp only [if_true]
    have hy : ∀ v, yieldOut ge v = yieldValue v := fun v => by simp only [yieldOut, hge, hco, Bool.false_eq_true, if_false]
    simp only [hy]
    rw [Sem.bind_eq_wrap', Sem.bind_eq_wrap', Sem.wrap_wrap, Sem.wrap_wrap]
    have tv := he.run _ s3 _ H3 _ I3 (step v H3 y2)
    rw [eP, ew, eA, eE, exe] at tv
    refine seg_wrap (thnF tv fun y s4' ⟨yv, H5, I5, r5, ey, w5⟩ => ?_)
    subst ey
    have r5 : y = .bool true := r5
    subst r5
    have ga : s4'.heap.get? a = some go := (I5.pin (a, go) (by rw [epn]; simp)).1
    have nj : n - j = (n - (j + 1)) + 1 := by omega
    rw [nj]
    refine seg_at (seg_yield rfl rfl rfl ⟨rfl, ⟨isg _ ga, I5.nolimit, I5.bare⟩, fun s'' eh eo eb => ?_⟩)
    have I6 := inv_same I5 eh eo eb
    have pin' : ∀ b ∈ fp, ∀ o, s2.heap.get? b = some o → s''.heap.get? b = some o ∧ H5 b = none := fun b hb o e =>
      let z := I6.pin (b, o) (List.mem_append_right _ (List.mem_append_right _ (mem_pinsAt hb e)))
      ⟨z.1, z.2.1⟩
    have I7 : Inv Xg [(a, go)] (σ.set i none) H5 s'' := I6.unpinned.weak (by simp) fun l v' e => by
      by_cases hli : l = i
      · subst hli
        have hl := (List.getElem?_eq_some_iff.mp e).1
        rw [List.length_set] at hl
        rw [List.getElem?_set_self hl] at e
        cases e
      · rw [List.getElem?_set_ne (Ne.symm hli)] at e ⊢
        exact e
    refine seg_again rfl (ih (j + 1) s'' s'' H5 (by omega) hlt I7 (T.keep _ _ _ st2 fun b hb o e => (pin' b hb o e).1) (fun b hb => ?_) w5)
    obtain ⟨o, e, _⟩ := T.obj _ _ st2 b hb
    exact (pin' b hb o e).2
/-- from its start -/
theorem seg_all_start {B : Around} {R : GenEnd} {Y : Protocol} {n : Nat} {s₀ s : Shared} {elt iter tg : Expr} {scope : Scope} {pos : Pos} {it : Addr} {ge : Env}
    (hs : ∀ (A : Around) (Q : Value → Shared → Prop) (E : Value → Shared → Prop), Q (.ref it) s → wpAny (model X.prog X.w) A (pyIter (.ref it)) Q E s)
    (h : Seg (model X.prog X.w) B R Y n s₀ (.compLoop (.GeneratorExp elt [⟨tg, iter, [], 0⟩] scope pos) 0 (.ref it) .none ge) ((model X.prog X.w).den (.compLoop (.GeneratorExp elt [⟨tg, iter, [], 0⟩] scope pos) 0 (.ref it) .none ge)) [] s) :
    Seg (model X.prog X.w) B R Y n s₀ (.compStart (.GeneratorExp elt [⟨tg, iter, [], 0⟩] scope pos) 0 (.ref it) .none ge) ((model X.prog X.w).den (.compStart (.GeneratorExp elt [⟨tg, iter, [], 0⟩] scope pos) 0 (.ref it) .none ge)) [] s := by
  show Seg _ B _ _ _ s₀ _ ((compStart (.GeneratorExp elt [⟨tg, iter, [], 0⟩] scope pos) 0 (.ref it) .none ge).onRaise (leaving ge)) [] s
  unfold compStart
  rw [Sem.onRaise_eq_wrap]
  show Seg _ B _ _ _ s₀ _ ((ask >>= _).wrap _ _ _ _) [] s
  refine seg_bind_wrap (wpAny_askSetting ?_)
  split
  · exact seg_again rfl h
  · first
      | exact seg_bind_wrap (wpAny_rule (seg_bind_wrap (wpAny_standAt (seg_bind_wrap (hs _ _ _ (seg_again rfl h))))))
      | (refine seg_bind_wrap (wpAny_rule ?_)
         show Seg _ B _ _ _ s₀ _ ((standAt iter.pos >>= _).wrap _ _ _ _) [] s
         exact seg_bind_wrap (wpAny_standAt (seg_bind_wrap (hs _ _ _ (seg_again rfl h)))))

/-! ### the rule -/
def tAllG (P : Addr) (wi : TI) (i : Nat) (te : TE) : TE := fun σ H Q => wi σ H fun J H1 => TabG H1 P ∧ ∀ H2, Tabbed P H1 H2 → ∃ (n : Nat) (Wv : Nat → Hp → Prop), Wv 0 H2 ∧
  (∀ k H, k < n → Wv k H → J.go k H ∧ ∀ v H', J.yld k H v H' → te (σ.set i (some v)) H' fun y H4 => y = .bl true ∧ Wv (k + 1) H4) ∧ ∀ H, Wv n H → J.stop n H ∧ Q (.bl true) H
theorem pe_allG {c P : Addr} {elt iter : Expr} {x : Str} {i k : Nat} {px p pos gpos : Pos} {scope : Scope} {wi : TI} {te : TE}
    (hr : Room (k + 1) X.A) (hc : X.calm = true) (hg : Gl X "all") (hm : X.mg "all" = none) (TB : GxR.TabB X.base X.mg c P) (hcode : X.env.code = .ref c) (hNd : X.N.Nodup) (S : GenB X.N X.env.scope scope x i) (hi : PI X (.Name x px) iter wi)
    (he : ∀ (A : Around) (s : Shared) (H : Hp) (C : Addr) (cl : List (Str × Addr)) (code : Value) (fp : List Addr), Room k A → PE (gcx X A s H (genEnv scope cl C code builtinsNs X.env) fp) elt te)
    (hs : ∀ v, genFold iter X.env v = pure v := by intro _; rfl)
    (hse : starEach [.GeneratorExp elt [⟨.Name x px, iter, [], 0⟩] scope gpos] X.env = (false, eval (.GeneratorExp elt [⟨.Name x px, iter, [], 0⟩] scope gpos) X.env) :: starEach [] X.env := by rfl) :
    PE X (.Call (.Name "all" p) [.GeneratorExp elt [⟨.Name x px, iter, [], 0⟩] scope gpos] [] pos) (tAllG P wi i te) := by
  refine ⟨fun pins s σ H Q I h => ?_⟩
  have hfree : ∀ y ∈ scope.names, y.2 = .free → ∃ c, X.env.cells.lookup y.1 = some c := fun y hy e => (S.free y hy e).elim (fun z => I.ok.has _ (.inl z)) fun z => I.ok.has _ (.inr z)
  refine wpAny_Call_Name_kw (ld_blt I hg hm (by decide +kernel : bootBuiltins "all" = some (.builtin "all")) ?_)
  refine PyProof.Rows.callWith_builtin1 ?_ hse (by rfl)
  rw [hse]
  show wpAny _ _ (spliced ((false, eval (.GeneratorExp elt [⟨.Name x px, iter, [], 0⟩] scope gpos) X.env) :: backTo pos (starEach [] X.env))) _ _ s
  refine Calls.spliced_cons (wpAny_GeneratorExp_make S.co (closure_ok hfree) S.cell S.dot S.kind (by have := hr.dp; omega) ?_ hs)
  refine thn (hi.run pins s σ H _ I h) fun xv s1 h1 => thn h1 fun itv s2 h2 => ?_
  obtain ⟨it, fp, tn, J, H2, rfl, I2, T, st2, f2, ⟨ps, hP, ht⟩, q⟩ := h2
  have hPs : s2.heap.get? P = some { cls := .none, data := .fields ps } := I2.hok P _ hP
  have cd : PySem.W.CodeHd s2.heap c P := TB.code.keeps I2.bk
  refine ⟨I2.nolimit, ?_⟩
  -- behind the code object
  have cont : ∀ (code : Value) (s3 : Shared) (H3 : Hp), Inv X pins σ H3 s3 → Tabbed P H2 H3 → (∀ b ∈ fp, ∀ o, s2.heap.get? b = some o → s3.heap.get? b = some o) →
      wpAny (model X.prog X.w) X.A (builtinsFor X.env.globals X.env.builtins) (fun bi s4 => ∀ h', h'.Ns s4.heap.objs.size (fun y => if y = ".0" then some (.ref it) else none) → Heap.SameBut s4.heap.objs.size (s4.heap.push { cls := .type "frame", data := .dict #[] }) h' →
        wpAny (model X.prog X.w) X.A (spliced (backTo pos (starEach [] X.env))) (fun r s' => wpAny (model X.prog X.w) X.A (call (.builtin "all") (Value.ref h'.objs.size :: r)) (EP X pins σ Q) X.xe s') X.xe
          { s4 with
            gens := s4.gens.push (.fresh (.compStart (.GeneratorExp elt [⟨.Name x px, iter, [], 0⟩] scope gpos) 0 (.ref it) .none (genEnv scope (cloFrom X.env.cells scope.names []) s4.heap.objs.size code bi X.env))),
            toks := s4.toks + 1 + 1 + 1,
            heap := h'.push { cls := .type "generator", data := .fields #[.int s4.gens.size 0, .str "<genexpr>" (s4.toks + 1), .str (X.env.qual ++ "<genexpr>") (s4.toks + 1 + 1)] } }) X.xe s3 := by
    intro code s3 H3 I3 hT hk3
    obtain ⟨bm, ob, e1, e2, e3, e4, e5, e6, e7, e8⟩ := TB.bm
    refine wpAny_builtinsFor (m := X.mg) (by rw [I3.ok.glob]; exact I3.mod.glob.keeps I3.bk) e1 e2 (I3.bk _ _ e5) e6 e7 e8 ?_
    intro h' hns hsb
    have lt2 : ∀ b ∈ fp, b < s3.heap.objs.size := fun b hb => by
      obtain ⟨o, e, _⟩ := T.obj _ _ st2 b hb
      exact Heap.lt_size (hk3 b hb o e)
    have kp' : ∀ b o, s3.heap.get? b = some o → h'.get? b = some o := fun b o e => hsb.extBut b o (Nat.ne_of_lt (Heap.lt_size e)) (Heap.get?_push_of_some _ e)
    have hsz : h'.objs.size = s3.heap.objs.size + 1 := by rw [hsb.1, Heap.size_push]
    obtain ⟨n, Wv, w0, turn, done⟩ := q H3 hT
    have nT : ∀ b ∈ fp, H3 b = none := fun b hb => by
      have nP : b ≠ P := fun z => by
        have e := (f2 b hb).1
        rw [z, hP] at e
        cases e
      rw [hT.2 b nP]
      exact (f2 b hb).1
    have f3 : ∀ b ∈ fp, FpOk X pins H3 b := fun b hb => ⟨nT b hb, (f2 b hb).2⟩
    refine Calls.spliced_nil ?_
    show wpAny (model X.prog X.w) X.A (call (.builtin "all") [Value.ref h'.objs.size]) (EP X pins σ Q) X.xe _
    refine call_function_tree F.kind_all F.plain_all F.entry_all (F.args_all1 _) ?_
    unfold Builtin.«all»
    refine wpAny_bind (m := oneArg "all" _) (wpAny_pure ?_)
    generalize hgo : ({ cls := .type "generator", data := .fields #[.int s3.gens.size 0, .str "<genexpr>" (s3.toks + 1), .str (X.env.qual ++ "<genexpr>") (s3.toks + 1 + 1)] } : Obj) = go
    have hga : (h'.push go).get? h'.objs.size = some go := Heap.get?_push_size _ (by rw [← hgo]; rfl)
    have isg : ∀ h : Heap, h.get? h'.objs.size = some go → h.IsGen h'.objs.size s3.gens.size := fun h e => ⟨_, _, _, e, by rw [← hgo], by rw [← hgo], by rw [← hgo]⟩
    refine wpAny_bind (wpAny_pyIter_gen (isg _ hga) ?_)
    refine wpAny_pure ⟨plainId_quiet F.plain_all_loop _, ?_⟩
    have kp5 : ∀ b o, s3.heap.get? b = some o → (h'.push go).get? b = some o := fun b o e => Heap.get?_push_of_some _ (kp' b o e)
    generalize hge : genEnv scope (cloFrom X.env.cells scope.names []) s3.heap.objs.size code builtinsNs X.env = ge
    have hA : (X.A.in1.in1.over (.compLoop (.GeneratorExp elt [⟨.Name x px, iter, [], 0⟩] scope gpos) 0 (.ref it) .none ge) []).frames = some (ge :: X.stack) := by
      show pushEnvs [ge] (pushEnvs [] X.A.frames) = _
      rw [I3.ok.frames]; rfl
    have hrA : Room k (X.A.in1.in1.over (.compLoop (.GeneratorExp elt [⟨.Name x px, iter, [], 0⟩] scope gpos) 0 (.ref it) .none ge) []) := by
      refine ⟨hr.hd, ?_, ?_⟩
      · have := hr.dp
        show X.A.depth + 0 + 1 + 3 * k + 5 < _
        omega
      · have := hr.un
        show X.A.units + 1 + 1 + 0 + 3 + 16 * k + 200 < _
        omega
    refine all_drain (A := X.A) (It := fun s' => s'.heap.IsGen h'.objs.size s3.gens.size ∧ s'.heap.NoLimit ∧ AllBare s'.gens)
      (Fin := fun s' => ∃ H', Inv (gcx X (X.A.in1.in1.over (.compLoop (.GeneratorExp elt [⟨.Name x px, iter, [], 0⟩] scope gpos) 0 (.ref it) .none ge) []) s3 H3 ge fp) [(h'.objs.size, go)] (σ.set i none) H' s' ∧ Q (.bl true) H')
      hr.hd (by have := hr.dp; omega) (fun _ z => z) (fun s' h'' fin hk => ?_) n _ (isg _ hga) (I3.nolimit.keeps kp5) ⟨_, Array.getElem?_push_size .., rfl, ?_⟩
    · -- back in the def
      obtain ⟨H', I', qq⟩ := fin
      have I7 : Inv X pins σ H' s' := I3.call' (ch := fp) I'.os I'.base I'.hok I'.bare fun b hb => ⟨(f3 b hb).2.2.2.1, (f3 b hb).2.1, (f3 b hb).2.2.2.2.1, (f3 b hb).2.2.2.2.2⟩
      have I8 : Inv X pins σ H' (s'.setGen s3.gens.size .finished) := inv_same I7 rfl rfl (allBare_setGen I7.bare rfl)
      exact ⟨.bl true, H', I8.kept (t' := (s'.setGen s3.gens.size .finished).toks) hk, rfl, qq⟩
    · refine seg_all_start (X := X) (fun A Q E hq => T.self A 0 _ Q E (T.keep _ _ _ st2 fun b hb o e => kp5 b o (hk3 b hb o e)) hq) ?_
      have start := gen_start (x := x) (i := i) (a := h'.objs.size) (go := go) (A := X.A.in1.in1.over (.compLoop (.GeneratorExp elt [⟨.Name x px, iter, [], 0⟩] scope gpos) 0 (.ref it) .none ge) []) (code := code) (fp := fp) (h5 := h'.push go) (tk := s3.toks + 1 + 1 + 1)
        (G := (s3.gens.push (.fresh (.compStart (.GeneratorExp elt [⟨.Name x px, iter, [], 0⟩] scope gpos) 0 (.ref it) .none ge))).setIfInBounds s3.gens.size .running) I3 S hNd hc (by rw [hge]; exact hA) hr.hd (fun b hb => ⟨f3 b hb, lt2 b hb⟩) (hns.push _) kp5
        (allBare_setGen (s := { s3 with gens := s3.gens.push (.fresh (.compStart (.GeneratorExp elt [⟨.Name x px, iter, [], 0⟩] scope gpos) 0 (.ref it) .none ge)) }) (I3.bare.push rfl) rfl) (by rw [hsz]; exact Nat.lt_succ_self _) hga (by rw [← hgo]; intro v z; cases z)
      rw [hge] at start
      have hsx : ge.scope = scope := by rw [← hge]; rfl
      have pe := he _ s3 H3 s3.heap.objs.size (cloFrom X.env.cells scope.names []) code fp hrA
      rw [hge] at pe
      exact seg_all (X := X) (B := X.A.in1.in1) (s4 := s3) (H4 := H3) (ge := ge) (fp := fp) (a := h'.objs.size) (g := s3.gens.size) (go := go) (iter := iter) (pos := gpos) (σ := σ) (Wv := Wv) (Fin := fun H' => Q (.bl true) H') hc hNd S.ix hsx S.loc S.co (by rw [← hgo]) ⟨_, _, by rw [← hgo]⟩ isg T
        (fun b hb z => by have hl := lt2 b hb; rw [← z, hsz] at hl; exact absurd (Nat.lt_of_succ_lt hl) (Nat.lt_irrefl _)) pe turn done n 0 _ _ H3 (Nat.sub_zero _) (Nat.zero_le _) start (T.keep _ _ _ st2 fun b hb o e => kp5 b o (hk3 b hb o e)) nT w0
  cases hf : codeAmong gpos ps.toList with
  | none =>
    refine wpAny_genexprCodeX hcode (cd.code hPs ht) (cd.tab hPs) hf fun c' h' tk hx hge hlt hco' _ htab' _ => ?_
    obtain ⟨o1, vs, f1, tf, fl, tg, inF, tx, tt, op, _, _, _, _, _, _, _, _, _, htr, _⟩ := hco'
    have J3 := inv_tab (more := #[rawInt gpos.line, rawInt gpos.col, .ref c']) (h' := h') (g' := s2.gens) (d' := s2.drawn) (t' := tk) I2 hP (fun b o hb e => hx b o hb e) htab'.2 I2.bare
    refine cont (.ref c') _ _ J3 ⟨⟨_, upd_same, htr⟩, fun b hb => upd_ne hb⟩ fun b hb o e => ?_
    refine hx b o (fun z => ?_) e
    have e2 := (f2 b hb).1
    rw [z, hP] at e2
    cases e2
  | some cv =>
    refine wpAny_genexprCode_hit hcode (cd.code hPs ht) hf ?_
    exact cont cv s2 H2 I2 ⟨⟨ps, hP, ht⟩, fun _ _ => rfl⟩ fun _ _ _ e => e
end
end DrG
set_option maxRecDepth 100000
set_option maxHeartbeats 4000000
/-! Lambdas with captured names and at most one default (a written int): made as values, called by a local name. -/
namespace DrL
open PySem PySem.Spec PyProof.Rows L2 LamX NdefX

/-- a lambda's words: F bears its names, cells and code (its body of statements is void); dV: its defaults -/
structure LF where
  nf : NF
  ex : Expr
  dV : Value
abbrev LF.fd (F : LF) (pm ctv : Value) : FuncData :=
  { name := "<lambda>", qualname := F.nf.qual, params := F.nf.params, body := .expr F.ex, scope := F.nf.scope, globals := mainGlobals, closure := F.nf.cl, defaults := F.dV, kwdefaults := .none, doc := .none, pyModule := pm, annotations := none, code := .ref F.nf.c, closureTuple := ctv, builtins := builtinsNs }
def LamO (f : Addr) (F : LF) : HO := .ext fun h => ∃ (od : Option Addr) (sl : Array (Option Value)) (pm ctv : Value), h.get? f = some (⟨.type "function", od, .func (F.fd pm ctv), sl⟩ : Obj)
theorem lamO_ne {f : Addr} {F : LF} (ps : Array Value) : LamO f F ≠ .tbl ps := fun z => by
  unfold LamO at z
  cases z
theorem lamO_at {P : Program} {w : World} {H : Hp} {h : Heap} {f : Addr} {F : LF} (hok : HOk P w H h) (e : H f = some (LamO f F)) : ∃ (od : Option Addr) (sl : Array (Option Value)) (pm ctv : Value), h.get? f = some (⟨.type "function", od, .func (F.fd pm ctv), sl⟩ : Obj) := by
  obtain ⟨z, _, _⟩ := hok f _ e
  exact z
/-- its defaults: none, or one int -/
def DvAt (H : Hp) (dV : Value) : Option Int → Prop
  | none => dV = .none
  | some i => ∃ T, dV = .ref T ∧ H T = some (.tup [.int i])
theorem DvAt.ext {H H' : Hp} {dV : Value} {d : Option Int} (x : DvAt H dV d) (e : ∀ b xs, H b = some (.tup xs) → H' b = some (.tup xs)) : DvAt H' dV d := by
  cases d with
  | none => exact x
  | some i => obtain ⟨T, e1, e2⟩ := x; exact ⟨T, e1, e _ _ e2⟩

section
variable {M : Model} {A : Around} {E : Value → Shared → Prop} {s : Shared} {qual : Str} {params : Arguments} {body : Expr} {scope : Scope} {env : Env} {c P : Addr} {ps : Array Value} {pos : Pos} {firstLine : Nat} {mg : Str → Option Value}
  {clos : List (Str × Addr)} {dV : Value} {Q : Value → Shared → Prop}
/-- the function object, behind its code object's making -/
theorem lam_obj {A : Around} {s2 : Shared} {code : Value} {ctv : Value} (hge0 : env.globals = mainGlobals) (hg : s2.heap.Ns mainGlobals mg) (hb : s2.heap.BuiltinsAt mg P)
    (h : Q (.ref s2.heap.objs.size) { s2 with heap := s2.heap.push { cls := .type "function", data := .func { name := "<lambda>", qualname := qual, params, body := .expr body, scope, globals := mainGlobals, closure := clos, defaults := dV, kwdefaults := .none, doc := .none, pyModule := (mg "__name__").getD .none, annotations := none, code := code, closureTuple := ctv, builtins := builtinsNs } } }) :
    wpAny M A (do
      let bi ← builtinsFor mainGlobals env.builtins
      let nm ← nsGet mainGlobals "__name__"
      let doc ← (pure Value.none : Sem Value)
      newObj (.type "function") (.func { name := "<lambda>", qualname := qual, params, body := .expr body, scope, globals := mainGlobals, closure := clos, defaults := dV, kwdefaults := .none, doc := doc, pyModule := nm.getD .none, annotations := none, code := code, closureTuple := ctv, builtins := bi })) Q E s2 := by
  obtain ⟨bm, ob, hbm, hne0, _, hneP, hbo, hcls, hdict, hdata⟩ := hb
  refine wpAny_bind (wpAny_builtinsFor hg hbm hne0 hbo hcls hdict hdata ?_)
  refine wpAny_bind (wpAny_nsGet hg ?_)
  exact wpAny_bind (wpAny_pure (wpAny_newObj_type h (by size_fits)))
/-- the function: its code object is new -/
theorem lam_tail (hcl : closureFor scope env = pure clos) (hge0 : env.globals = mainGlobals) (hg : s.heap.Ns mainGlobals mg) (hcode : env.code = .ref c) (C : PySem.W.CodeHd s.heap c P) (hP : s.heap.get? P = some (PySem.W.tabObj ps)) (ht : TriplesOk ps.toList)
    (hnf : codeAmong pos ps.toList = none) (hgP : mainGlobals ≠ P) (hb : s.heap.BuiltinsAt mg P)
    (h : ∀ c' ctv h' tk, Heap.ExtBut P s.heap h' → s.heap.objs.size ≤ c' → c' < h'.objs.size → h'.CodeRec (.ref c') qual → h'.get? P = some (PySem.W.tabObj (ps ++ #[rawInt pos.line, rawInt pos.col, .ref c'])) →
      Q (.ref h'.objs.size) { s with heap := h'.push { cls := .type "function", data := .func { name := "<lambda>", qualname := qual, params, body := .expr body, scope, globals := mainGlobals, closure := clos, defaults := dV, kwdefaults := .none, doc := .none, pyModule := (mg "__name__").getD .none, annotations := none, code := .ref c', closureTuple := ctv, builtins := builtinsNs } }, toks := tk }) :
    wpAny M A (makeTail "<lambda>" qual params (.expr body) scope env dV .none none pos firstLine) Q E s := by
  have bk : ∀ {h' : Heap}, Heap.ExtBut P s.heap h' → h'.BuiltinsAt mg P := fun {h'} hx => by
    obtain ⟨bm, ob, h1, h2, h3, h4, h5, h6⟩ := hb
    exact ⟨bm, ob, h1, h2, h3, h4, hx _ _ h4 h5, h6⟩
  unfold makeTail
  rw [hcl, hge0]
  refine wpAny_bind (wpAny_pure ?_)
  cases clos with
  | nil =>
    simp only [List.isEmpty_nil, if_true]
    refine wpAny_bind (wpAny_pure ?_)
    refine wpAny_bind (wpAny_functionCodeX hcode (C.code hP ht) (C.tab hP) hnf fun c' h' tk hx hge hlt _ hrec htb _ => ?_)
    exact lam_obj (P := P) hge0 (hg.extBut hx hgP) (bk hx) (h c' .none h' tk hx hge hlt hrec htb.2)
  | cons q r =>
    simp only [List.isEmpty_cons, Bool.false_eq_true, if_false]
    refine wpAny_bind (wpAny_newTextTuple ?_)
    have C' := C.keeps fun b o e => Heap.get?_push_of_some ({ cls := .type "tuple", data := .seq ((((q :: r).mergeSort fun a b => a.1.cps.toList ≤ b.1.cps.toList).map (Value.ref ·.2)).toArray) } : Obj) e
    refine wpAny_bind (wpAny_functionCodeX hcode (C'.code (Heap.get?_push_of_some _ hP) ht) (C'.tab (Heap.get?_push_of_some _ hP)) hnf fun c' h' tk hx hge hlt _ hrec htb _ => ?_)
    have hx' : Heap.ExtBut P s.heap h' := fun b o hb' e => hx b o hb' (Heap.get?_push_of_some _ e)
    have hge' : s.heap.objs.size ≤ c' := Nat.le_trans (by rw [Heap.size_push]; exact Nat.le_succ _) hge
    exact lam_obj (P := P) hge0 (hg.extBut hx' hgP) (bk hx') (h c' _ h' tk hx' hge' hlt hrec htb.2)
/-- .. found in the table -/
theorem lam_tailHit {cv : Value} (hcl : closureFor scope env = pure clos) (hge0 : env.globals = mainGlobals) (hg : s.heap.Ns mainGlobals mg) (hcode : env.code = .ref c) (C : PySem.W.CodeHd s.heap c P) (hP : s.heap.get? P = some (PySem.W.tabObj ps)) (ht : TriplesOk ps.toList)
    (hf : codeAmong pos ps.toList = some cv) (hb : s.heap.BuiltinsAt mg P)
    (h : ∀ (ctv : Value) (h' : Heap) (tk : Tok), (∀ b o, s.heap.get? b = some o → h'.get? b = some o) → s.heap.objs.size ≤ h'.objs.size →
      Q (.ref h'.objs.size) { s with heap := h'.push { cls := .type "function", data := .func { name := "<lambda>", qualname := qual, params, body := .expr body, scope, globals := mainGlobals, closure := clos, defaults := dV, kwdefaults := .none, doc := .none, pyModule := (mg "__name__").getD .none, annotations := none, code := cv, closureTuple := ctv, builtins := builtinsNs } }, toks := tk }) :
    wpAny M A (makeTail "<lambda>" qual params (.expr body) scope env dV .none none pos firstLine) Q E s := by
  unfold makeTail
  rw [hcl, hge0]
  refine wpAny_bind (wpAny_pure ?_)
  cases clos with
  | nil =>
    simp only [List.isEmpty_nil, if_true]
    refine wpAny_bind (wpAny_pure ?_)
    refine wpAny_bind (wpAny_functionCode_hit hcode (C.code hP ht) hf ?_)
    exact lam_obj (P := P) hge0 hg hb (h .none s.heap s.toks (fun _ _ e => e) (Nat.le_refl _))
  | cons q r =>
    simp only [List.isEmpty_cons, Bool.false_eq_true, if_false]
    refine wpAny_bind (wpAny_newTextTuple ?_)
    have kp : ∀ (oT : Obj) b o, s.heap.get? b = some o → (s.heap.push oT).get? b = some o := fun oT b o e => Heap.get?_push_of_some _ e
    refine wpAny_bind (wpAny_functionCode_hit hcode ((C.keeps (kp _)).code (Heap.get?_push_of_some _ hP) ht) hf ?_)
    exact lam_obj (P := P) hge0 (hg.push _) (hb.keeps (kp _)) (h _ _ s.toks (kp _) (by rw [Heap.size_push]; exact Nat.le_succ _))
end

section
variable {X : Cx} {pins : List (Addr × Obj)} {σ : L2.St} {H : Hp} {s : Shared}
/-- a lambda's object just made is known from now on -/
theorem inv_lam {F : LF} {o : Obj} {t' : Nat} {pm ctv : Value} (I : Inv X pins σ H s) (ho : o = { cls := .type "function", data := .func (F.fd pm ctv) }) :
    Inv X pins σ (upd H s.heap.objs.size (LamO s.heap.objs.size F)) { s with heap := s.heap.push o, toks := t' } := by
  subst ho
  have e : (s.heap.push ({ cls := .type "function", data := .func (F.fd pm ctv) } : Obj)).get? s.heap.objs.size = some ({ cls := .type "function", data := .func (F.fd pm ctv) } : Obj) := Heap.get?_push_size _ rfl
  exact I.laid (a := s.heap.objs.size) (fun b u q => Heap.get?_push_of_some _ q) (Nat.le_refl _) ⟨⟨_, _, pm, ctv, e⟩, ⟨_, e⟩, fun h1 h2 ⟨od, sl, p, t, z⟩ st => ⟨od, sl, p, t, st _ z⟩⟩
/-- the lambda's object is made -/
theorem lam_made {T : List (Addr × Str)} {c P : Addr} {params : Arguments} {body : Expr} {scope : Scope} {pos : Pos} {dV : Value} {E : Value → Shared → Prop} {Q : Value → Shared → Prop} (I : Inv X pins σ H s) (TB : LamX.TabB X.base X.mg c P) (hcode : X.env.code = .ref c)
    (hm : (P, X.env.qual ++ "<lambda>") ∈ T) (hu : ∀ p ∈ T, p.1 = P → p.2 = X.env.qual ++ "<lambda>") (hT : Tabs T H) (hfree : ∀ y ∈ scope.names, y.2 = .free → ∃ c, X.env.cells.lookup y.1 = some c)
    (h : ∀ (f c' : Addr) (H1 : Hp) (s' : Shared), Inv X pins σ H1 s' → ExtN H H1 → (∀ b, H1 b = Option.none → H b = Option.none) → Tabs T H1 → H f = none → H1 f = some (LamO f ⟨⟨"<lambda>", X.env.qual ++ "<lambda>", params, [], scope, cloFrom X.env.cells scope.names [], c'⟩, body, dV⟩) → H1 c' = some (CodeO c' (X.env.qual ++ "<lambda>")) → Q (.ref f) s') :
    wpAny (model X.prog X.w) X.A (makeTail "<lambda>" (X.env.qual ++ "<lambda>") params (.expr body) scope X.env dV .none none pos pos.line) Q E s := by
  obtain ⟨ps, hP, ht, ha⟩ := hT _ hm
  have bP : s.heap.BuiltinsAt X.mg P := TB.bm.keeps I.bk
  have hP' : s.heap.get? P = some { cls := .none, data := .fields ps } := I.hok P _ hP
  have eqN : ∀ {H : Hp} {a b : Addr} {o : HO}, upd H a o b = Option.none → H b = Option.none := fun {H a b o} e => NdefX.upd_none e
  cases hc : codeAmong pos ps.toList with
  | none =>
    refine lam_tail (mg := X.mg) (c := c) (P := P) (ps := ps) (closure_ok hfree) I.ok.glob (I.mod.glob.keeps I.bk) hcode (TB.code.keeps I.bk) hP' ht hc TB.gP bP fun c' ctv h' tk hx hge hlt hrec htb => ?_
    obtain ⟨c2, oc, vs, t, e2, hoc, hd, hv⟩ := hrec
    cases e2
    have nC : H c' = none := I.hok.fresh hge
    have I1 := inv_table (t' := tk) (more := #[rawInt pos.line, rawInt pos.col, .ref c']) (h' := h') I hP (fun b o hb e => hx b o hb e) htb hge ⟨oc, vs, t, hoc, hd, hv⟩
    have hE : ExtN H (upd (upd H P (.tbl (ps ++ #[rawInt pos.line, rawInt pos.col, .ref c']))) c' (CodeO c' (X.env.qual ++ "<lambda>"))) := fun b o e n => by
      rw [upd_ne (ne_of_none e nC), upd_ne (fun z => n ps (Option.some.inj (e.symm.trans (by rw [z]; exact hP))))]
      exact e
    have eL : (ps ++ #[rawInt pos.line, rawInt pos.col, .ref c']).toList = ps.toList ++ [rawInt pos.line, rawInt pos.col, .ref c'] := by simp
    have T1 : Tabs T (upd (upd H P (.tbl (ps ++ #[rawInt pos.line, rawInt pos.col, .ref c']))) c' (CodeO c' (X.env.qual ++ "<lambda>"))) := fun p hp => by
      by_cases hb : p.1 = P
      · rw [hu p hp hb, hb]
        refine ⟨_, by rw [upd_ne (ne_of_none hP nC), upd_same], by rw [eL]; exact PySem.TriplesOk_snoc _ _ _ _ ht, fun p' cv hcv => ?_⟩
        rw [eL] at hcv
        rcases among_app _ ht hcv with z | z
        · obtain ⟨c0, e1, e2⟩ := ha p' cv z
          exact ⟨c0, e1, hE _ _ e2 codeO_ne⟩
        · exact ⟨c', z, upd_same⟩
      · obtain ⟨ps', a1, a2, a3⟩ := hT p hp
        refine ⟨ps', by rw [upd_ne (ne_of_none a1 nC), upd_ne hb]; exact a1, a2, fun p' cv hcv => ?_⟩
        obtain ⟨c0, e1, e2⟩ := a3 p' cv hcv
        exact ⟨c0, e1, hE _ _ e2 codeO_ne⟩
    have nF := I1.hok.fresh (Nat.le_refl _)
    have I2 := inv_lam (F := ⟨⟨"<lambda>", X.env.qual ++ "<lambda>", params, [], scope, cloFrom X.env.cells scope.names [], c'⟩, body, dV⟩) (t' := tk) (pm := (X.mg "__name__").getD .none) (ctv := ctv) I1 rfl
    refine h h'.objs.size c' _ _ I2 (fun b o e n => ?_) (fun b e => eqN (eqN (eqN e))) (T1.ext fun b o e => ?_) (I.hok.fresh (Nat.le_trans hge (Nat.le_of_lt hlt))) upd_same ?_
    · exact (upd_ne (ne_of_none (hE b o e n) nF)).trans (hE b o e n)
    · exact (upd_ne (ne_of_none e nF)).trans e
    · exact (upd_ne (Nat.ne_of_lt hlt)).trans upd_same
  | some cv =>
    obtain ⟨c', e, hco⟩ := ha pos cv hc
    subst e
    refine lam_tailHit (mg := X.mg) (c := c) (P := P) (ps := ps) (closure_ok hfree) I.ok.glob (I.mod.glob.keeps I.bk) hcode (TB.code.keeps I.bk) hP' ht hc bP fun ctv h' tk hx hsz => ?_
    have I1 : Inv X pins σ H { s with heap := h', toks := tk } := I.kept hx
    have nF : H h'.objs.size = none := I1.hok.fresh (Nat.le_refl _)
    have I2 := inv_lam (F := ⟨⟨"<lambda>", X.env.qual ++ "<lambda>", params, [], scope, cloFrom X.env.cells scope.names [], c'⟩, body, dV⟩) (t' := tk) (pm := (X.mg "__name__").getD .none) (ctv := ctv) I1 rfl
    refine h h'.objs.size c' _ _ I2 (fun b o e n => ?_) (fun b e => eqN e) (hT.ext fun b o e => ?_) nF upd_same ?_
    · exact (upd_ne (ne_of_none e nF)).trans e
    · exact (upd_ne (ne_of_none e nF)).trans e
    · exact (upd_ne (ne_of_none hco nF)).trans hco
end

/-! ### the expression -/
def tLamV (T : List (Addr × Str)) (d : Option Int) (mk : Addr → Value → LF) : TE := fun σ H Q => Tabs T H ∧ ∀ (f c' : Addr) (dV : Value) (H1 : Hp), ExtN H H1 → (∀ b, H1 b = Option.none → H b = Option.none) → Tabs T H1 → H f = none → H1 f = some (LamO f (mk c' dV)) → H1 c' = some (CodeO c' (mk c' dV).nf.qual) → DvAt H1 dV d → Q (.ref f) H1
section
variable {X : Cx}
/-- lambda: e -/
theorem pe_lam0 {T : List (Addr × Str)} {c P : Addr} {params : Arguments} {body : Expr} {scope : Scope} {pos : Pos} (TB : LamX.TabB X.base X.mg c P) (hcode : X.env.code = .ref c) (hm : (P, X.env.qual ++ "<lambda>") ∈ T) (hu : ∀ p ∈ T, p.1 = P → p.2 = X.env.qual ++ "<lambda>")
    (hfree : ∀ y ∈ scope.names, y.2 = .free → X.env.scope.names.lookup y.1 = some .cell ∨ X.env.scope.names.lookup y.1 = some .free) (hdef : defaultsOf params X.env = ([], [])) :
    PE X (.Lambda params body scope pos) (tLamV T none fun c' dV => ⟨⟨"<lambda>", X.env.qual ++ "<lambda>", params, [], scope, cloFrom X.env.cells scope.names [], c'⟩, body, dV⟩) := by
  refine ⟨fun pins s σ H Q I h => ?_⟩
  obtain ⟨hT, h⟩ := h
  have hfr : ∀ y ∈ scope.names, y.2 = .free → ∃ c, X.env.cells.lookup y.1 = some c := fun y hy e => (hfree y hy e).elim (fun z => I.ok.has _ (.inl z)) fun z => I.ok.has _ (.inr z)
  refine PySem.W.kla_eval hdef ?_
  rw [makeFunction_eq]
  simp only [List.zip_nil_right, List.filterMap_nil, List.isEmpty_nil, if_true, pure_bind]
  exact lam_made I TB hcode hm hu hT hfr fun f c' H1 s' I1 eN nn T1 f0 f1 c1 => ⟨.ref f, H1, I1, rfl, h f c' .none H1 eN nn T1 f0 f1 c1 rfl⟩
/-- lambda a=i: e -/
theorem pe_lam1 {T : List (Addr × Str)} {c P : Addr} {params : Arguments} {body : Expr} {scope : Scope} {pos dp : Pos} {i : Int} {j : Nat} (TB : LamX.TabB X.base X.mg c P) (hcode : X.env.code = .ref c) (hm : (P, X.env.qual ++ "<lambda>") ∈ T) (hu : ∀ p ∈ T, p.1 = P → p.2 = X.env.qual ++ "<lambda>")
    (hfree : ∀ y ∈ scope.names, y.2 = .free → X.env.scope.names.lookup y.1 = some .cell ∨ X.env.scope.names.lookup y.1 = some .free) (hdef : defaultsOf params X.env = ([eval (.Constant (.int i) j dp) X.env], [])) :
    PE X (.Lambda params body scope pos) (tLamV T (some i) fun c' dV => ⟨⟨"<lambda>", X.env.qual ++ "<lambda>", params, [], scope, cloFrom X.env.cells scope.names [], c'⟩, body, dV⟩) := by
  refine ⟨fun pins s σ H Q I h => ?_⟩
  obtain ⟨hT, h⟩ := h
  have hfr : ∀ y ∈ scope.names, y.2 = .free → ∃ c, X.env.cells.lookup y.1 = some c := fun y hy e => (hfree y hy e).elim (fun z => I.ok.has _ (.inl z)) fun z => I.ok.has _ (.inr z)
  rw [arm_eval_Lambda, hdef]
  show wpAny _ X.A (do
    let dv ← evalAll [eval (.Constant (.int i) j dp) X.env]
    let kdv ← holding dv (evalAllOpt [])
    makeFunction "<lambda>" (X.env.qual ++ "<lambda>") params (.expr body) scope X.env dv kdv [] pos pos.line) _ _ s
  refine wpAny_bind ?_
  show wpAny _ X.A (do
    let v ← eval (.Constant (.int i) j dp) X.env
    let r ← holding [v] (evalAll [])
    pure (v :: r)) _ _ s
  have pc : PE X (.Constant (.int i) j dp) (tC (.int i)) := pe_int
  refine wpAny_bind (thn (pc.run pins s σ H (fun v H1 => v = .int i ∧ H1 = H) I ⟨rfl, rfl⟩) fun u s1 ⟨v, H1, I1, r1, ev, eH⟩ => ?_)
  subst ev eH
  refine wpAny_bind (wpAny_holding (wpAny_pure (wpAny_pure ?_)))
  refine wpAny_bind (wpAny_holding (wpAny_pure ?_))
  rw [makeFunction_eq]
  simp only [List.zip_nil_right, List.filterMap_nil, List.isEmpty_nil, List.isEmpty_cons, Bool.false_eq_true, if_false, if_true, pure_bind]
  refine wpAny_bind (wpAny_newTextTuple ?_)
  have nT : H1 s1.heap.objs.size = none := I1.hok.fresh (Nat.le_refl _)
  have I2 : Inv X pins σ (upd H1 s1.heap.objs.size (.tup [.int i])) { s1 with heap := s1.heap.push { cls := .type "tuple", data := .seq [u].toArray } } :=
    I1.laid (t' := s1.toks) (fun b o e => Heap.get?_push_of_some _ e) (Nat.le_refl _) ⟨by show 1 ≤ sizeLine; decide, [u], .cons r1 .nil, ⟨_, Heap.get?_push_size _ rfl, rfl, _, rfl⟩⟩
  have e0 : ∀ b o, H1 b = some o → upd H1 s1.heap.objs.size (.tup [.int i]) b = some o := fun b o e => by
    rw [upd_ne (ne_of_none e nT)]; exact e
  refine lam_made I2 TB hcode hm hu (hT.ext e0) hfr fun f c' H2 s' J eN nn T1 f0 f1 c1 => ⟨.ref f, H2, J, rfl, h f c' _ H2 (fun b o e n => eN b o (e0 b o e) n) (fun b e => NdefX.upd_none (nn b e)) T1 (NdefX.upd_none f0) f1 c1 ⟨_, rfl, eN _ _ upd_same (fun ps z => by cases z)⟩⟩
end

/-! ### the promise -/
structure LOk (P : Program) (w : World) (K : PySem.W.Frag) (mg : Str → Option Value) (base : Heap) (CX : CXT) (k : Nat) (f : Addr) (F : LF) (d : Option Int) (fr : List Str) (sp : List (Option V) → Hp → VK → XK → Prop) : Prop where
  run : ∀ (A : Around) (outer : List Env) (s : Shared) (H : Hp) (ws : List (Option V)) (Q : VK) (E : XK), Room k A → Env0 P w K mg base A outer s H → H f = some (LamO f F) → H F.nf.c = some (CodeO F.nf.c F.nf.qual) → DvAt H F.dV d →
    CellsAt F.nf.cl fr ws s.heap H → sp ws H Q E → codeAny (model P w) A (.call (.ref f) ⟨[], []⟩) (CR CX outer P w H s Q E) s
section
variable {CX : CXT} {P : Program} {w : World} {K : PySem.W.Frag} {mg : Str → Option Value} {base : Heap} {N ps fr : List Str} {F : LF} {f : Addr} {k j : Nat} {d : Option Int} {sp : List (Option V) → Hp → VK → XK → Prop}
/-- the parameters' values -/
def dvs : Option Int → List V
  | none => []
  | some i => [.int i]
theorem lok_of (S : NScope N ps fr F.nf.scope) (hps : ps.length = (dvs d).length)
    (hb0 : d = none → ∀ pm ctv, bindArgs ({ nf := F.nf, ex := F.ex, dV := .none : LF }.fd pm ctv) ⟨[], []⟩ = pure [])
    (hb1 : ∀ i, d = some i → ∀ (T : Addr) (pm ctv : Value), ∃ kk, bindArgs ({ nf := F.nf, ex := F.ex, dV := .ref T : LF }.fd pm ctv) ⟨[], []⟩ = seqItems? (.ref T) >>= kk ∧ ∀ its : List Value, its.length = 1 → kk (some its.toArray) = pure (ps.zip its))
    (hbody : ∀ (A : Around) (outer : List Env) (s : Shared) (H : Hp) (ws : List (Option V)) (Q : VK) (E : XK), Room k (A.deeper (envF F.nf f s.heap.objs.size)) → ws.length = fr.length → sp ws H Q E →
      ∃ t, PE (ncx CX P w K mg base N F.nf f A outer s H E) F.ex t ∧ t (startF N (dvs d) ws) H Q) :
    LOk P w K mg base CX (k + 1) f F d fr sp := by
  refine ⟨fun A outer s H ws Q E hr e0 hf hc hd C hsp => ?_⟩
  have lim : s.heap.NoLimit := e0.mod.nolimit.keeps fun b o e => (e0.bs b o e).1
  obtain ⟨od, sl, pm, ctv, ho⟩ := lamO_at e0.hok hf
  refine PySem.W.kla_callFunE hr.depth ho rfl S.co S.gen rfl (codeO_at e0.hok hc) ?_
  have go : ∀ us : List Value, Vals (dvs d) us → wpAny (model P w) A.in1 (newFunctionEnv F.nf.scope mainGlobals F.nf.cl (ps.zip us) (F.nf.qual ++ ".<locals>.") (some f) (.ref F.nf.c) none builtinsNs)
      (fun env s₂ => s₂.heap.NoLimit ∧ codeAny (model P w) A (.expr F.ex env) (CR CX outer P w H s Q E) s₂) (fun e s' => CR CX outer P w H s Q E (.error e) s') s := by
    intro us rv
    refine wpAny_newFunctionEnv S.nocell (fun ⟨n, _⟩ hy => S.par n (List.of_mem_zip hy).1) (fun h₁ hns hsb => ⟨lim.fresh _ hsb, ?_⟩) S.kind
    have kp : ∀ b o, s.heap.get? b = some o → h₁.get? b = some o := fun b o e => hsb.extBut b o (Nat.ne_of_lt (Heap.lt_size e)) (Heap.get?_push_of_some _ e)
    show codeAny _ _ (.expr F.ex (envF F.nf f s.heap.objs.size)) _ _
    obtain ⟨t, ht, hq⟩ := hbody A outer s H ws Q E (hr.deeper _) C.len hsp
    have I : Inv (ncx CX P w K mg base N F.nf f A outer s H E) [] (startF N (dvs d) ws) H { s with heap := h₁, toks := s.toks + (ps.zip us).length } := inv_startN S hr.hd e0 hps.symm rv C hns kp
    refine PySem.W.kla_codeExpr (wpAny_mono (ht.run [] _ _ H Q I hq) (fun v s' hs => ?_) fun e s' hs => hs)
    obtain ⟨v', H', J, rv', q⟩ := hs
    exact ⟨v', H', J.os, J.bare, J.base, J.hok, rv', q⟩
  cases d with
  | none =>
    have hdV : F.dV = .none := hd
    obtain ⟨nf, ex, dV⟩ := F
    subst hdV
    have e1 := hb0 rfl pm ctv
    rw [e1]
    refine wpAny_pure ?_
    have g := go [] .nil
    have z : ps.zip ([] : List Value) = [] := by simp
    rw [z] at g
    exact g
  | some i =>
    obtain ⟨T, hdV, hT⟩ := hd
    obtain ⟨nf, ex, dV⟩ := F
    have hdV : dV = .ref T := hdV
    subst hdV
    obtain ⟨kk, e1, e2⟩ := hb1 i rfl T pm ctv
    rw [e1]
    obtain ⟨_, its, rv, oT, hoT, _, n, hdT⟩ := e0.hok T _ hT
    refine wpAny_bind (wpAny_seqItems hoT hdT ?_)
    have hl : its.length = 1 := rv.length.symm
    rw [e2 its hl]
    exact wpAny_pure (go its rv)
end

/-! ### the call -/
/-- the slot holds the kind n of the lambdas mk n -/
def tCallV (n : Nat) (mk : Nat → Addr → Value → LF) (d : Nat → Option Int) (i : Nat) (js : Nat → List Nat) (sp : Nat → List (Option V) → Hp → VK → XK → Prop) (E : L2.St → XK) : TE := fun σ H Q => ∃ (m : Nat) (f c' : Addr) (dV : Value), m < n ∧ σ[i]? = some (some (.ref f)) ∧
  H f = some (LamO f (mk m c' dV)) ∧ H (mk m c' dV).nf.c = some (CodeO (mk m c' dV).nf.c (mk m c' dV).nf.qual) ∧ DvAt H (mk m c' dV).dV (d m) ∧ sp m ((js m).map (slotAt σ)) H Q (E σ)
section
variable {X : Cx} {n i k j : Nat} {mk : Nat → Addr → Value → LF} {d : Nat → Option Int} {js : Nat → List Nat} {fr : Nat → List Str} {cl : Nat → List (Str × Addr)} {sp : Nat → List (Option V) → Hp → VK → XK → Prop} {E : L2.St → XK} {x : Str} {p pos : Pos}
theorem pe_callV (Fn : ∀ m f c' dV, m < n → LOk X.prog X.w X.K X.mg X.base (L2.CX X.prog X.w) k f (mk m c' dV) (d m) (fr m) (sp m)) (hcl : ∀ m c' dV, m < n → (mk m c' dV).nf.cl = cl m) (cp : ∀ m, m < n → X.Ok → Caps X (cl m) (fr m) (js m)) (hr : Room j X.A) (hk : k ≤ j)
    (hx : ∀ σ, PassesAt (L2.CX X.prog X.w) X σ (E σ)) (hN : X.N[i]? = some x) (hv : Vis X.env.scope x) (hd : (x == ("__debug__" : Str)) = false := by decide) (hcd : (x == ("__classdict__" : Str)) = false := by decide) :
    PE X (.Call (.Name x p) [] [] pos) (tCallV n mk d i js sp E) := by
  refine ⟨fun pins s σ H Q I h => ?_⟩
  obtain ⟨m, f, c', dV, hm, hs, hf, hc, hdv, q⟩ := h
  refine wpAny_Call_Name_kw (thn ((pe_var (pos := p) hN hv hd hcd).run pins s σ H (fun v H1 => v = .ref f ∧ H1 = H) I ⟨.ref f, hs, rfl, rfl⟩) fun u s1 ⟨v, H1, I1, r1, q1⟩ => ?_)
  obtain ⟨ev, eH⟩ := q1
  subst ev
  rw [eH] at I1
  obtain rfl : u = Value.ref f := r1
  obtain ⟨od, sl, pm, ctv, ho⟩ := lamO_at I1.hok hf
  refine PySem.W.callWith_F0 (first := []) ⟨_, od, _, sl, ho⟩ ?_
  show wpAny _ _ (call (.ref f) []) _ _ _
  have C : CellsAt (mk m c' dV).nf.cl (fr m) ((js m).map (slotAt σ)) s1.heap H := by
    rw [hcl m c' dV hm]
    exact cells_of I1 (cp m hm I1.ok)
  refine wpAny_call (codeAny_mono ((Fn m f c' dV hm).run X.A X.stack s1 H _ Q (E σ) (hr.mono hk) I1.env0 hf hc hdv C q) fun r s' hq => ?_)
  cases r with
  | error e => exact hx σ pins H s1 e s' I1 hq
  | ok fl =>
    cases fl with
    | ret u => exact I1.after hq
    | next => exact False.elim hq
    | brk => exact False.elim hq
    | cont => exact False.elim hq
end
end DrL
set_option maxRecDepth 100000
set_option maxHeartbeats 4000000
/-! Small rules: enumerate(tuple), zip of tuples walked, o.f as a target, tuple * 1, sorted(tuples of ints, reverse=True), X() of an own exception. -/
namespace L2
open PySem PySem.Spec PyProof.Rows

/-! ### enumerate(tuple) -/
def IteT (K : PySem.W.Frag) (a : Addr) : It :=
  ⟨fun i H => ∃ (xs : List V) (x : V), SqT K H a xs ∧ xs[i]? = some x, fun i H v H' => ∃ T x, v = .ref T ∧ H T = none ∧ H' = upd H T (.tup [.int (i : Nat), x]) ∧ ∀ xs, SqT K H a xs → xs[i]? = some x, fun i H => ∃ xs : List V, SqT K H a xs ∧ xs.length ≤ i⟩
theorem SqT.rd {K : PySem.W.Frag} {H : Hp} {a : Addr} {xs : List V} (h : SqT K H a xs) (hk : K.lookup a = none) : H a ≠ none := by
  rcases h with (h | ⟨o, h⟩) | ⟨o, its, n, h, _⟩
  · rw [h]; simp
  · rw [h]; simp
  · rw [hk] at h; cases h
theorem turn_enumT {P : Program} {w : World} {K : PySem.W.Frag} {elts : List Expr} {kk : Nat} {tpos : Pos} (a e it : Addr) (hea : e ≠ a) (hia : it ≠ a) :
    Turn P w K (.Tuple elts kk tpos) (IteT K a) [e, it] e (fun i h => (∃ old, IsEnum h e it ((i : Nat) : Int) old) ∧ h.IsTupleIter it a i ∧ e ≠ it) where
  mem := by simp
  obj := fun i h st b hb => by
    obtain ⟨⟨old, he⟩, ⟨o, ho, hc, hd⟩, _⟩ := st
    rcases (show b = e ∨ b = it by simpa using hb) with z | z
    · rw [z]; exact ⟨_, he, fun v q => nomatch q⟩
    · rw [z]; exact ⟨o, ho, fun v q => by rw [hd] at q; cases q⟩
  keep := fun i h h' st k => let ⟨⟨old, he⟩, hi, hne⟩ := st; ⟨⟨old, k e (by simp) _ he⟩, hi.at fun o q => k it (by simp) o q, hne⟩
  item := by
    intro X hP hw hK hc i pins s σ H E I hf st hg
    subst hP hw hK
    obtain ⟨⟨old, he⟩, hit, hne⟩ := st
    obtain ⟨xs, x, hq, hx⟩ := hg
    obtain ⟨its, rv, p, hz⟩ := I.tuple hq
    obtain ⟨u, hu, ru⟩ := rv.get hx
    have hel : e < s.heap.objs.size := Heap.lt_size he
    have hil : it < s.heap.objs.size := by obtain ⟨_, q, _⟩ := hit; exact Heap.lt_size q
    have hlt : i < its.toArray.size := by
      have := (List.getElem?_eq_some_iff.mp hu).1
      simpa using this
    have D := Draws.tuple (prog := X.prog) (w := X.w) (A := X.A.in1) (I.ok.hd hc) it a (Ne.symm hia) its.toArray
    refine wpAny_pyNext_enum_itemD D he ⟨hit, (show s.heap.IsTuple a its.toArray from p)⟩ hlt hne (fun hm => ?_) fun y h' tk hy ho hs' hT hsz hk => ?_
    · rcases (show e = it ∨ e = a by simpa using hm) with z | z
      · exact hne z
      · exact hea z
    have ey : y = u := by
      have hy : its.toArray[i]? = some y := hy
      rw [List.getElem?_toArray, hu] at hy
      cases hy; rfl
    subst ey
    refine ⟨_, rfl, wpAny_letOwnedTupleGo_enum (s := { s with heap := h', toks := tk + 1 }) ho fun h'' he' sb => ?_⟩
    have hT2 : h''.get? s.heap.objs.size = some { cls := .type "tuple", data := .seq #[.int i tk, y] } := (sb.2 _ (Nat.ne_of_gt hel)).trans hT
    have new : ObjOk X.prog X.w (upd H s.heap.objs.size (.tup [.int (i : Nat), x])) h'' s.heap.objs.size (.tup [.int (i : Nat), x]) :=
      ⟨by show 2 ≤ sizeLine; decide, [.int i tk, y], .cons ⟨_, rfl⟩ (.cons ru .nil), ⟨_, hT2, rfl, _, rfl⟩⟩
    have I1 : Inv X pins σ (upd H s.heap.objs.size (.tup [.int (i : Nat), x])) { s with heap := h'', toks := tk + 1 } :=
      I.turnedNew (ch := [e, it]) (fun b ob hb q => (sb.2 b (fun z => hb (by simp [z]))).trans (hk b ob (fun z => hb (by simp [z])) (fun z => hb (by simp [z])) q)) hf (Nat.le_refl _) new
    refine ⟨.ref s.heap.objs.size, _, I1, rfl, ⟨_, x, rfl, I.hok.fresh (Nat.le_refl _), rfl, fun ys hy => by rw [I.tuple_inj hy hq]; exact hx⟩, ⟨⟨y, ?_⟩, hs'.1.at fun o q => (sb.2 it (Ne.symm hne)).trans q, hne⟩, fun b hb => ?_⟩
    · rw [show ((i + 1 : Nat) : Int) = (i : Int) + 1 by omega]; exact he'
    · have hb' : b < s.heap.objs.size := by
        rcases (show b = e ∨ b = it by simpa using hb) with z | z
        · rw [z]; exact hel
        · rw [z]; exact hil
      rw [upd_ne (Nat.ne_of_lt hb')]
      exact (hf b hb).1
  done := by
    intro X hP hw hK hc i pins s σ H E I hf st hg
    subst hP hw hK
    obtain ⟨⟨old, he⟩, hit, hne⟩ := st
    obtain ⟨xs, hq, hx⟩ := hg
    obtain ⟨its, rv, p, hz⟩ := I.tuple hq
    obtain ⟨f0, f1, f2, f3, f4, f5⟩ := hf it (by simp)
    have hl := rv.length
    have D := Draws.tuple (prog := X.prog) (w := X.w) (A := X.A.in1) (I.ok.hd hc) it a (Ne.symm hia) its.toArray
    have hend : ∀ {Q : Option Value → Shared → Prop}, (∀ h', Heap.ExtBut it s.heap h' → Q none { s with heap := h' }) → wpAny (model X.prog X.w) X.A (pyNext (.ref e)) Q E s := by
      intro Q hQ
      have hT : s.TypeIs (.ref e) "enumerate" := ⟨_, he, rfl⟩
      unfold pyNext
      refine wpAny_bind (wpAny_attempt (wpAny_callSpecial?_slot (name := Str.ofString "__next__") hT F.slot_enumerate_next (wpAny_call_entry F.slot_enumerate_next hT F.entry_enumerate_next ?_ (F.args_enumerate_next_1 _))))
      show wpAny _ _ (field (.ref e) 2 >>= _) _ _ _
      refine wpAny_bind (wpAny_field he rfl (x := .ref it) rfl ?_)
      refine wpAny_bind (wpAny_nextOf_tuple_end (I.ok.hd hc) hit (show s.heap.IsTuple a its.toArray from p) (by simp; omega) fun h' x he' hx' => ?_)
      obtain ⟨o, ho, hcl⟩ := hx'
      exact wpAny_bind (wpAny_isInstance (T := "StopIteration") (b := true) ⟨_, ho, hcl⟩ isSubtype_stop (wpAny_pure (hQ h' he')))
    exact hend fun h' eb => ⟨rfl, I.turned (t' := s.toks) (fun b o hb q => eb b o hb q) f0 f1 f3 f4 f5⟩
  self := fun A i s Q E st h => let ⟨⟨_, he⟩, _⟩ := st; wpAny_pyIter_enum he h
end L2

namespace L2
open PySem PySem.Spec PyProof.Rows
open AutoSeq1 (wpAny_loadPart')
theorem meets_enumT {l : Addr} {items : Array Value} {o : Obj} {H : Heap → Prop} (B : Begins (.ref l) o H) :
    Meets (Builtin.«enumerate.__new__» ⟨[.type "enumerate", .ref l], []⟩) (fun _ R s => H s.heap ∧
      R (.ok (.ret (.ref (s.heap.push o).objs.size))) { s with heap := (s.heap.push o).push { cls := .type "enumerate", data := .fields #[.none, .bool false, .ref s.heap.objs.size, rawInt 0, .none, .none] } }) :=
  .of_wp fun prog w A R s h => by
    obtain ⟨hp, g, d, tk, os⟩ := s
    obtain ⟨h1, h⟩ := h
    have hsub := sub_enumerate
    have q1 : ∀ {A' : Around} {E : Value → Shared → Prop} {Q : Value → Shared → Prop}, Q (.ref hp.objs.size) ⟨hp.push o, g, d, tk, os⟩ → wpAny (model prog w) A' (pyIter (.ref l)) Q E ⟨hp, g, d, tk, os⟩ :=
      fun q => B.iter prog w _ _ ⟨hp, g, d, tk, os⟩ _ h1 q
    wp_walk using q1
    refine wpAny_stack_any fun st => wpAny_pure ?_
    split
    · rename_i c _ _ _ _ _
      cases (c == Value.type "enumerate") <;> (wp_walk using q1; exact ⟨_, rfl, h⟩)
    · wp_walk using q1
      exact ⟨_, rfl, h⟩
def iEnumT (K : PySem.W.Frag) (ta : TA) : TI := fun σ H R => ta σ H fun vs H1 => ∃ a xs, vs = [.ref a] ∧ SqT K H1 a xs ∧ R (IteT K a) H1
theorem pi_enumT {X : Cx} {e : Expr} {ta : TA} {p pos tpos : Pos} {elts : List Expr} {kk : Nat} (hg : Gl X "enumerate") (hm : X.mg "enumerate" = none) (ha : PA X [e] ta) (hs : starEach [e] X.env = [(false, eval e X.env)] := by rfl) :
    PI X (.Tuple elts kk tpos) (.Call (.Name "enumerate" p) [e] [] pos) (iEnumT X.K ta) := by
  refine ⟨fun pins s σ H R I h => ?_⟩
  refine Call_ (ld_blt I hg hm boot_enumerate (PyProof.Rows.callWith_type1 (thn (ha.run pos pins s σ H _ I h) fun us s1 ⟨vs, H1, I1, r1, q1⟩ => ?_) hs rfl))
  obtain ⟨a, xs, ex, hq, q⟩ := q1
  subst ex
  cases r1 with
  | cons r rr =>
    cases rr
    cases r
    obtain ⟨its, rv, p', hz⟩ := I1.tuple hq
    have hal : a < s1.heap.objs.size := p'.lt
    have B := begins_tuple a its.toArray
    refine callType_new F.called_enumerate (by decide) (F.typeCall_enumerate_1 _) (F.newCall_enumerate_1 _) (fun obj => F.args_object_init_2 obj _) F.entry_enumerate_new (meets_enumT (items := its.toArray) B) ⟨p', ?_⟩
    have hz1 : (s1.heap.push { cls := .type "tuple_iterator", data := .fields #[.ref a, .int 0 0] }).objs.size = s1.heap.objs.size + 1 := Heap.size_push ..
    show _ ∧ _
    rw [hz1]
    have he : IsEnum ((s1.heap.push { cls := .type "tuple_iterator", data := .fields #[.ref a, .int 0 0] }).push { cls := .type "enumerate", data := .fields #[.none, .bool false, .ref s1.heap.objs.size, rawInt 0, .none, .none] }) (s1.heap.objs.size + 1) s1.heap.objs.size 0 .none := by
      have z := Heap.get?_push_size (s1.heap.push { cls := .type "tuple_iterator", data := .fields #[.ref a, .int 0 0] }) (o := { cls := .type "enumerate", data := .fields #[.none, .bool false, .ref s1.heap.objs.size, rawInt 0, .none, .none] }) rfl
      rw [hz1] at z; exact z
    have hit : ((s1.heap.push { cls := .type "tuple_iterator", data := .fields #[.ref a, .int 0 0] }).push { cls := .type "enumerate", data := .fields #[.none, .bool false, .ref s1.heap.objs.size, rawInt 0, .none, .none] }).IsTupleIter s1.heap.objs.size a 0 :=
      ⟨_, Heap.get?_push_of_some _ (Heap.get?_push_size _ rfl), rfl, rfl⟩
    have hk : ∀ b o, s1.heap.get? b = some o → ((s1.heap.push { cls := .type "tuple_iterator", data := .fields #[.ref a, .int 0 0] }).push { cls := .type "enumerate", data := .fields #[.none, .bool false, .ref s1.heap.objs.size, rawInt 0, .none, .none] }).get? b = some o := fun b o x => Heap.get?_push_of_some _ (Heap.get?_push_of_some _ x)
    refine ⟨⟨_, he, rfl⟩, wpAny_pyIter_enum he ?_⟩
    have I2 := I1.kept (t' := s1.toks) hk
    refine ⟨s1.heap.objs.size + 1, [s1.heap.objs.size + 1, s1.heap.objs.size], _, _, H1, rfl, I2, turn_enumT a (s1.heap.objs.size + 1) s1.heap.objs.size (Nat.ne_of_gt (Nat.lt_succ_of_lt hal)) (Nat.ne_of_gt hal), ⟨⟨.none, he⟩, hit, Nat.succ_ne_self _⟩, fun b hb => ?_, q⟩
    have hle : s1.heap.objs.size ≤ b := by
      rcases (show b = s1.heap.objs.size + 1 ∨ b = s1.heap.objs.size by simpa using hb) with z | z
      · rw [z]; exact Nat.le_add_right _ _
      · rw [z]; exact Nat.le_refl _
    exact I1.fpOk hle (I1.hok.fresh hle)
theorem walk_enumT {K : PySem.W.Frag} {a : Addr} {xs : List V} : Walk (IteT K a) xs.length (fun H => SqT K H a xs) (YPair (fun i => some (.int (i : Nat))) (fun i => xs[i]?)) := by
  refine ⟨fun i _ hi q => ⟨xs, xs[i], q, List.getElem?_eq_getElem hi⟩, fun _ q => ⟨xs, q, Nat.le_refl _⟩, fun i H v H' _ q y => ?_⟩
  obtain ⟨T, x, h1, h2, h3, h4⟩ := y
  exact ⟨T, .int (i : Nat), x, h1, h2, h3, rfl, h4 xs q⟩
theorem walk_zipT {K : PySem.W.Frag} {a b : Addr} {xs ys : List V} {n : Nat} (hx : xs.length = n) (hy : ys.length = n) : Walk (RZ.ItzT K a b) n (fun H => SqT K H a xs ∧ SqT K H b ys) (YPair (fun i => xs[i]?) (fun i => ys[i]?)) := by
  refine ⟨fun i _ hi q => ?_, fun _ q => ⟨xs, ys, q.1, q.2, .inl (Nat.le_of_eq hx)⟩, fun i H v H' _ q y => ?_⟩
  · exact ⟨xs, ys, xs[i]'(by omega), ys[i]'(by omega), q.1, q.2, List.getElem?_eq_getElem _, List.getElem?_eq_getElem _⟩
  · obtain ⟨T, x, z, h1, h2, h3, h4, h5⟩ := y
    exact ⟨T, x, z, h1, h2, h3, h4 xs q.1, h5 ys q.2⟩
theorem walk_zipL {K : PySem.W.Frag} {a b : Addr} {xs ys : List V} {n : Nat} (hx : xs.length = n) (hy : ys.length = n) : Walk (Itz K a b) n (fun H => SqL K H a xs ∧ SqL K H b ys) (YPair (fun i => xs[i]?) (fun i => ys[i]?)) :=
  walk_zip (by omega)

/-! ### o.f as a target -/
def gFld (K : PySem.W.Frag) (to : TE) (f : Str) : TG := fun v σ H Q => to σ H fun x H1 => ∃ a C dx fs, x = .ref a ∧ H1 a = some (.ins C dx fs) ∧ Cls K C ∧ NoAttr K C f ∧ fs.length < 1000 ∧ Q σ (upd H1 a (.ins C dx (putF f v fs)))
theorem pg_fld {X : Cx} {o : Expr} {f : Str} {pos : Pos} {to : TE} (ho : PE X o to) : PG X (.Attribute o f pos) (gFld X.K to f) := by
  refine ⟨fun pins s σ H v u Q I r h => ?_⟩
  rw [arm_assign_Attribute]
  refine wpAny_bind (wpAny_holding (thn (ho.run pins s σ H _ I h) fun ov s1 ⟨x, H1, I1, rx, a, C, dx, fs, ex, ea, c, n, l, q⟩ => ?_))
  subst ex
  obtain rfl : ov = Value.ref a := rx
  refine wpAny_bind (wpAny_standAt (wpAny_bind (wpAny_holding ?_)))
  exact setattr_ok I1 ea c n l r fun s2 I2 => wpAny_release ⟨σ, _, I2, q⟩

/-! ### tuple * 1 -/
theorem tuple_mul1 (l : Addr) (items : Array Value) (n : Nat) (dd : Option Addr) (sl : Array (Option Value)) (u : Tok) :
    Meets (Builtin.«tuple.__mul__» ⟨[.ref l, .int 1 u], []⟩) (fun _ R s => s.heap.get? l = some { cls := .type "tuple", dict := dd, data := .seq items n, slots := sl } ∧ R (.ok (.ret (Value.ref l))) s) :=
  .of_wp fun prog w A R s h => by
    obtain ⟨hp, g, d, tk, os⟩ := s
    obtain ⟨hl, h⟩ := h
    have f1 := AutoSeq1.idx_int
    have c0 : (decide ((1 : Int) < -(2 ^ 63)) || decide ((1 : Int) ≥ 2 ^ 63)) = false := by decide
    have c1 : (items.isEmpty || (1 : Int) == 1) = true := by simp
    wp_walk using wpAny_loadPart' hl
    repeat (first
      | (refine wpAny_ite_false (decide_eq_false (by rw [c0]; exact Bool.false_ne_true)) ?_; wp_walk using wpAny_loadPart' hl)
      | (refine wpAny_ite_true (decide_eq_true (by rw [c1])) ?_; wp_walk using wpAny_loadPart' hl))
    exact ⟨_, rfl, h⟩
def rRep1 (K : PySem.W.Frag) : R2 := fun x y H Q => ∃ l xs, x = .ref l ∧ y = .int 1 ∧ SqT K H l xs ∧ Q (.ref l) H
theorem op_rep1 {X : Cx} : OpR X (binaryOp .Mult) (rRep1 X.K) := by
  intro pins s σ H x y v u Q I rx ry h
  obtain ⟨l, xs, rfl, rfl, hT, q⟩ := h
  cases rx
  obtain ⟨t, rfl⟩ := ry
  obtain ⟨its, r, ⟨⟨cls, dd, data, sl⟩, ho, hc, n, hd⟩, hs⟩ := I.tuple hT
  simp only at hc hd
  subst hc hd
  refine wpAny_binaryOp_repeat_ref (T := "tuple") (U := "int") (by decide) ⟨_, ho, rfl⟩ (fun s' => typeIs_int s' 1 t) noFill_tuple_mul F.fills_int_mul F.slot_int_rmul repeat_tuple F.slot_int_index.lookup
    (call_meets F.slot_int_rmul (typeIs_int s 1 t) F.entry_int_rmul (F.args_int_rmul_2 _ _) (int_rmul_tuple 1 t l its.toArray n dd sl)
      ⟨ho, rfl, ⟨_, ho, rfl⟩, call_meets F.slot_tuple_mul ⟨_, ho, rfl⟩ F.entry_tuple_mul (F.args_tuple_mul_2 _ _) (tuple_mul1 l its.toArray n dd sl t) ⟨ho, ?_⟩⟩)
  exact ⟨.ref l, H, I, rfl, q⟩
/-- t * k, t a tuple of one item, k from 1 on: a tuple of k such items stands somewhere; all that was tracked stays -/
def rRepK : R2 := fun x y H Q => ∃ l k v, x = .ref l ∧ y = .int (k : Nat) ∧ H l = some (.tup [v]) ∧ 1 ≤ k ∧ k ≤ 1000 ∧ ∀ p H', (∀ b o, H b = some o → H' b = some o) → H' p = some (.tup (List.replicate k v)) → Q (.ref p) H'
theorem op_repK {X : Cx} : OpR X (binaryOp .Mult) rRepK := by
  intro pins s σ H x y u w Q I rx ry h
  obtain ⟨l, k, v, rfl, rfl, hT, h1, h2, q⟩ := h
  have hT' : SqT X.K H l [v] := .inl (.inl hT)
  by_cases hk : k = 1
  · subst hk
    exact op_rep1 pins s σ H _ _ _ _ Q I rx ry ⟨l, [v], rfl, rfl, hT', q l H (fun _ _ e => e) hT⟩
  · refine op_repT pins s σ H _ _ _ _ Q I rx ry ⟨l, (k : Int), [v], rfl, rfl, hT', by simp, by omega, by omega, by simp, fun p hp => q p _ (fun b o e => by rw [upd_ne (ne_of_none e hp)]; exact e) ?_⟩
    rw [upd_same]
    have e : ∀ m : Nat, (List.replicate m [v]).flatten = List.replicate m v := fun m => by
      induction m with
      | zero => rfl
      | succ m ih => rw [List.replicate_succ, List.flatten_cons, ih, List.replicate_succ]; rfl
    rw [show ((k : Int)).toNat = k by omega, e]

/-! ### sorted(tuples of ints, reverse=True): its length -/
def encT (b : List Int) : PyData := .tuple (b.map .int)
theorem alike_encT : ∀ a b : List Int, PySem.W.alikeAll (a.map PyData.int) (b.map PyData.int) = true := PySem.W.alike_ints
theorem readsAll_ints {h : Heap} : ∀ {ns : List Int} {us : List Value}, Vals (ns.map V.int) us → ReadsAll h us (ns.map PyData.int) []
  | [], _, .nil => .nil
  | n :: ns, _, .cons r t => by
    obtain ⟨k, rfl⟩ := r
    exact .cons (as := []) (.int n k) (readsAll_ints t)
theorem vals_of_refs : ∀ {out : List Value} {bs : List (List Int)}, PySem.W.EachIs (fun v _ => ∃ a, v = Value.ref a) out bs → ∃ xs : List V, Vals xs out
  | _, _, .nil => ⟨[], .nil⟩
  | _, _, .cons ⟨a, e⟩ t => by
    obtain ⟨xs, r⟩ := vals_of_refs t
    exact ⟨.ref a :: xs, .cons (by rw [e]; rfl) r⟩
theorem each_of {X : Cx} {pins : List (Addr × Obj)} {σ : St} {H : Hp} {s : Shared} (I : Inv X pins σ H s) : ∀ {rs : List V} {its : List Value} {bs : List (List Int)}, Vals rs its → Paired (fun (v : V) (b : List Int) => ∃ a, v = .ref a ∧ SqT X.K H a (b.map V.int)) rs bs →
    PySem.W.EachIs (fun v b => (∃ as, Reads s.heap v (encT b) as) ∧ ∃ a, v = Value.ref a) its bs
  | _, _, _, .nil, .nil => .nil
  | _, _, _, .cons r t, .cons ⟨a, e, h⟩ q => by
    subst e
    cases r
    obtain ⟨us, ru, ⟨o, ho, hc, n, hd⟩, _⟩ := I.tuple h
    exact .cons ⟨⟨[], .tuple ho hc hd (by simpa using readsAll_ints ru)⟩, a, rfl⟩ (each_of I t q)
def rSortedT (K : PySem.W.Frag) : List V → List V → Hp → VK → Prop := fun vs zs H Q => ∃ (l : Addr) (rs : List V) (bs : List (List Int)), vs = [.ref l] ∧ zs = [.bl true] ∧ SqL K H l rs ∧ Paired (fun (v : V) (b : List Int) => ∃ a, v = .ref a ∧ SqT K H a (b.map V.int)) rs bs ∧ (∀ b ∈ bs, b ≠ []) ∧
  ∀ (xs : List V) (p : Addr), xs.length = rs.length → H p = none → Q (.ref p) (upd H p (.lst xs))
theorem cr_sortedT {X : Cx} (hu : X.A.units + 66 < cLine) : CallRK X (.builtin "sorted") [Str.ofString "reverse"] (rSortedT X.K) := by
  intro pins s σ H vs zs us ws Q I r rz h
  obtain ⟨l, rs, bs, rfl, rfl, hs, hp, hne, q⟩ := h
  obtain rfl := Vals.ref1 r
  obtain ⟨w1, rfl, e1⟩ := vals1 rz
  obtain rfl : w1 = Value.bool true := e1
  obtain ⟨its, rv, hl, hz⟩ := I.list hs
  have ea := each_of I rv hp
  have hlen : bs.length = rs.length := hp.length.symm
  have alk : PySem.W.AllAlike (bs.map encT) := PySem.W.AllAlike.of fun a b => by
    show PySem.W.alike (.tuple (a.map .int)) (.tuple (b.map .int)) = true
    rw [PySem.W.alike]
    exact alike_encT a b
  have hk : PySem.W.Sortable (bs.map encT) := .inl fun d hd => by
    obtain ⟨b, hb, rfl⟩ := List.mem_map.mp hd
    cases b with
    | nil => exact absurd rfl (hne [] hb)
    | cons x r => exact ⟨.int x, r.map .int, rfl⟩
  have hdep : ∀ b : List Int, (encT b).depth ≤ 1 := fun b => by
    have z : ∀ ns : List Int, PyData.depthAll (ns.map PyData.int) = 0 := fun ns => by
      induction ns with
      | nil => rfl
      | cons n ns ih => simp [PyData.depthAll, PyData.depth, ih]
    show (PyData.tuple (b.map .int)).depth ≤ 1
    simp [PyData.depth, z]
  refine PySem.W.sorted_rev_data hl.isList (ea.mono fun v b h => h.2) (ea.mono fun v b h => h.1) alk hk (by rw [hlen]; exact hz) (fun b _ => by have := hdep b; omega) fun out hol eo => ?_
  obtain ⟨xs, rx⟩ := vals_of_refs eo
  obtain ⟨ep, he'⟩ := PyProof.Rows.sortedAll_at s.heap its out.toArray
  have hxl : xs.length = rs.length := by rw [rx.length, hol, hlen]
  exact ⟨.ref _, upd H (s.heap.objs.size + 1) (.lst xs), I.laid (t' := s.toks) (fun _ _ => PyProof.Rows.sortedAll_old) (Nat.le_succ _) ⟨by rw [hxl]; exact hz, out, ep, rx, he'⟩, rfl, q xs _ hxl (I.hok.fresh (Nat.le_succ _))⟩

/-! ### X() of an own exception class without own __init__ -/
theorem pmk_own0 {X : Cx} {C : Addr} {bmB : List Value} {B newId initId : String} {x : Str} {p pos : Pos} (F : ExcBaseFacts B newId initId bmB) (q : PySem.W.excIn X.K C bmB newId = true) (gC : X.mg x = some (.ref C))
    (kC : PySem.W.keepIn X.K (.ref C) = true) (r : Raises X (.ref C)) (hg : Gl X x) (hdb : (x == ("__debug__" : Str)) = false := by decide) : PMk X (.Call (.Name x p) [] [] pos) (fun _ H Q => Q (.ref C) none H) := by
  intro pins s σ H Q I h
  refine wpAny_Call_Name_kw (ld_glob I hg gC ?_ hdb)
  refine PySem.W.callWith_K0 (first := []) I.kIn kC ?_
  show wpAny _ _ (call (.ref C) []) _ _ _
  obtain ⟨bm, N, nm, qn, bs, hdct, sn, sub, ab, col, dd, k0, k1, k2, k3, k5, mN, hC, hN, hni, T⟩ := exc_obj I.kIn q
  exact wpAny_call_exc_subT F T hC hN hni (fun h' e hm => mk_of I hm r h (I.hok.gone hm.new)) (by show 0 ≤ sizeLine; exact Nat.zero_le _)
end L2
set_option maxRecDepth 100000
set_option maxHeartbeats 4000000
/-! The text by places; heaps; the facts of the top that the walks ask. -/
namespace Dr
open PySem PySem.Spec PyProof.Rows L2

def top (i : Nat) : Stmt := PySem.Challenge.pw_driftstore_k12_whole_benches.main.body.getD i (.Pass ⟨0, 0, 0, 0⟩)
abbrev sNum : Stmt := top 6
abbrev sIsRow : Stmt := top 7
abbrev sInv : Stmt := top 8
abbrev sAdded : Stmt := top 9
abbrev sScaled : Stmt := top 10
abbrev sMet : Stmt := top 11
abbrev sTimes : Stmt := top 12
abbrev sLead : Stmt := top 13
abbrev sReduced : Stmt := top 14
abbrev sAreRows : Stmt := top 18
abbrev sNeed : Stmt := top 19
abbrev sStirred : Stmt := top 20
abbrev sDone : Stmt := top 21
abbrev sInit : Stmt := inClass (top 23) 0
abbrev sDo : Stmt := inClass (top 23) 1
abbrev sPlug : Stmt := inClass (top 23) 2
abbrev sSee : Stmt := inClass (top 23) 3
abbrev sJoin : Stmt := inClass (top 23) 4
abbrev sWrite : Stmt := inClass (top 23) 5
abbrev sPut : Stmt := inClass (top 23) 6
abbrev sWait : Stmt := inClass (top 23) 7
abbrev sTick : Stmt := inClass (top 23) 8
abbrev sHeld : Stmt := inClass (top 23) 9
abbrev sOwn : Stmt := inClass (top 23) 10
abbrev sTaken : Stmt := top 25
abbrev sPick : Stmt := top 26
abbrev sAlike : Stmt := top 27
abbrev sRow : Stmt := top 28
abbrev sStir : Stmt := top 29
abbrev sMach : Stmt := top 30
abbrev sLMet : Stmt := top 31
abbrev sLAdded : Stmt := top 32
abbrev sLStirred : Stmt := top 33
abbrev sLDeed : Stmt := top 34
abbrev sLaw : Stmt := top 35

/-- which built-in names are still the built-in ones -/
structure TX (mg : Str → Option Value) : Prop where
  len : mg "len" = none
  isinstance : mg "isinstance" = none
  int : mg "int" = none
  bool : mg "bool" = none
  tuple : mg "tuple" = none
  list : mg "list" = none
  str : mg "str" = none
  range : mg "range" = none
  zip : mg "zip" = none
  sum : mg "sum" = none
  sorted : mg "sorted" = none
  enumerate : mg "enumerate" = none
  all : mg "all" = none
theorem b_int : bootBuiltins "int" = some (.type "int") := by decide +kernel
theorem b_bool : bootBuiltins "bool" = some (.type "bool") := by decide +kernel
theorem b_tuple : bootBuiltins "tuple" = some (.type "tuple") := by decide +kernel
theorem b_list : bootBuiltins "list" = some (.type "list") := by decide +kernel
theorem b_str : bootBuiltins "str" = some (.type "str") := by decide +kernel
theorem b_isi : bootBuiltins "isinstance" = some (.builtin "isinstance") := by decide +kernel
theorem b_sum : bootBuiltins "sum" = some (.builtin "sum") := by decide +kernel
theorem b_sorted : bootBuiltins "sorted" = some (.builtin "sorted") := by decide +kernel

/-! ### heaps -/
/-- a tuple of ints -/
abbrev IT (H : Hp) (a : Addr) (x : List Int) : Prop := H a = some (.tup (x.map V.int))
def RT (H : Hp) (v : V) (x : List Int) : Prop := ∃ a, v = .ref a ∧ IT H a x
/-- a tuple of tuples of ints -/
def TT (H : Hp) (t : Addr) (L : List (List Int)) : Prop := ∃ rs, H t = some (.tup rs) ∧ Paired (RT H) rs L
/-- tuples stay -/
def Tk (H H' : Hp) : Prop := ∀ b xs, H b = some (.tup xs) → H' b = some (.tup xs)
theorem Tk.refl (H : Hp) : Tk H H := fun _ _ e => e
theorem Tk.trans {H H1 H2 : Hp} (a : Tk H H1) (b : Tk H1 H2) : Tk H H2 := fun c o h => b c o (a c o h)
theorem Same.tk {H H' : Hp} (s : Same H H') : Tk H H' := fun b xs e => s b _ e
theorem RT.tk {H H' : Hp} {v : V} {x : List Int} (r : RT H v x) (t : Tk H H') : RT H' v x := let ⟨a, e, h⟩ := r; ⟨a, e, t _ _ h⟩
theorem paired_tk {H H' : Hp} (t : Tk H H') : ∀ {rs : List V} {L : List (List Int)}, Paired (RT H) rs L → Paired (RT H') rs L
  | _, _, .nil => .nil
  | _, _, .cons r q => .cons (r.tk t) (paired_tk t q)
theorem TT.tk {H H' : Hp} {a : Addr} {L : List (List Int)} (r : TT H a L) (t : Tk H H') : TT H' a L := let ⟨rs, e, h⟩ := r; ⟨rs, t _ _ e, paired_tk t h⟩
theorem pget {α β : Type} {G : α → β → Prop} : ∀ {l₁ : List α} {l₂ : List β}, Paired G l₁ l₂ → ∀ {i : Nat} {a : α}, l₁[i]? = some a → ∃ b, l₂[i]? = some b ∧ G a b
  | _, _, .nil, _, _, h => by simp at h
  | _, _, .cons r _, 0, _, h => by simp at h; subst h; exact ⟨_, rfl, r⟩
  | _, _, .cons _ t, i + 1, _, h => by
    obtain ⟨b, e, g⟩ := pget t (i := i) (by simpa using h)
    exact ⟨b, by simpa using e, g⟩
theorem pget' {α β : Type} {G : α → β → Prop} : ∀ {l₁ : List α} {l₂ : List β}, Paired G l₁ l₂ → ∀ {i : Nat} {b : β}, l₂[i]? = some b → ∃ a, l₁[i]? = some a ∧ G a b
  | _, _, .nil, _, _, h => by simp at h
  | _, _, .cons r _, 0, _, h => by simp at h; subst h; exact ⟨_, rfl, r⟩
  | _, _, .cons _ t, i + 1, _, h => by
    obtain ⟨b, e, g⟩ := pget' t (i := i) (by simpa using h)
    exact ⟨b, by simpa using e, g⟩
theorem psnoc {α β : Type} {G : α → β → Prop} : ∀ {l₁ : List α} {l₂ : List β} {a : α} {b : β}, Paired G l₁ l₂ → G a b → Paired G (l₁ ++ [a]) (l₂ ++ [b])
  | _, _, _, _, .nil, g => .cons g .nil
  | _, _, _, _, .cons r t, g => .cons r (psnoc t g)
theorem pset {α β : Type} {G : α → β → Prop} : ∀ {l₁ : List α} {l₂ : List β} {a : α} {b : β} (i : Nat), Paired G l₁ l₂ → G a b → Paired G (l₁.set i a) (l₂.set i b)
  | _, _, _, _, _, .nil, _ => .nil
  | _, _, _, _, 0, .cons _ t, g => .cons g t
  | _, _, _, _, i + 1, .cons r t, g => .cons r (pset i t g)
/-- a new object beside -/
theorem same_upd {H : Hp} {p : Addr} {o : HO} (n : H p = none) : Same H (upd H p o) := fun b u e => by
  rw [upd_ne (ne_of_none e n)]; exact e
theorem same_upd2 {H H' : Hp} {p : Addr} {o : HO} (s : Same H H') (n : H p = none) : Same H (upd H' p o) := fun b u e => by
  rw [upd_ne (ne_of_none e n)]; exact s b u e
/-- all but what stands at r stays -/
def But (r : Addr) (H H' : Hp) : Prop := ∀ b o, b ≠ r → H b = some o → H' b = some o
theorem But.refl {r : Addr} {H : Hp} : But r H H := fun _ _ _ e => e
theorem But.trans {r : Addr} {H H1 H2 : Hp} (a : But r H H1) (b : But r H1 H2) : But r H H2 := fun c o n h => b c o n (a c o n h)
theorem Same.but {r : Addr} {H H' : Hp} (s : Same H H') : But r H H' := fun b o _ e => s b o e
theorem But.tk {r : Addr} {H H' : Hp} (b : But r H H') (h : ∀ xs, H r ≠ some (.tup xs)) : Tk H H' := fun c xs e => b c _ (fun z => h xs (z ▸ e)) e
theorem But.free {r : Addr} {H H' : Hp} (b : But r H H') {p : Addr} (hr : p ≠ r) (h : H' p = none) : H p = none := by
  cases e : H p with
  | none => rfl
  | some o => rw [b p o hr e] at h; cases h
theorem but_upd {r : Addr} {H : Hp} {o : HO} : But r H (upd H r o) := fun b u n e => by rw [upd_ne n]; exact e
theorem ivs_get {ns : List Int} {i : Nat} {v : V} (h : (ns.map V.int)[i]? = some v) : ∃ n, ns[i]? = some n ∧ v = .int n := by
  rw [List.getElem?_map] at h
  cases e : ns[i]? with
  | none => rw [e] at h; cases h
  | some n => rw [e] at h; exact ⟨n, rfl, (Option.some.inj h).symm⟩
theorem ivs_at {ns : List Int} {i : Nat} {n : Int} (h : ns[i]? = some n) : (ns.map V.int)[i]? = some (.int n) := by
  rw [List.getElem?_map, h]; rfl
end Dr
set_option maxRecDepth 100000
set_option maxHeartbeats 4000000
namespace Dr
open PySem PySem.Spec PyProof.Rows L2
section
variable {P : Program} {w : World} {K : PySem.W.Frag} {mg : Str → Option Value} {base : Heap}
/-! ### is_number -/
def numB (lo hi : Int) : V → Bool
  | .int i => decide (lo ≤ i) && decide (i ≤ hi)
  | _ => false
def Flat (v : V) : Prop := v = .non ∨ (∃ b, v = .bl b) ∨ ∃ i, v = .int i
def spNum : Sp := fun vs H Q _ => ∃ (v : V) (lo hi : Int), vs = [v, .int lo, .int hi] ∧ Flat v ∧ Q (.bl (numB lo hi v)) H
theorem scNum : FnScope ["value", "low", "high"] ["value", "low", "high"] (defScope sNum) := ⟨rfl, rfl, rfl, by decide +kernel, rfl, by decide +kernel, by decide +kernel⟩
theorem k1 : kitB "int" "int" = some true := by decide +kernel
theorem k2 : kitB "int" "bool" = some false := by decide +kernel
theorem k3 : kitB "bool" "int" = some true := by decide +kernel
theorem k4 : kitB "bool" "bool" = some true := by decide +kernel
theorem k5 : kitB "NoneType" "int" = some false := by decide +kernel
theorem ok_num {f : Addr} {fd : FuncData} (F : Fun K "is_number" "is_number" sNum f fd) (T : TX mg) : FnOk P w K mg base CX0 1 f fd ["value", "low", "high"] spNum := by
  refine F.ok scNum (fun vs H Q E h => ?_) (fun cdv A outer s H vs Q E hr h => ?_)
  · obtain ⟨v, lo, hi, rfl, _⟩ := h; rfl
  · obtain ⟨v, lo, hi, rfl, hv, k⟩ := h
    refine ⟨_, pss_one (ps_ret (pe_and (pe_callB call_isi (by rfl) T.isinstance b_isi (pa_cons (pv 0) (pa_cons (pe_bltn (v := .ty "int") (by rfl) T.int b_int rfl) pa_nil)))
      (pe_and (pe_not (pe_callB call_isi (by rfl) T.isinstance b_isi (pa_cons (pv 0) (pa_cons (pe_bltn (v := .ty "bool") (by rfl) T.bool b_bool rfl) pa_nil))))
      (pe_one (pe_chain op_le op_le (pv 1) (pv 0) (pv 2)))))), ?_⟩
    rcases hv with rfl | ⟨b, rfl⟩ | ⟨i, rfl⟩
    · exact ⟨_, rfl, _, _, _, _, false, rfl, .ty _, .base .non, kit_ty k5, false, rfl, iteF k⟩
    · refine ⟨_, rfl, _, _, _, _, true, rfl, .ty _, .base (.bl b), kit_ty k3, true, rfl, iteT ?_⟩
      exact ⟨_, rfl, _, _, _, _, true, rfl, .ty _, .base (.bl b), kit_ty k4, true, rfl, false, rfl, iteF k⟩
    · refine ⟨_, rfl, _, _, _, _, true, rfl, .ty _, .base (.int i), kit_ty k1, true, rfl, iteT ?_⟩
      refine ⟨_, rfl, _, _, _, _, false, rfl, .ty _, .base (.int i), kit_ty k2, false, rfl, true, rfl, iteT ?_⟩
      refine ⟨_, rfl, _, rfl, _, _, rfl, rfl, _, rfl, ?_⟩
      by_cases c : lo ≤ i
      · rw [decide_eq_true c]
        refine iteT ⟨_, rfl, _, _, rfl, rfl, ?_⟩
        have e : numB lo hi (.int i) = decide (i ≤ hi) := by simp [numB, c]
        rw [e] at k
        exact k
      · rw [decide_eq_false c]
        refine iteF ?_
        have e : numB lo hi (.int i) = false := by simp [numB, c]
        rw [e] at k
        exact k
end
end Dr
set_option maxRecDepth 100000
set_option maxHeartbeats 4000000
namespace Dr
open PySem PySem.Spec PyProof.Rows L2
/-! ### the draws: only their bounds matter -/
def rowO (sc : Addr) (a b c : Int) : HO := .lst [.ref sc, .int a, .int b, .int c]
structure RowAt (K : PySem.W.Frag) (H : Hp) (r sc : Addr) (ns : List Int) : Prop where
  ob : ∃ a b c : Int, H r = some (rowO sc a b c) ∧ 0 ≤ a ∧ 0 ≤ b ∧ b < 2147483647
  sq : SqL K H sc (ns.map V.int)
theorem sq_row {K : PySem.W.Frag} {H : Hp} {r sc : Addr} {ns : List Int} {o : HO} {a b c : Int} (h : H r = some (rowO sc a b c)) (sq : SqL K H sc (ns.map V.int)) : SqL K (upd H r o) sc (ns.map V.int) := by
  rcases sq with (z | ⟨q, z⟩) | z
  · refine .inl (.inl ?_)
    rw [upd_ne (ne_of z h fun e => ?_)]
    · exact z
    · have e' : ns.map V.int = [.ref sc, .int a, .int b, .int c] := HO.lst.inj e
      cases ns with
      | nil => cases e'
      | cons n ns => injection e' with e1 _; cases e1
  · refine .inl (.inr ⟨q, ?_⟩)
    rw [upd_ne (ne_of z h (by intro e; cases e))]
    exact z
  · exact .inr z
theorem RowAt.tup {K : PySem.W.Frag} {H : Hp} {r sc : Addr} {ns : List Int} (R : RowAt K H r sc ns) : ∀ xs, H r ≠ some (.tup xs) := fun xs e => by
  obtain ⟨a, b, c, h, _⟩ := R.ob
  rw [h] at e; cases e
theorem RowAt.same {K : PySem.W.Frag} {H H' : Hp} {r sc : Addr} {ns : List Int} (R : RowAt K H r sc ns) (s : Same H H') : RowAt K H' r sc ns := by
  obtain ⟨a, b, c, h, q⟩ := R.ob
  exact ⟨⟨a, b, c, s _ _ h, q⟩, s.seq R.sq⟩
/-- all addresses but r are as they were -/
def Only (r : Addr) (H H' : Hp) : Prop := ∀ b, b ≠ r → H' b = H b
theorem Only.but {r : Addr} {H H' : Hp} (o : Only r H H') : But r H H' := fun b u n e => by rw [o b n]; exact e
theorem Only.trans {r : Addr} {H H1 H2 : Hp} (a : Only r H H1) (b : Only r H1 H2) : Only r H H2 := fun c n => (b c n).trans (a c n)
/-- what a call of _law_taken gives -/
def spTaken (K : PySem.W.Frag) : Sp := fun vs H Q _ => ∃ (r sc : Addr) (ns : List Int) (m : Int), vs = [.ref r, .int m] ∧ RowAt K H r sc ns ∧ 1 ≤ m ∧ m ≤ 1000 ∧
  ∀ (v : Int) (H' : Hp), 0 ≤ v → v < m → RowAt K H' r sc ns → Only r H H' → Q (.int v) H'
section
variable {P : Program} {w : World} {K : PySem.W.Frag} {mg : Str → Option Value} {base : Heap}
theorem scTaken : FnScope ["_law_row_here", "_law_many", "_law_found", "_law_cell"] ["_law_row_here", "_law_many"] (defScope sTaken) := ⟨rfl, rfl, rfl, by decide +kernel, rfl, by decide +kernel, by decide +kernel⟩
theorem ok_taken {f : Addr} {fd : FuncData} (F : Fun K "_law_taken" "_law_taken" sTaken f fd) (T : TX mg) : FnOk P w K mg base CX0 1 f fd ["_law_row_here", "_law_many"] (spTaken K) := by
  refine F.ok scTaken (fun vs H Q E h => ?_) (fun cdv A outer s H vs Q E hr h => ?_)
  · obtain ⟨r, sc, ns, m, rfl, _⟩ := h; rfl
  · obtain ⟨r, sc, ns, m, rfl, R, h1, h2, k⟩ := h
    obtain ⟨⟨a, b, c, hR, ha, hb, hb'⟩, hS⟩ := id R
    refine ⟨_, pss_cons (ps_if (pt_cmpR op_gt (pe_ix ix_list (pv 0) pe_int (fun _ _ => rfl)) pe_int (nomark _))
        (pss_cons (ps_set (i := 2) scTaken.nd rfl (.inl rfl) (pe_op op_mod (pe_callTy call_int1 (by rfl) T.int b_int (pa_cons (pe_ix ix_list (pv 0) pe_int (fun _ _ => rfl)) pa_nil)) (pv 1)))
        (pss_cons (ps_asg (pe_op op_fdiv (pe_ix ix_list (pv 0) pe_int (fun _ _ => rfl)) (pv 1)) (pg_sub (pv 0) pe_int set_list))
        (pss_one (ps_ret (pv 2))))) pss_nil)
      (pss_cons (ps_asg (pe_op op_add (pe_ix ix_list (pv 0) pe_int (fun _ _ => rfl)) pe_int) (pg_sub (pv 0) pe_int set_list))
      (pss_cons (ps_if (pt_cmpR op_gt (pe_ix ix_list (pv 0) pe_int (fun _ _ => rfl)) (pe_callB call_len_seq (by rfl) T.len PySem.boot_len (pa_cons (pe_ix ix_list (pv 0) pe_int (fun _ _ => rfl)) pa_nil)) (nomark _))
        (pss_cons (ps_asg (pe_op op_mod (pe_callTy call_int1 (by rfl) T.int b_int (pa_cons (pe_op op_add (pe_op op_mul (pe_ix ix_list (pv 0) pe_int (fun _ _ => rfl)) pe_int) pe_int) pa_nil)) pe_int) (pg_sub (pv 0) pe_int set_list))
        (pss_one (ps_ret (pe_op op_mod (pe_callTy call_int1 (by rfl) T.int b_int (pa_cons (pe_op op_fdiv (pe_ix ix_list (pv 0) pe_int (fun _ _ => rfl)) pe_int) pa_nil)) (pv 1))))) pss_nil)
      (pss_cons (ps_set (i := 3) scTaken.nd rfl (.inl rfl) (pe_ix ix_list (pe_ix ix_list (pv 0) pe_int (fun _ _ => rfl)) (pe_op op_sub (pe_ix ix_list (pv 0) pe_int (fun _ _ => rfl)) pe_int) (fun _ _ => rfl)))
      (pss_cons (ps_asg (pe_op op_mod (pe_callTy call_int1 (by rfl) T.int b_int (pa_cons (pe_op op_add (pe_op op_add (pe_op op_mul (pe_ix ix_list (pv 0) pe_int (fun _ _ => rfl)) pe_int) (pv 3)) pe_int) pa_nil)) pe_int) (pg_sub (pv 0) pe_int set_list))
      (pss_cons (ps_if (pt_cmpR op_ge (pv 3) (pe_op op_pow pe_int pe_int) (nomark _))
        (pss_one (ps_asg (pe_op op_fdiv (pv 3) (pv 1)) (pg_sub (pv 0) pe_int set_list))) pss_nil)
      (pss_one (ps_ret (pe_op op_mod (pe_callTy call_int1 (by rfl) T.int b_int (pa_cons (pv 3) pa_nil)) (pv 1))))))))), ?_⟩
    have mp : (0 : Int) < m := by omega
    have fin : ∀ (v a' b' c' : Int) (H' : Hp), H' = upd H r (rowO sc a' b' c') → 0 ≤ a' → 0 ≤ b' → b' < 2147483647 → Q (.int (v % m)) H' := fun v a' b' c' H' e q1 q2 q3 => by
      subst e
      exact k _ _ (Int.emod_nonneg _ (by omega)) (Int.emod_lt_of_pos _ mp) ⟨⟨a', b', c', upd_same, q1, q2, q3⟩, sq_row hR hS⟩ fun b hb => upd_ne hb
    have at0 : ∀ {a b c : Int}, atI [V.ref sc, .int a, .int b, .int c] 0 = some (.ref sc) := fun {a b c} => rfl
    -- if row[3] > 0
    refine ⟨_, rfl, r, _, _, _, rfl, rfl, SqL.of hR, rfl, _, _, rfl, rfl, _, rfl, ?_⟩
    refine ite2 (fun hc => ?_) (fun hc => ?_)
    · refine ⟨_, rfl, r, _, _, _, rfl, rfl, SqL.of hR, rfl, .inl ⟨_, rfl, ?_⟩⟩
      refine ⟨_, rfl, _, _, rfl, rfl, mp, ?_⟩
      refine ⟨_, rfl, r, _, _, _, rfl, rfl, SqL.of hR, rfl, _, rfl, _, _, rfl, rfl, ⟨mp, by show m < 1073741824; omega⟩, _, rfl, r, _, _, _, rfl, rfl, hR, rfl, ?_⟩
      exact ⟨_, rfl, fin c a b (c / m) _ rfl ha hb hb'⟩
    · -- row[1] = row[1] + 1
      refine ⟨_, rfl, r, _, _, _, rfl, rfl, SqL.of hR, rfl, _, _, rfl, rfl, _, rfl, r, _, _, _, rfl, rfl, hR, rfl, ?_⟩
      have hR1 : upd H r (rowO sc (a + 1) b c) r = some (.lst [.ref sc, .int (a + 1), .int b, .int c]) := upd_same
      have hS1 : SqL K (upd H r (rowO sc (a + 1) b c)) sc (ns.map V.int) := sq_row hR hS
      -- if row[1] > len(row[0])
      refine ⟨_, rfl, r, _, _, _, rfl, rfl, SqL.of hR1, rfl, _, rfl, r, _, _, _, rfl, rfl, SqL.of hR1, rfl, sc, _, rfl, .inl hS1, _, _, rfl, rfl, _, rfl, ?_⟩
      refine ite2 (fun hl => ?_) (fun hl => ?_)
      · refine ⟨_, rfl, r, _, _, _, rfl, rfl, SqL.of hR1, rfl, _, _, rfl, rfl, .inl ⟨by show -18446744073709551616 < b; omega, by show b < 18446744073709551616; omega⟩, _, _, rfl, rfl, .inl ⟨_, rfl, ?_⟩⟩
        refine ⟨_, _, rfl, rfl, (by show (0 : Int) < 2147483647; decide), _, rfl, r, _, _, _, rfl, rfl, hR1, rfl, ?_⟩
        refine ⟨_, rfl, r, _, _, _, rfl, rfl, SqL.of upd_same, rfl, _, _, rfl, rfl, ⟨by show (0 : Int) < 7; decide, by show (7 : Int) < 1073741824; decide⟩, .inl ⟨_, rfl, ?_⟩⟩
        refine ⟨_, rfl, _, _, rfl, rfl, mp, ?_⟩
        exact fin _ (a + 1) ((b * 48271 + 11) % 2147483647) c _ upd_upd (by omega) (Int.emod_nonneg _ (by decide)) (Int.emod_lt_of_pos _ (by decide))
      · -- the cell
        have hlt : a.toNat < ns.length := by
          have : ¬ ((ns.map V.int).length : Int) < a + 1 := by simpa using hl
          rw [List.length_map] at this
          omega
        have hcell : (ns.map V.int)[a.toNat]? = some (.int ns[a.toNat]) := by rw [List.getElem?_map, List.getElem?_eq_getElem hlt]; rfl
        have hat : atI (ns.map V.int) (a + 1 - 1) = some (.int ns[a.toNat]) := by
          have e : a + 1 - 1 = ((a.toNat : Nat) : Int) := by omega
          rw [e]; exact atI_nat hcell
        generalize ns[a.toNat] = cell at hcell hat
        refine ⟨_, rfl, r, _, _, _, rfl, rfl, SqL.of hR1, rfl, _, rfl, r, _, _, _, rfl, rfl, SqL.of hR1, rfl, _, _, rfl, rfl, sc, _, _, _, rfl, rfl, hS1, hat, ?_⟩
        refine ⟨_, rfl, r, _, _, _, rfl, rfl, SqL.of hR1, rfl, _, _, rfl, rfl, .inl ⟨by show -18446744073709551616 < b; omega, by show b < 18446744073709551616; omega⟩, _, rfl, _, _, rfl, rfl, _, _, rfl, rfl, .inl ⟨_, rfl, ?_⟩⟩
        refine ⟨_, _, rfl, rfl, (by show (0 : Int) < 2147483647; decide), _, rfl, r, _, _, _, rfl, rfl, hR1, rfl, ?_⟩
        have p1 : 0 ≤ (b * 48271 + cell + 11) % 2147483647 := Int.emod_nonneg _ (by decide)
        have p2 : (b * 48271 + cell + 11) % 2147483647 < 2147483647 := Int.emod_lt_of_pos _ (by decide)
        refine ⟨_, rfl, _, _, rfl, rfl, ⟨by decide, by decide, by decide⟩, _, _, rfl, rfl, _, rfl, ?_⟩
        refine ite2 (fun hg => ?_) (fun hg => ?_)
        · refine ⟨_, rfl, _, rfl, _, _, rfl, rfl, ⟨mp, by show m < 1073741824; omega⟩, _, rfl, r, _, _, _, rfl, rfl, upd_same, rfl, ?_⟩
          exact ⟨_, rfl, .inl ⟨_, rfl, _, rfl, _, _, rfl, rfl, mp, fin cell (a + 1) ((b * 48271 + cell + 11) % 2147483647) (cell / m) _ (upd_upd.trans upd_upd) (by omega) p1 p2⟩⟩
        · exact ⟨_, rfl, .inl ⟨_, rfl, _, rfl, _, _, rfl, rfl, mp, fin cell (a + 1) ((b * 48271 + cell + 11) % 2147483647) c _ upd_upd (by omega) p1 p2⟩⟩
end
end Dr
set_option maxRecDepth 100000
set_option maxHeartbeats 4000000
namespace Dr
open PySem PySem.Spec PyProof.Rows L2
theorem yesT {A B : Hp → Prop} {σ : L2.St} {H : Hp} (h : A H) : tYes σ H (fun b H3 => if b = true then A H3 else B H3) := h
/-! ### comprehensions over two tuples (lists) of ints -/
theorem zw_get {f : Int → Int → Int} {x y : List Int} {i : Nat} {u v : Int} (hx : x[i]? = some u) (hy : y[i]? = some v) : (List.zipWith f x y)[i]? = some (f u v) := by
  rw [List.getElem?_zipWith, hx, hy]
theorem take_zw {f : Int → Int → Int} {x y : List Int} {i : Nat} {u v : Int} (hx : x[i]? = some u) (hy : y[i]? = some v) : (List.zipWith f x y).take (i + 1) = (List.zipWith f x y).take i ++ [f u v] := by
  rw [List.take_add_one, zw_get hx hy]; rfl
abbrev g2 (K : PySem.W.Frag) (i j : Nat) : TG := gTup K 2 (gCons (gName i) (gCons (gName j) gNil))
section
variable {K : PySem.W.Frag} {a b D : Addr} {x y : List Int} {n i j : Nat} {te : TE} {σ : L2.St} {H1 : Hp} {Qd : Hp → Prop} {J : It}
theorem lc_pairs (G : Hp → Prop) (w : Walk J n G (YPair (fun i => (x.map V.int)[i]?) (fun i => (y.map V.int)[i]?))) (f : Int → Int → Int) (hx : x.length = n) (hy : y.length = n) (hn : n ≤ 1000) (hG : ∀ H, Same H1 H → G H) (hD : H1 D = none)
    (hw : ∀ u v, wipe (((wipe σ [i, j]).set i u).set j v) [i, j] = wipe σ [i, j]) (he : ∀ u ∈ x, ∀ v ∈ y, ∀ H Q, Q (.int (f u v)) H → te (((wipe σ [i, j]).set i (some (.int u))).set j (some (.int v))) H Q)
    (hd : ∀ H', Same H1 H' → H' D = some (.lst ((List.zipWith f x y).map V.int)) → Qd H') :
    ∃ W : Nat → Nat → Hp → Prop, (∃ m, W 0 m (upd H1 D (.lst []))) ∧ ∀ i' m H, W i' m H →
      (J.stop i' H ∧ Qd H) ∨ (J.go i' H ∧ ∃ Nx : Hp → Prop, (∀ H', Nx H' → ∃ m', m' < m ∧ W (i' + 1) m' H') ∧ ∀ x H', J.yld i' H x H' → g2 K i j x (wipe σ [i, j]) H' fun σ2 H2 => wipe σ2 [i, j] = wipe σ [i, j] ∧ tYes σ2 H2 fun b H3 =>
        if b = true then te σ2 H3 fun y H4 => ∃ acc, H4 D = some (.lst acc) ∧ acc.length < sizeLine ∧ Nx (upd H4 D (.lst (acc ++ [y]))) else Nx H3) := by
  refine lc_it w (fun k H => Same H1 H ∧ H D = some (.lst (((List.zipWith f x y).take k).map V.int))) ⟨same_upd hD, upd_same⟩ (fun k H _ h => hG H h.1) ?_ ?_
  · rintro k v H H' hk ⟨s, hDk⟩ ⟨T, u, z, rfl, hT, rfl, eu, ez⟩
    obtain ⟨u, hu, rfl⟩ := ivs_get eu
    obtain ⟨z, hz, rfl⟩ := ivs_get ez
    have nTD : D ≠ T := ne_of_none hDk hT
    refine ⟨T, [.int u, .int z], rfl, SqT.of upd_same, rfl, _, _, rfl, _, _, rfl, rfl, hw _ _, yesT ?_⟩
    refine he u (List.mem_of_getElem? hu) z (List.mem_of_getElem? hz) _ _ ⟨_, (upd_ne nTD).trans hDk, ?_, ?_, ?_⟩
    · rw [List.length_map, List.length_take]
      exact small1000 (by omega)
    · intro b o e
      rw [upd_ne (ne_of_none e hD), upd_ne (ne_of_none (s b o e) hT)]
      exact s b o e
    · show upd (upd H T (.tup [.int u, .int z])) D _ D = _
      rw [upd_same, take_zw hu hz, List.map_append]
      rfl
  · rintro H ⟨s, h⟩
    refine hd H s ?_
    rw [h, List.take_of_length_le]
    rw [List.length_zipWith]; omega
theorem lc_zT (f : Int → Int → Int) (ha : IT H1 a x) (hb : IT H1 b y) (hx : x.length = n) (hy : y.length = n) (hn : n ≤ 1000) (hD : H1 D = none)
    (hw : ∀ u v, wipe (((wipe σ [i, j]).set i u).set j v) [i, j] = wipe σ [i, j]) (he : ∀ u ∈ x, ∀ v ∈ y, ∀ H Q, Q (.int (f u v)) H → te (((wipe σ [i, j]).set i (some (.int u))).set j (some (.int v))) H Q)
    (hd : ∀ H', Same H1 H' → H' D = some (.lst ((List.zipWith f x y).map V.int)) → Qd H') :
    ∃ W : Nat → Nat → Hp → Prop, (∃ m, W 0 m (upd H1 D (.lst []))) ∧ ∀ i' m H, W i' m H →
      ((RZ.ItzT K a b).stop i' H ∧ Qd H) ∨ ((RZ.ItzT K a b).go i' H ∧ ∃ Nx : Hp → Prop, (∀ H', Nx H' → ∃ m', m' < m ∧ W (i' + 1) m' H') ∧ ∀ x H', (RZ.ItzT K a b).yld i' H x H' → g2 K i j x (wipe σ [i, j]) H' fun σ2 H2 => wipe σ2 [i, j] = wipe σ [i, j] ∧ tYes σ2 H2 fun b H3 =>
        if b = true then te σ2 H3 fun y H4 => ∃ acc, H4 D = some (.lst acc) ∧ acc.length < sizeLine ∧ Nx (upd H4 D (.lst (acc ++ [y]))) else Nx H3) :=
  lc_pairs _ (walk_zipT (K := K) (a := a) (b := b) (xs := x.map V.int) (ys := y.map V.int) (by simpa using hx) (by simpa using hy)) f hx hy hn (fun H s => ⟨.inl (.inl (s _ _ ha)), .inl (.inl (s _ _ hb))⟩) hD hw he hd
end
/-! ### what the defs compute -/
def addL (p : Int) (x y : List Int) (f : Int) : List Int := List.zipWith (fun l r => (l + f * r) % p) x y
def scaleL (p : Int) (x : List Int) (f : Int) : List Int := x.map fun n => f * n % p
def dot (p : Int) (x y : List Int) : Int := (List.zipWith (fun l r => l * r) x y).sum % p
/-- numbers that may be factors -/
def Sm (i : Int) : Prop := -18446744073709551616 < i ∧ i < 18446744073709551616
def spAdded : Sp := fun vs H Q _ => ∃ (p f : Int) (a b : Addr) (x y : List Int), vs = [.int p, .ref a, .ref b, .int f] ∧ 0 < p ∧ Sm f ∧ IT H a x ∧ IT H b y ∧ x.length = y.length ∧ x.length ≤ 1000 ∧ ∀ c H', Same H H' → IT H' c (addL p x y f) → Q (.ref c) H'
def spScaled : Sp := fun vs H Q _ => ∃ (p f : Int) (a : Addr) (x : List Int), vs = [.int p, .ref a, .int f] ∧ 0 < p ∧ Sm f ∧ IT H a x ∧ x.length ≤ 1000 ∧ ∀ c H', Same H H' → IT H' c (scaleL p x f) → Q (.ref c) H'
def spMet : Sp := fun vs H Q _ => ∃ (p : Int) (a b : Addr) (x y : List Int), vs = [.int p, .ref a, .ref b] ∧ 0 < p ∧ (∀ u ∈ x, Sm u) ∧ IT H a x ∧ IT H b y ∧ x.length = y.length ∧ x.length ≤ 1000 ∧ ∀ H', Same H H' → Q (.int (dot p x y)) H'
section
variable {P : Program} {w : World} {K : PySem.W.Frag} {mg : Str → Option Value} {base : Heap}
theorem scAdded : FnScope ["prime", "one", "other", "factor", "left", "right"] ["prime", "one", "other", "factor"] (defScope sAdded) := ⟨rfl, rfl, rfl, by decide +kernel, rfl, by decide +kernel, by decide +kernel⟩
theorem ok_added {f : Addr} {fd : FuncData} {dvs : List V} (F : FunD K "added" "added" (defArgs sAdded) (defBody sAdded) (defScope sAdded) dvs [] f fd) (T : TX mg) : FnOk P w K mg base CX0 1 f fd ["prime", "one", "other", "factor"] spAdded := by
  refine F.ok scAdded (fun vs H Q E h => ?_) (fun cdv A outer s H vs Q E hr h => ?_)
  · obtain ⟨p, f, a, b, x, y, rfl, _⟩ := h; rfl
  · obtain ⟨p, f, a, b, x, y, rfl, hp, hf, ha, hb, hl, hn, k⟩ := h
    refine ⟨_, PSs.nox (pss_one (ps_ret (pe_callTy call_tuple_of (by rfl) T.tuple b_tuple (pa_cons
      (pe_lc (own := [("left", 4), ("right", 5)]) (g := g2 K 4 5) (tt := tYes) rfl scAdded.nd (RZ.pi_zipA (by rfl) T.zip (pa_cons (pv 1) (pa_cons (pv 2) pa_nil)))
        (blkOk_by (N := ["prime", "one", "other", "factor", "left", "right"]) (sc := defScope sAdded) (by decide +kernel))
        (fun _ _ _ _ _ => pg_tup rfl (pgs_cons (pg_name (i := 4) scAdded.nd rfl (Or.inl rfl)) (pgs_cons (pg_name (i := 5) scAdded.nd rfl (Or.inl rfl)) pgs_nil))) (fun _ _ _ _ _ => pts_nil)
        (fun _ _ _ _ _ => pe_op op_mod (pe_op op_add (pv 4) (pe_op op_mul (pv 3) (pv 5))) (pv 0))) pa_nil)))), ?_⟩
    refine ⟨_, rfl, _, rfl, a, b, _, _, rfl, .inr ⟨SqT.of ha, SqT.of hb, fun D hD => lc_zT (fun l r => (l + f * r) % p) ha hb rfl hl.symm hn hD (fun _ _ => rfl) (fun u _ v _ H2 Q2 q => ?_) (fun H2 s2 h2 => ?_)⟩⟩
    · exact ⟨_, rfl, _, rfl, _, rfl, _, _, rfl, rfl, .inl ⟨hf.1, hf.2⟩, _, _, rfl, rfl, _, rfl, _, _, rfl, rfl, hp, q⟩
    · exact ⟨D, _, rfl, .inl ⟨SqL.of h2, fun l nl => k l _ (same_upd2 s2 (s2.free nl)) upd_same⟩⟩
theorem scMet : FnScope ["prime", "one", "other", "left", "right"] ["prime", "one", "other"] (defScope sMet) := ⟨rfl, rfl, rfl, by decide +kernel, rfl, by decide +kernel, by decide +kernel⟩
theorem ok_met {f : Addr} {fd : FuncData} (F : Fun K "met" "met" sMet f fd) (T : TX mg) : FnOk P w K mg base CX0 1 f fd ["prime", "one", "other"] spMet := by
  refine F.ok scMet (fun vs H Q E h => ?_) (fun cdv A outer s H vs Q E hr h => ?_)
  · obtain ⟨p, a, b, x, y, rfl, _⟩ := h; rfl
  · obtain ⟨p, a, b, x, y, rfl, hp, hs, ha, hb, hl, hn, k⟩ := h
    refine ⟨_, pss_one (ps_ret (pe_op op_mod (pe_callB (cr_sum rfl) (by rfl) T.sum b_sum (pa_cons
      (pe_lc (own := [("left", 3), ("right", 4)]) (g := g2 K 3 4) (tt := tYes) rfl scMet.nd (RZ.pi_zipA (by rfl) T.zip (pa_cons (pv 1) (pa_cons (pv 2) pa_nil)))
        (blkOk_by (N := ["prime", "one", "other", "left", "right"]) (sc := defScope sMet) (by decide +kernel))
        (fun _ _ _ _ _ => pg_tup rfl (pgs_cons (pg_name (i := 3) scMet.nd rfl (Or.inl rfl)) (pgs_cons (pg_name (i := 4) scMet.nd rfl (Or.inl rfl)) pgs_nil))) (fun _ _ _ _ _ => pts_nil)
        (fun _ _ _ _ _ => pe_op op_mul (pv 3) (pv 4))) pa_nil)) (pv 0))), ?_⟩
    refine ⟨_, rfl, _, rfl, a, b, _, _, rfl, .inr ⟨SqT.of ha, SqT.of hb, fun D hD => lc_zT (fun l r => l * r) ha hb rfl hl.symm hn hD (fun _ _ => rfl) (fun u hu v _ H2 Q2 q => ?_) (fun H2 s2 h2 => ?_)⟩⟩
    · exact ⟨_, rfl, _, rfl, _, _, rfl, rfl, .inl ⟨(hs u hu).1, (hs u hu).2⟩, q⟩
    · exact ⟨D, _, rfl, SqL.of h2, _, rfl, _, _, rfl, rfl, hp, k H2 s2⟩
theorem scScaled : FnScope ["prime", "row", "factor", "number"] ["prime", "row", "factor"] (defScope sScaled) := ⟨rfl, rfl, rfl, by decide +kernel, rfl, by decide +kernel, by decide +kernel⟩
theorem ok_scaled {f : Addr} {fd : FuncData} (F : Fun K "scaled" "scaled" sScaled f fd) (T : TX mg) : FnOk P w K mg base CX0 1 f fd ["prime", "row", "factor"] spScaled := by
  refine F.ok scScaled (fun vs H Q E h => ?_) (fun cdv A outer s H vs Q E hr h => ?_)
  · obtain ⟨p, f, a, x, rfl, _⟩ := h; rfl
  · obtain ⟨p, f, a, x, rfl, hp, hf, ha, hn, k⟩ := h
    refine ⟨_, pss_one (ps_ret (pe_callTy call_tuple_of (by rfl) T.tuple b_tuple (pa_cons
      (pe_lc (own := [("number", 3)]) (g := gName 3) (tt := tYes) rfl scScaled.nd (pi_tup (pv 1))
        (blkOk_by (N := ["prime", "row", "factor", "number"]) (sc := defScope sScaled) (by decide +kernel))
        (fun _ _ _ _ _ => pg_name (i := 3) scScaled.nd rfl (Or.inl rfl)) (fun _ _ _ _ _ => pts_nil)
        (fun _ _ _ _ _ => pe_op op_mod (pe_op op_mul (pv 2) (pv 3)) (pv 0))) pa_nil))), ?_⟩
    refine ⟨_, rfl, a, rfl, ⟨_, SqT.of ha⟩, fun D hD => lc_tup (K := K) (a := a) (xs := x.map V.int) (fun i H' => Same H H' ∧ H' D = some (.lst (((scaleL p x f).take i).map V.int))) ⟨same_upd hD, upd_same⟩ (fun i H' _ h => SqT.of (h.1 _ _ ha)) ?_ ?_⟩
    · rintro i v H' hv ⟨s, hDi⟩
      obtain ⟨u, hu, rfl⟩ := ivs_get hv
      have hil : i < x.length := (List.getElem?_eq_some_iff.mp hu).1
      refine ⟨rfl, yesT ⟨_, rfl, _, rfl, _, _, rfl, rfl, .inl ⟨hf.1, hf.2⟩, _, rfl, _, _, rfl, rfl, hp, _, hDi, ?_, same_upd2 s hD, ?_⟩⟩
      · rw [List.length_map, List.length_take]; exact small1000 (by omega)
      · show upd H' D _ D = _
        have e : (scaleL p x f)[i]? = some (f * u % p) := by unfold scaleL; rw [List.getElem?_map, hu]; rfl
        rw [upd_same, List.take_add_one, e, List.map_append]
        rfl
    · rintro H' ⟨s, hDi⟩
      have e : (scaleL p x f).take (x.map V.int).length = scaleL p x f := List.take_of_length_le (by simp [scaleL])
      rw [e] at hDi
      exact ⟨D, _, rfl, .inl ⟨SqL.of hDi, fun l nl => k l _ (same_upd2 s (s.free nl)) upd_same⟩⟩
end
end Dr
set_option maxRecDepth 100000
set_option maxHeartbeats 4000000
namespace Dr
open PySem PySem.Spec PyProof.Rows L2
/-- how the def x is found and takes its arguments -/
structure Cd (K : PySem.W.Frag) (mg : Str → Option Value) (x : Str) (f : Addr) (fd : FuncData) (ps : List Str) : Prop where
  m : mg x = some (.ref f)
  k : PySem.W.keepIn K (.ref f) = true
  b : Binds K fd ps []
theorem plen {α β : Type} {G : α → β → Prop} : ∀ {l₁ : List α} {l₂ : List β}, Paired G l₁ l₂ → l₁.length = l₂.length
  | _, _, .nil => rfl
  | _, _, .cons _ t => congrArg (· + 1) (plen t)
/-! ### pick, inverse, lead, times -/
def spPick (K : PySem.W.Frag) : Sp := fun vs H Q _ => ∃ (r sc t : Addr) (ns : List Int) (xs : List V), vs = [.ref r, .ref t] ∧ RowAt K H r sc ns ∧ H t = some (.lst xs) ∧ t ≠ r ∧ 1 ≤ xs.length ∧ xs.length ≤ 1000 ∧
  ∀ (v : V) (H' : Hp), v ∈ xs → RowAt K H' r sc ns → Only r H H' → Q v H'
def PrimeOk (p : Int) : Prop := p = 2 ∨ p = 3 ∨ p = 5 ∨ p = 7
theorem PrimeOk.pos {p : Int} (h : PrimeOk p) : 1 < p ∧ p ≤ 7 := by rcases h with h | h | h | h <;> omega
theorem inv_ex {p x : Int} (h : PrimeOk p) (h0 : 0 < x) (h1 : x < p) : ∃ u : Int, 0 < u ∧ u < p ∧ u * x % p = 1 := by
  rcases h with rfl | rfl | rfl | rfl
  · have : x = 1 := by omega
    subst this; exact ⟨1, by decide⟩
  · have : x = 1 ∨ x = 2 := by omega
    rcases this with rfl | rfl
    · exact ⟨1, by decide⟩
    · exact ⟨2, by decide⟩
  · have : x = 1 ∨ x = 2 ∨ x = 3 ∨ x = 4 := by omega
    rcases this with rfl | rfl | rfl | rfl
    · exact ⟨1, by decide⟩
    · exact ⟨3, by decide⟩
    · exact ⟨2, by decide⟩
    · exact ⟨4, by decide⟩
  · have : x = 1 ∨ x = 2 ∨ x = 3 ∨ x = 4 ∨ x = 5 ∨ x = 6 := by omega
    rcases this with rfl | rfl | rfl | rfl | rfl | rfl
    · exact ⟨1, by decide⟩
    · exact ⟨4, by decide⟩
    · exact ⟨5, by decide⟩
    · exact ⟨2, by decide⟩
    · exact ⟨3, by decide⟩
    · exact ⟨6, by decide⟩
def spInv : Sp := fun vs H Q _ => ∃ (p x : Int), vs = [.int p, .int x] ∧ PrimeOk p ∧ 0 < x ∧ x < p ∧ ∀ (u : Int) (H' : Hp), Same H H' → 0 < u → u < p → u * x % p = 1 → Q (.int u) H'
def spLead : Sp := fun vs H Q _ => ∃ (a : Addr) (x : List Int), vs = [.ref a] ∧ IT H a x ∧ x.length ≤ 1000 ∧ (∀ H', Same H H' → (∀ (i : Nat) (n : Int), x[i]? = some n → n = 0) → Q .non H') ∧
  ∀ (i : Nat) (n : Int) (H' : Hp), Same H H' → x[i]? = some n → n ≠ 0 → Q (.int i) H'
def spTimes : Sp := fun vs H Q _ => ∃ (p : Int) (t c : Addr) (L : List (List Int)) (y : List Int), vs = [.int p, .ref t, .ref c] ∧ 0 < p ∧ TT H t L ∧ IT H c y ∧ L.length ≤ 1000 ∧ y.length ≤ 1000 ∧ (∀ x ∈ L, x.length = y.length ∧ ∀ u ∈ x, Sm u) ∧
  ∀ b H', Same H H' → IT H' b (L.map fun x => dot p x y) → Q (.ref b) H'
section
variable {P : Program} {w : World} {K : PySem.W.Frag} {mg : Str → Option Value} {base : Heap}
theorem scPick : FnScope ["_law_row_here", "_law_things"] ["_law_row_here", "_law_things"] (defScope sPick) := ⟨rfl, rfl, rfl, by decide +kernel, rfl, by decide +kernel, by decide +kernel⟩
theorem ok_pick {f fT : Addr} {fd fdT : FuncData} {psT : List Str} (F : Fun K "_law_pick" "_law_pick" sPick f fd) (T : TX mg) (CT : Cd K mg "_law_taken" fT fdT psT) (G : FnOk P w K mg base CX0 1 fT fdT psT (spTaken K)) : FnOk P w K mg base CX0 2 f fd ["_law_row_here", "_law_things"] (spPick K) := by
  refine F.ok scPick (fun vs H Q E h => ?_) (fun cdv A outer s H vs Q E hr h => ?_)
  · obtain ⟨r, sc, t, ns, xs, rfl, _⟩ := h; rfl
  · obtain ⟨r, sc, t, ns, xs, rfl, R, ht, htr, h1, h2, k⟩ := h
    refine ⟨_, pss_one (ps_ret (pe_ix ix_list (pv 1) (pe_call G hr rfl CT.m CT.k CT.b .nil pass0 (pa_cons (pv 0) (pa_cons (pe_callB call_len_seq (by rfl) T.len PySem.boot_len (pa_cons (pv 1) pa_nil)) pa_nil))) (fun _ _ => rfl))), ?_⟩
    refine ⟨_, rfl, _, rfl, _, rfl, t, _, rfl, .inl (SqL.of ht), r, sc, ns, (xs.length : Int), rfl, R, by omega, by omega, fun v H' h0 h3 R' o => ?_⟩
    have hv : xs[v.toNat]? = some (xs[v.toNat]'(by omega)) := List.getElem?_eq_getElem _
    have e : ((v.toNat : Nat) : Int) = v := by omega
    have hat := atI_nat hv
    rw [e] at hat
    exact ⟨t, _, _, xs[v.toNat]'(by omega), rfl, rfl, SqL.of ((o t htr).trans ht), hat, k _ _ (List.mem_of_getElem? hv) R' o⟩
theorem scInv : FnScope ["prime", "number", "one"] ["prime", "number"] (defScope sInv) := ⟨rfl, rfl, rfl, by decide +kernel, rfl, by decide +kernel, by decide +kernel⟩
theorem ok_inv {f : Addr} {fd : FuncData} (F : Fun K "inverse" "inverse" sInv f fd) (T : TX mg) : FnOk P w K mg base CX0 1 f fd ["prime", "number"] spInv := by
  refine F.ok scInv (fun vs H Q E h => ?_) (fun cdv A outer s H vs Q E hr h => ?_)
  · obtain ⟨p, x, rfl, _⟩ := h; rfl
  · obtain ⟨p, x, rfl, hp, h0, h1, k⟩ := h
    have hp7 := hp.pos
    refine ⟨_, pss_one (ps_ret (pe_ix ix_list
      (pe_lc (own := [("one", 2)]) (g := gName 2) rfl scInv.nd (pi_range2 (by rfl) T.range (pa_cons pe_int (pa_cons (pv 0) pa_nil)))
        (blkOk_by (N := ["prime", "number", "one"]) (sc := defScope sInv) (by decide +kernel))
        (fun _ _ _ _ _ => pg_name (i := 2) scInv.nd rfl (Or.inl rfl)) (fun _ _ _ _ _ => pts_one (pt_cmpR op_eq (pe_op op_mod (pe_op op_mul (pv 2) (pv 1)) (pv 0)) pe_int (nomark _)))
        (fun _ _ _ _ _ => pv 2)) pe_int (fun _ _ => rfl))), ?_⟩
    refine ⟨_, rfl, 1, p, rfl, ⟨by decide, by decide, by omega, by omega⟩, fun D hD => ?_⟩
    let fs : Nat → List Int := fun m => (((List.range m).map fun i => (1 : Int) + (i : Nat)).filter fun u => decide (u * x % p = 1))
    have fs1 : ∀ m, fs (m + 1) = fs m ++ (if (1 + (m : Int)) * x % p = 1 then [1 + (m : Int)] else []) := by
      intro m
      simp only [fs, List.range_succ, List.map_append, List.filter_append, List.map_cons, List.map_nil]
      congr 1
      by_cases c : (1 + (m : Int)) * x % p = 1 <;> simp [c]
    have fsl : ∀ m, (fs m).length ≤ m := fun m => by
      refine Nat.le_trans (List.length_filter_le _ _) ?_
      simp
    refine lc_range (lo := 1) (n := (p - 1).toNat) (fun i H' => Same H H' ∧ H' D = some (.lst ((fs i).map V.int))) ⟨same_upd hD, upd_same⟩ ?_ ?_
    · rintro i H' hi ⟨s2, hDi⟩
      refine ⟨rfl, _, rfl, _, rfl, _, _, rfl, rfl, .inl ⟨by show -18446744073709551616 < 1 + (i : Int); omega, by show 1 + (i : Int) < 18446744073709551616; omega⟩, _, rfl, _, _, rfl, rfl, by show 0 < p; omega, rfl, _, rfl, ?_⟩
      refine ite2 (fun c => ?_) (fun c => ?_)
      · refine ⟨_, rfl, _, hDi, ?_, same_upd2 s2 hD, ?_⟩
        · rw [List.length_map]; exact small1000 (Nat.le_trans (fsl i) (by omega))
        · show upd H' D _ D = _
          have c' : (1 + (i : Int)) * x % p = 1 := by simpa using c
          rw [upd_same, fs1, if_pos c', List.map_append]; rfl
      · refine ⟨s2, ?_⟩
        have c' : ¬ (1 + (i : Int)) * x % p = 1 := by simpa using c
        rw [fs1, if_neg c', List.append_nil]; exact hDi
    · rintro H' ⟨s2, hDi⟩
      obtain ⟨u, u0, u1, u2⟩ := inv_ex hp h0 h1
      have hm : u ∈ fs (p - 1).toNat := by
        refine List.mem_filter.mpr ⟨List.mem_map.mpr ⟨(u - 1).toNat, List.mem_range.mpr (by omega), by omega⟩, by simpa using u2⟩
      cases e : fs (p - 1).toNat with
      | nil => rw [e] at hm; cases hm
      | cons v vs =>
        have hv : v ∈ fs (p - 1).toNat := by rw [e]; exact List.mem_cons_self
        obtain ⟨hv1, hv2⟩ := List.mem_filter.mp hv
        obtain ⟨j, hj, rfl⟩ := List.mem_map.mp hv1
        have hj' := List.mem_range.mp hj
        rw [e] at hDi
        exact ⟨D, _, _, .int (1 + (j : Nat)), rfl, rfl, SqL.of hDi, atI_nat (j := 0) rfl, k (1 + (j : Nat)) _ s2 (by omega) (by omega) (by simpa using hv2)⟩
theorem scLead : FnScope ["row", "place", "number"] ["row"] (defScope sLead) := ⟨rfl, rfl, rfl, by decide +kernel, rfl, by decide +kernel, by decide +kernel⟩
theorem ok_lead {f : Addr} {fd : FuncData} (F : Fun K "lead" "lead" sLead f fd) (T : TX mg) : FnOk P w K mg base CX0 1 f fd ["row"] spLead := by
  refine F.ok scLead (fun vs H Q E h => ?_) (fun cdv A outer s H vs Q E hr h => ?_)
  · obtain ⟨a, x, rfl, _⟩ := h; rfl
  · obtain ⟨a, x, rfl, ha, hn, k1, k2⟩ := h
    refine ⟨_, pss_cons (ps_for PassesOwn.never rfl (pi_enumT (by rfl) T.enumerate (pa_cons (pv 0) pa_nil)) (pg_tup rfl (pgs_cons (pg_name (i := 1) scLead.nd rfl (Or.inl rfl)) (pgs_cons (pg_name (i := 2) scLead.nd rfl (Or.inl rfl)) pgs_nil)))
        (pss_one (ps_if (pt_cmpR op_ne (pv 2) pe_int (nomark _)) (pss_one (ps_ret (pv 1))) pss_nil)))
      (pss_one (ps_ret pe_non)), ?_⟩
    refine ⟨_, rfl, a, _, rfl, SqT.of ha, ?_⟩
    refine for_it (walk_enumT (xs := x.map V.int)) (fun i σ H' => Same H H' ∧ (∃ o1 o2, σ = [some (.ref a), o1, o2]) ∧ ∀ (j : Nat) (n : Int), j < i → x[j]? = some n → n = 0) ⟨Same.refl _, ⟨_, _, rfl⟩, fun j n hj => absurd hj (Nat.not_lt_zero j)⟩ (fun i σ H' _ h => SqT.of (h.1 _ _ ha)) ?_ ?_
    · rintro i v σ H1 H2 hi ⟨s1, ⟨o1, o2, rfl⟩, hz⟩ ⟨t, u, z, rfl, ht, rfl, eu, ez⟩
      obtain rfl : V.int (i : Nat) = u := by simpa using eu
      obtain ⟨n, hn, rfl⟩ := ivs_get ez
      refine ⟨t, [.int (i : Nat), .int n], rfl, SqT.of upd_same, rfl, _, _, rfl, _, _, rfl, rfl, _, rfl, rfl, _, rfl, ite2 (fun c => ?_) (fun c => ?_)⟩
      · exact ⟨_, rfl, k2 i n _ (same_upd2 s1 (s1.free ht)) hn (by simpa using c)⟩
      · refine ⟨same_upd2 s1 (s1.free ht), ⟨_, _, rfl⟩, fun j m hj hm => ?_⟩
        by_cases e : j = i
        · subst e
          rw [hn] at hm
          obtain rfl := Option.some.inj hm
          simpa using c
        · exact hz j m (by omega) hm
    · rintro σ H1 ⟨s1, _, hz⟩
      refine k1 H1 s1 fun i n h => hz i n ?_ h
      rw [List.length_map]; exact (List.getElem?_eq_some_iff.mp h).1
theorem scTimes : FnScope ["prime", "table", "column", "row"] ["prime", "table", "column"] (defScope sTimes) := ⟨rfl, rfl, rfl, by decide +kernel, rfl, by decide +kernel, by decide +kernel⟩
theorem ok_times {f fM : Addr} {fd fdM : FuncData} {psM : List Str} (F : Fun K "times" "times" sTimes f fd) (T : TX mg) (CM : Cd K mg "met" fM fdM psM) (G : FnOk P w K mg base CX0 1 fM fdM psM spMet) : FnOk P w K mg base CX0 2 f fd ["prime", "table", "column"] spTimes := by
  refine F.ok scTimes (fun vs H Q E h => ?_) (fun cdv A outer s H vs Q E hr h => ?_)
  · obtain ⟨p, t, c, L, y, rfl, _⟩ := h; rfl
  · obtain ⟨p, t, c, L, y, rfl, hp, hT, hc, hl, hy, hL, k⟩ := h
    obtain ⟨rs, ht, hR⟩ := id hT
    have hrl : rs.length = L.length := plen hR
    refine ⟨_, pss_one (ps_ret (pe_callTy call_tuple_of (by rfl) T.tuple b_tuple (pa_cons
      (pe_lc (own := [("row", 3)]) (g := gName 3) (tt := tYes) rfl scTimes.nd (pi_tup (pv 1))
        (blkOk_by (N := ["prime", "table", "column", "row"]) (sc := defScope sTimes) (by decide +kernel))
        (fun _ _ _ _ _ => pg_name (i := 3) scTimes.nd rfl (Or.inl rfl)) (fun _ _ _ _ _ => pts_nil)
        (fun _ _ _ _ _ => pe_call G hr rfl CM.m CM.k CM.b .nil pass0 (pa_cons (pv 0) (pa_cons (pv 3) (pa_cons (pv 2) pa_nil))))) pa_nil))), ?_⟩
    refine ⟨_, rfl, t, rfl, ⟨_, SqT.of ht⟩, fun D hD => lc_tup (K := K) (a := t) (xs := rs) (fun i H' => Same H H' ∧ H' D = some (.lst (((L.map fun x => dot p x y).take i).map V.int))) ⟨same_upd hD, upd_same⟩ (fun i H' _ h => SqT.of (h.1 _ _ ht)) ?_ ?_⟩
    · rintro i v H' hv ⟨s2, hDi⟩
      obtain ⟨x, hx, a, rfl, ha⟩ := pget hR hv
      have hxm := hL x (List.mem_of_getElem? hx)
      refine ⟨rfl, yesT ⟨_, rfl, _, rfl, _, rfl, p, a, c, x, y, rfl, hp, hxm.2, s2 _ _ ha, s2 _ _ hc, hxm.1, by omega, fun H3 s3 => ⟨_, s3 _ _ hDi, ?_, same_upd2 (s2.trans s3) hD, ?_⟩⟩⟩
      · have hil := (List.getElem?_eq_some_iff.mp hx).1
        rw [List.length_map, List.length_take]; exact small1000 (by omega)
      · show upd H3 D _ D = _
        have e : (L.map fun x => dot p x y)[i]? = some (dot p x y) := by rw [List.getElem?_map, hx]; rfl
        rw [upd_same, List.take_add_one, e, List.map_append]
        rfl
    · rintro H' ⟨s2, hDi⟩
      have e : (L.map fun x => dot p x y).take rs.length = L.map fun x => dot p x y := List.take_of_length_le (by simp [hrl])
      rw [e] at hDi
      exact ⟨D, _, rfl, .inl ⟨SqL.of hDi, fun l nl => k l _ (same_upd2 s2 (s2.free nl)) upd_same⟩⟩
end
end Dr
set_option maxRecDepth 100000
set_option maxHeartbeats 4000000
namespace Dr
open PySem PySem.Spec PyProof.Rows L2
/-! ### the mathematics of reduced -/
def In0 (p : Int) (x : List Int) : Prop := ∀ u ∈ x, 0 ≤ u ∧ u < p
def Good (p : Int) (m : Nat) (L : List (List Int)) : Prop := Ind p L ∧ ∀ x ∈ L, x.length = m ∧ In0 p x
theorem addL_len {p f : Int} {x y : List Int} (h : x.length = y.length) : (addL p x y f).length = x.length := by simp [addL, h]
theorem addL_in {p f : Int} {x y : List Int} (hp : 0 < p) : In0 p (addL p x y f) := by
  intro u hu
  unfold addL at hu
  obtain ⟨i, hi⟩ := List.getElem?_of_mem hu
  rw [List.getElem?_zipWith] at hi
  cases e1 : x[i]? with
  | none => rw [e1] at hi; cases hi
  | some a =>
    cases e2 : y[i]? with
    | none => rw [e1, e2] at hi; cases hi
    | some b =>
      rw [e1, e2] at hi
      obtain rfl := Option.some.inj hi
      exact ⟨Int.emod_nonneg _ (by omega), Int.emod_lt_of_pos _ hp⟩
theorem scaleL_len {p f : Int} {x : List Int} : (scaleL p x f).length = x.length := by simp [scaleL]
theorem scaleL_in {p f : Int} {x : List Int} (hp : 0 < p) : In0 p (scaleL p x f) := by
  intro u hu
  obtain ⟨n, _, rfl⟩ := List.mem_map.mp hu
  exact ⟨Int.emod_nonneg _ (by omega), Int.emod_lt_of_pos _ hp⟩
theorem dvd_emod (p a : Int) : p ∣ a % p - a := ⟨-(a / p), by have := Int.mul_ediv_add_emod a p; rw [Int.mul_neg]; omega⟩
theorem addL_at {p f : Int} {x y : List Int} (h : x.length = y.length) (j : Nat) : p ∣ at_ (addL p x y f) j - (at_ x j + f * at_ y j) := by
  unfold at_ addL
  rw [List.getD_eq_getElem?_getD, List.getD_eq_getElem?_getD, List.getD_eq_getElem?_getD, List.getElem?_zipWith]
  by_cases c : j < x.length
  · rw [List.getElem?_eq_getElem c, List.getElem?_eq_getElem (h ▸ c)]
    exact dvd_emod _ _
  · rw [List.getElem?_eq_none (by omega), List.getElem?_eq_none (by omega)]
    simp
theorem scaleL_at {p f : Int} {x : List Int} (j : Nat) : p ∣ at_ (scaleL p x f) j - f * at_ x j := by
  unfold at_ scaleL
  rw [List.getD_eq_getElem?_getD, List.getD_eq_getElem?_getD, List.getElem?_map]
  by_cases c : j < x.length
  · rw [List.getElem?_eq_getElem c]
    exact dvd_emod _ _
  · rw [List.getElem?_eq_none (by omega)]
    simp
theorem mid_get {α : Type} (A B : List α) (y : α) : (A ++ y :: B)[A.length]? = some y := by
  rw [List.getElem?_append_right (Nat.le_refl _), Nat.sub_self]; rfl
theorem mid_set {α : Type} (A B : List α) (y z : α) : (A ++ y :: B).set A.length z = A ++ z :: B := by
  rw [List.set_append_right _ _ (Nat.le_refl _), Nat.sub_self]; rfl
theorem Good.row {p : Int} {m : Nat} {A B : List (List Int)} {x : List Int} (g : Good p m (A ++ x :: B)) (hp : 1 < p) (h : ∀ (i : Nat) (n : Int), x[i]? = some n → n = 0) : False := by
  refine g.1.row hp (mid_get A B x) fun j => ?_
  unfold at_
  rw [List.getD_eq_getElem?_getD]
  cases e : x[j]? with
  | none => exact ⟨0, by simp⟩
  | some n => rw [h j n e]; exact ⟨0, by simp⟩
theorem Good.put {p : Int} {m : Nat} {A B : List (List Int)} {x z : List Int} (g : Good p m (A ++ x :: B)) (hi : Ind p ((A ++ x :: B).set A.length z)) (hl : z.length = m) (hz : In0 p z) : Good p m (A ++ z :: B) := by
  rw [mid_set] at hi
  refine ⟨hi, fun r hr => ?_⟩
  rcases List.mem_append.mp hr with h | h
  · exact g.2 r (List.mem_append.mpr (.inl h))
  · rcases List.mem_cons.mp h with rfl | h
    · exact ⟨hl, hz⟩
    · exact g.2 r (List.mem_append.mpr (.inr (List.mem_cons_of_mem _ h)))
theorem Good.mid {p : Int} {m : Nat} {A B : List (List Int)} {x : List Int} (g : Good p m (A ++ x :: B)) : x.length = m ∧ In0 p x := g.2 x (List.mem_append.mpr (.inr List.mem_cons_self))
/-- the row is taken down by an own row -/
theorem Good.down {p f : Int} {m i : Nat} {F B : List (List Int)} {r y : List Int} (g : Good p m (F ++ r :: B)) (hp : 0 < p) (hy : F[i]? = some y) : Good p m (F ++ addL p r y f :: B) := by
  have hi := (List.getElem?_eq_some_iff.mp hy).1
  have hyG : (F ++ r :: B)[i]? = some y := by rw [List.getElem?_append_left hi]; exact hy
  have l1 := g.mid.1
  have l2 := (g.2 y (List.mem_of_getElem? hyG)).1
  exact g.put (g.1.add (mid_get F B r) hyG (by omega) (addL_at (by omega))) ((addL_len (by omega)).trans l1) (addL_in hp)
theorem Good.scale {p u : Int} {m : Nat} {F B : List (List Int)} {r : List Int} {v : Int} (g : Good p m (F ++ r :: B)) (hp : 0 < p) (hu : u * v % p = 1) : Good p m (F ++ scaleL p r u :: B) := by
  refine g.put (g.1.scale (v := v) (mid_get F B r) ?_ scaleL_at) (scaleL_len.trans g.mid.1) (scaleL_in hp)
  have := Int.mul_ediv_add_emod (u * v) p
  exact ⟨u * v / p, by omega⟩
/-- all own rows are taken down by the row -/
theorem Good.all {p : Int} {m : Nat} {r : List Int} (G : List Int → Int) (hp : 0 < p) (B : List (List Int)) : ∀ (F A : List (List Int)), Good p m (A ++ (F ++ r :: B)) → Good p m (A ++ (F.map (fun y => addL p y r (G y)) ++ r :: B))
  | [], A, g => g
  | y :: F, A, g => by
    have g1 : Good p m (A ++ y :: (F ++ r :: B)) := g
    have hr : (A ++ y :: (F ++ r :: B))[A.length + 1 + F.length]? = some r := by
      rw [List.getElem?_append_right (by omega)]
      have : A.length + 1 + F.length - A.length = F.length + 1 := by omega
      rw [this, List.getElem?_cons_succ]
      exact mid_get F B r
    have l1 := g1.mid.1
    have l2 := (g1.2 r (List.mem_of_getElem? hr)).1
    have g2 := g1.put (g1.1.add (mid_get A _ y) hr (by omega) (addL_at (f := G y) (by omega))) ((addL_len (by omega)).trans l1) (addL_in hp)
    have g3 := Good.all G hp B F (A ++ [addL p y r (G y)]) (by simpa using g2)
    simpa using g3
/-! ### reduced -/
theorem hu66 {k : Nat} {A : Around} (r : Room k A) : A.units + 66 < cLine := by have := r.un; omega
def spReduced : Sp := fun vs H Q _ => ∃ (p : Int) (t : Addr) (L : List (List Int)) (m : Nat), vs = [.int p, .ref t] ∧ PrimeOk p ∧ TT H t L ∧ L.length ≤ 1000 ∧ m ≤ 1000 ∧ 1 ≤ m ∧ Good p m L ∧
  ∀ q (zs : List V) H', Same H H' → H' q = some (.lst zs) → zs.length = L.length → Q (.ref q) H'
theorem same_tup {H H' : Hp} {a : Addr} {x : List Int} (s : Same H H') (h : IT H a x) : IT H' a x := s _ _ h
section
variable {P : Program} {w : World} {K : PySem.W.Frag} {mg : Str → Option Value} {base : Heap}
theorem scReduced : FnScope ["prime", "rows", "found", "row", "own", "place"] ["prime", "rows"] (defScope sReduced) := ⟨rfl, rfl, rfl, by decide +kernel, rfl, by decide +kernel, by decide +kernel⟩
theorem ok_reduced {f fA fL fS fI : Addr} {fd fdA fdL fdS fdI : FuncData} {psA psL psS psI : List Str} (F : Fun K "reduced" "reduced" sReduced f fd) (T : TX mg)
    (CA : Cd K mg "added" fA fdA psA) (GA : FnOk P w K mg base CX0 1 fA fdA psA spAdded) (CL : Cd K mg "lead" fL fdL psL) (GL : FnOk P w K mg base CX0 1 fL fdL psL spLead)
    (CS : Cd K mg "scaled" fS fdS psS) (GS : FnOk P w K mg base CX0 1 fS fdS psS spScaled) (CI : Cd K mg "inverse" fI fdI psI) (GI : FnOk P w K mg base CX0 1 fI fdI psI spInv) :
    FnOk P w K mg base CX0 2 f fd ["prime", "rows"] spReduced := by
  refine F.ok scReduced (fun vs H Q E h => ?_) (fun cdv A outer s H vs Q E hr h => ?_)
  · obtain ⟨p, t, L, m, rfl, _⟩ := h; rfl
  · obtain ⟨p, t, L, m, rfl, hp, hT, hL, hm, hm1, hG, k⟩ := h
    have hp7 := hp.pos
    obtain ⟨rs, ht, hR⟩ := id hT
    have hrl : rs.length = L.length := plen hR
    refine ⟨_, pss_cons (ps_set (i := 2) scReduced.nd rfl (.inl rfl) (pe_lst pa_nil))
      (pss_cons (ps_for PassesOwn.never rfl (pi_tup (pv 1)) (pg_name (i := 3) scReduced.nd rfl (Or.inr rfl))
        (pss_cons (ps_for PassesOwn.never rfl (pi_list (pv 2)) (pg_name (i := 4) scReduced.nd rfl (Or.inl rfl))
          (pss_one (ps_set (i := 3) scReduced.nd rfl (.inr rfl) (pe_call GA hr rfl CA.m CA.k CA.b .nil pass0 (pa_cons (pv 0) (pa_cons (pv 3) (pa_cons (pv 4) (pa_cons
            (pe_un un_neg (pe_ix ix_tup (pv 3) (pe_call GL hr rfl CL.m CL.k CL.b .nil pass0 (pa_cons (pv 4) pa_nil)) (fun _ _ => rfl))) pa_nil))))))))
        (pss_cons (ps_set (i := 5) scReduced.nd rfl (.inr rfl) (pe_call GL hr rfl CL.m CL.k CL.b .nil pass0 (pa_cons (pv 3) pa_nil)))
        (pss_one (ps_if (pt_cmp (pc_notN (pv 5)))
          (pss_cons (ps_set (i := 3) scReduced.nd rfl (.inr rfl) (pe_call GS hr rfl CS.m CS.k CS.b .nil pass0 (pa_cons (pv 0) (pa_cons (pv 3) (pa_cons (pe_call GI hr rfl CI.m CI.k CI.b .nil pass0 (pa_cons (pv 0) (pa_cons (pe_ix ix_tup (pv 3) (pv 5) (fun _ _ => rfl)) pa_nil))) pa_nil)))))
          (pss_one (ps_set (i := 2) scReduced.nd rfl (.inl rfl) (pe_op op_cat
            (pe_lc (own := [("own", 4)]) (g := gName 4) (tt := tYes) rfl scReduced.nd (pi_list (pv 2))
              (blkOk_by (N := ["prime", "rows", "found", "row", "own", "place"]) (sc := defScope sReduced) (by decide +kernel))
              (fun _ _ _ _ _ => pg_name (i := 4) scReduced.nd rfl (Or.inl rfl)) (fun _ _ _ _ _ => pts_nil)
              (fun _ _ _ _ _ => pe_call GA hr rfl CA.m CA.k CA.b .nil pass0 (pa_cons (pv 0) (pa_cons (pv 4) (pa_cons (pv 3) (pa_cons (pe_un un_neg (pe_ix (show IxR _ (rIxT K) from ix_tup) (pv 4) (pv 5) (fun _ _ => rfl))) pa_nil))))))
            (pe_lst (pa_cons (pv 3) pa_nil)))))) pss_nil)))))
      (pss_one (ps_ret (pe_callBK (cr_sortedT (hu66 hr)) (by rfl) T.sorted b_sorted (pa_cons (pv 2) pa_nil) (pk_cons pe_bl pk_nil))))), ?_⟩
    refine ⟨by show 0 ≤ sizeLine; decide, fun q0 nq0 => ?_⟩
    refine ⟨_, rfl, t, rfl, ⟨_, SqT.of (same_upd nq0 _ _ ht)⟩, ?_⟩
    let Pv : Nat → L2.St → Hp → Prop := fun i σ H' => Same H H' ∧ ∃ q zs F o3 o4 o5, σ = [some (.int p), some (.ref t), some (.ref q), o3, o4, o5] ∧ H' q = some (.lst zs) ∧ Paired (RT H') zs F ∧ F.length = i ∧ Good p m (F ++ L.drop i)
    refine for_tup (K := K) (a := t) (xs := rs) Pv ⟨same_upd nq0, q0, [], [], _, _, _, rfl, upd_same, .nil, rfl, hG⟩ (fun i σ H' _ h => SqT.of (h.1 _ _ ht)) ?_ ?_
    · rintro i v σ H1 hv ⟨s1, q, zs, Fo, o3, o4, o5, rfl, hq, hF, hFl, hg⟩
      obtain ⟨x, hx, a, rfl, ha⟩ := pget hR hv
      have hil := (List.getElem?_eq_some_iff.mp hx).1
      have hd : L.drop i = x :: L.drop (i + 1) := by
        rw [List.drop_eq_getElem_cons hil]
        obtain ⟨_, e⟩ := List.getElem?_eq_some_iff.mp hx
        rw [e]
      rw [hd] at hg
      refine ⟨_, rfl, q, rfl, ⟨_, SqL.of hq⟩, ?_⟩
      let Pi : Nat → L2.St → Hp → Prop := fun j σ H' => Same H1 H' ∧ ∃ b r o4, σ = [some (.int p), some (.ref t), some (.ref q), some (.ref b), o4, o5] ∧ IT H' b r ∧ Good p m (Fo ++ r :: L.drop (i + 1))
      refine for_list (K := K) (a := q) (xs := zs) Pi ⟨Same.refl _, a, x, o4, rfl, s1 _ _ ha, hg⟩ (fun j σ H' _ h => SqL.of (h.1 _ _ hq)) ?_ ?_
      · rintro j v σ H2 hv ⟨s2, b, r, o4, rfl, hb, hgr⟩
        obtain ⟨y, hy, c, rfl, hc⟩ := pget hF hv
        have hc2 : IT H2 c y := s2 _ _ hc
        have hgy := hgr.2 y (List.mem_append.mpr (.inl (List.mem_of_getElem? hy)))
        have hgm := hgr.mid
        refine ⟨_, rfl, _, rfl, _, rfl, _, rfl, _, rfl, c, y, rfl, hc2, by omega, fun H3 s3 hz => ?_, fun l n H3 s3 hn hn0 => ?_⟩
        · exfalso
          have hgc : Good p m ((Fo.take j) ++ y :: (Fo.drop (j + 1) ++ r :: L.drop (i + 1))) := by
            have e : Fo = Fo.take j ++ y :: Fo.drop (j + 1) := by
              obtain ⟨hj, e⟩ := List.getElem?_eq_some_iff.mp hy
              rw [← e, ← List.drop_eq_getElem_cons hj, List.take_append_drop]
            have h := hgr
            rw [e] at h
            simpa using h
          exact hgc.row hp7.1 hz
        · have hlm : l < r.length := by
            have := (List.getElem?_eq_some_iff.mp hn).1
            omega
          have hrl : r[l]? = some r[l] := List.getElem?_eq_getElem hlm
          have hin := hgm.2 _ (List.mem_of_getElem? hrl)
          refine ⟨b, _, _, .int r[l], rfl, rfl, SqT.of (s3 _ _ hb), atI_nat (ivs_at hrl), _, rfl, ?_⟩
          refine ⟨p, -r[l], b, c, r, y, rfl, by omega, ⟨by omega, by omega⟩, s3 _ _ hb, s3 _ _ hc2, by omega, by omega, fun d H4 s4 hd4 => ?_⟩
          exact ⟨(s2.trans s3).trans s4, d, _, _, rfl, hd4, hgr.down (by omega) hy⟩
      · rintro σ H2 ⟨s2, b, r, o4, rfl, hb, hgr⟩
        have hgm := hgr.mid
        refine ⟨_, rfl, b, r, rfl, hb, by omega, fun H3 s3 hz => (hgr.row hp7.1 hz).elim, fun l n H3 s3 hn hn0 => ?_⟩
        have hlr := (List.getElem?_eq_some_iff.mp hn).1
        have hin := hgm.2 _ (List.mem_of_getElem? hn)
        refine ⟨_, rfl, true, rfl, iteT ?_⟩
        refine ⟨_, rfl, _, rfl, _, rfl, _, rfl, _, rfl, b, _, _, .int n, rfl, rfl, SqT.of (s3 _ _ hb), atI_nat (ivs_at hn), ?_⟩
        refine ⟨p, n, rfl, hp, by omega, by omega, fun u H4 s4 hu0 hu1 hu => ?_⟩
        refine ⟨p, u, b, r, rfl, by omega, ⟨by omega, by omega⟩, s4 _ _ (s3 _ _ hb), by omega, fun d H5 s5 hd5 => ?_⟩
        have hgs : Good p m (Fo ++ scaleL p r u :: L.drop (i + 1)) := hgr.scale (by omega) hu
        have S5 : Same H1 H5 := (s2.trans s3).trans (s4.trans s5)
        have hq5 : H5 q = some (.lst zs) := S5 _ _ hq
        have hF5 : Paired (RT H5) zs Fo := paired_tk (Same.tk S5) hF
        generalize hrr : scaleL p r u = rr at hgs hd5
        have hgm5 := hgs.mid
        have hzl : zs.length = Fo.length := plen hF
        refine ⟨_, rfl, q, rfl, ⟨_, SqL.of hq5⟩, fun D hD => ?_⟩
        let gf : List Int → List Int := fun y => addL p y rr (-(y.getD l 0))
        refine lc_list (K := K) (a := q) (xs := zs) (fun j H' => Same H5 H' ∧ ∃ ws, H' D = some (.lst ws) ∧ Paired (RT H') ws ((Fo.map gf).take j)) ⟨same_upd hD, [], upd_same, .nil⟩ (fun j H' _ h => SqL.of (h.1 _ _ hq5)) ?_ ?_
        · rintro j v H6 hv ⟨s6, ws, hws, hP⟩
          obtain ⟨y, hy, c, rfl, hc⟩ := pget hF5 hv
          have hgy := hgs.2 y (List.mem_append.mpr (.inl (List.mem_of_getElem? hy)))
          have hjl := (List.getElem?_eq_some_iff.mp hy).1
          have hly : l < y.length := by omega
          have hyl : y[l]? = some y[l] := List.getElem?_eq_getElem hly
          have hyd : y.getD l 0 = y[l] := by rw [List.getD_eq_getElem?_getD, hyl]; rfl
          have hyin := hgy.2 _ (List.mem_of_getElem? hyl)
          refine ⟨rfl, yesT ⟨_, rfl, _, rfl, _, rfl, _, rfl, _, rfl, c, _, _, .int y[l], rfl, rfl, SqT.of (s6 _ _ hc), atI_nat (ivs_at hyl), _, rfl, ?_⟩⟩
          refine ⟨p, -y[l], c, d, y, rr, rfl, by omega, ⟨by omega, by omega⟩, s6 _ _ hc, s6 _ _ hd5, by omega, by omega, fun e H7 s7 he7 => ?_⟩
          have hws7 : H7 D = some (.lst ws) := s7 _ _ hws
          have hwl : ws.length ≤ j := by rw [plen hP, List.length_take]; omega
          refine ⟨ws, hws7, small1000 (by omega), same_upd2 (s6.trans s7) hD, _, upd_same, ?_⟩
          have e1 : (Fo.map gf)[j]? = some (gf y) := by rw [List.getElem?_map, hy]; rfl
          rw [List.take_add_one, e1]
          have tk8 : Tk H7 (upd H7 D (.lst (ws ++ [.ref e]))) := (but_upd (r := D)).tk fun xs z => by rw [hws7] at z; cases z
          refine psnoc (paired_tk ((Same.tk s7).trans tk8) hP) ⟨e, rfl, tk8 _ _ ?_⟩
          show IT H7 e (addL p y rr (-(y.getD l 0)))
          rw [hyd]; exact he7
        · rintro H6 ⟨s6, ws, hws, hP⟩
          rw [List.take_of_length_le (by rw [List.length_map]; omega)] at hP
          have hwl : ws.length = Fo.length := by rw [plen hP, List.length_map]
          refine ⟨_, rfl, by show 1 ≤ sizeLine; decide, fun e ne => ?_⟩
          have sz : (1000 : Nat) + 1 ≤ sizeLine := by decide
          refine ⟨D, e, ws, [.ref d], rfl, rfl, same_upd ne _ _ hws, upd_same, by show ws.length + 1 ≤ sizeLine; omega, fun g ng => ?_⟩
          have S8 : Same H6 (upd (upd H6 e (.lst [.ref d])) g (.lst (ws ++ [.ref d]))) := same_upd2 (same_upd ne) ((same_upd ne).free ng)
          refine ⟨s1.trans (S5.trans (s6.trans S8)), g, ws ++ [.ref d], Fo.map gf ++ [rr], _, _, _, rfl, upd_same, psnoc (paired_tk (Same.tk S8) hP) ⟨d, rfl, S8 _ _ (s6 _ _ hd5)⟩, by simp [hFl], ?_⟩
          have := Good.all (fun y => -(y.getD l 0)) (by omega) (L.drop (i + 1)) Fo [] hgs
          simpa [gf] using this
    · rintro σ H1 ⟨s1, q, zs, Fo, o3, o4, o5, rfl, hq, hF, hFl, hg⟩
      have hg' : Good p m Fo := by
        have h := hg
        rw [hrl, List.drop_length, List.append_nil] at h
        exact h
      refine ⟨_, rfl, q, zs, Fo, rfl, rfl, SqL.of hq, ?_, fun b hb e => ?_, fun xs g hxl ng => ?_⟩
      · exact hF.mono fun v b h => let ⟨a, e, h⟩ := h; ⟨a, e, SqT.of h⟩
      · have := (hg'.2 b hb).1
        subst e
        simp at this; omega
      · exact k g xs _ (same_upd2 s1 (s1.free ng)) upd_same (by rw [hxl, plen hF, hFl, hrl])
end
end Dr
set_option maxRecDepth 100000
set_option maxHeartbeats 4000000
namespace Dr
open PySem PySem.Spec PyProof.Rows L2 DrG
/-! ### tables of generator expressions -/
abbrev TG1 (H : Hp) (p : Addr) : Prop := GxR.TabG H p
structure Gr (p1 p2 : Addr) (H H' : Hp) : Prop where
  st : ∀ b o, b ≠ p1 → b ≠ p2 → H b = some o → H' b = some o
  t1 : TG1 H p1 → TG1 H' p1
  t2 : TG1 H p2 → TG1 H' p2
structure T2 (p1 p2 : Addr) (H : Hp) : Prop where
  a : TG1 H p1
  b : TG1 H p2
section
variable {p1 p2 : Addr} {H H1 H2 : Hp}
theorem Gr.refl : Gr p1 p2 H H := ⟨fun _ _ _ _ e => e, id, id⟩
theorem Gr.trans (x : Gr p1 p2 H H1) (y : Gr p1 p2 H1 H2) : Gr p1 p2 H H2 := ⟨fun b o h1 h2 e => y.st b o h1 h2 (x.st b o h1 h2 e), fun t => y.t1 (x.t1 t), fun t => y.t2 (x.t2 t)⟩
theorem tabG_same {p : Addr} (s : Same H H1) (t : TG1 H p) : TG1 H1 p := let ⟨ps, e, q⟩ := t; ⟨ps, s _ _ e, q⟩
theorem Gr.same (s : Same H H1) : Gr p1 p2 H H1 := ⟨fun b o _ _ e => s b o e, tabG_same s, tabG_same s⟩
theorem tabG_of {p q : Addr} (x : GxR.Tabbed q H H1) (t : TG1 H p) : TG1 H1 p := by
  by_cases c : p = q
  · rw [c]; exact x.1
  · obtain ⟨ps, e, r⟩ := t
    exact ⟨ps, (x.2 p c).trans e, r⟩
theorem Gr.tab1 (x : GxR.Tabbed p1 H H1) : Gr p1 p2 H H1 := ⟨fun b o n _ e => (x.2 b n).trans e, tabG_of x, tabG_of x⟩
theorem Gr.tab2 (x : GxR.Tabbed p2 H H1) : Gr p1 p2 H H1 := ⟨fun b o _ n e => (x.2 b n).trans e, tabG_of x, tabG_of x⟩
theorem T2.gr (t : T2 p1 p2 H) (g : Gr p1 p2 H H1) : T2 p1 p2 H1 := ⟨g.t1 t.a, g.t2 t.b⟩
theorem T2.ne1 (t : T2 p1 p2 H) {a : Addr} {o : HO} (h : H a = some o) (n : ∀ ps, o ≠ .tbl ps) : a ≠ p1 := fun e => by
  obtain ⟨ps, z, _⟩ := t.a
  rw [← e, h] at z
  exact n ps (Option.some.inj z)
theorem T2.ne2 (t : T2 p1 p2 H) {a : Addr} {o : HO} (h : H a = some o) (n : ∀ ps, o ≠ .tbl ps) : a ≠ p2 := fun e => by
  obtain ⟨ps, z, _⟩ := t.b
  rw [← e, h] at z
  exact n ps (Option.some.inj z)
theorem Gr.keep (g : Gr p1 p2 H H1) (t : T2 p1 p2 H) {a : Addr} {o : HO} (h : H a = some o) (n : ∀ ps, o ≠ .tbl ps) : H1 a = some o := g.st a o (t.ne1 h n) (t.ne2 h n) h
theorem Gr.tk (g : Gr p1 p2 H H1) (t : T2 p1 p2 H) : Tk H H1 := fun b xs e => g.keep t e (fun ps z => nomatch z)
end
/-- a def whose code object stands at c, with its table at p -/
structure HasTab (base : Heap) (mg : Str → Option Value) (fd : FuncData) (p : Addr) : Prop where
  ex : ∃ c, fd.code = .ref c ∧ GxR.TabB base mg c p
section
variable {P : Program} {w : World} {K : PySem.W.Frag} {mg : Str → Option Value} {base : Heap}
theorem ok_code {CX : CXT} {x qual : Str} {st : Stmt} {f : Addr} {fd : FuncData} {N ps : List Str} {k : Nat} {sp : Sp} (F : Fun K x qual st f fd) (S : FnScope N ps (defScope st)) (len : ∀ vs H Q E, sp vs H Q E → vs.length = ps.length)
    (hbody : ∀ (cdv : Value) (_ : fd.code = cdv) (A : Around) (outer : List Env) (s : Shared) (H : Hp) (vs : List V) (Q : VK) (E : XK), Room k (A.deeper (envOfC qual (defScope st) s.heap.objs.size f cdv)) → sp vs H Q E →
      ∃ t, PSs (cxOf CX P w K mg base N qual (defScope st) f cdv A outer s H E) (defBody st) t ∧ t { nx := fun _ H' => Q .non H', rt := Q } (start N vs) H) : FnOk P w K mg base CX (k + 1) f fd ps sp := by
  obtain ⟨oc, od, kV, doc, pm, an, cdv, ct, osl, rfl, lk, hcd⟩ := F.ex
  exact fn_of lk hcd S len fun A outer s H vs Q E hr hsp => hbody cdv rfl A outer s H vs Q E hr hsp
/-! ### is_row, are_rows -/
def spIsRow (p1 p2 : Addr) : Sp := fun vs H Q _ => ∃ (p m : Int) (a : Addr) (x : List Int), vs = [.int p, .ref a, .int m] ∧ IT H a x ∧ (x.length : Int) = m ∧ In0 p x ∧ x.length ≤ 1000 ∧ T2 p1 p2 H ∧ ∀ H', Gr p1 p2 H H' → Q (.bl true) H'
theorem kt : kitB "tuple" "tuple" = some true := by decide +kernel
theorem scIsRow : FnScope ["prime", "value", "many", "one"] ["prime", "value", "many"] (defScope sIsRow) := by first | exact ⟨rfl, rfl, rfl, by decide +kernel, rfl, by decide +kernel, by decide +kernel⟩
theorem ok_isrow {p1 p2 : Addr} {f fN : Addr} {fd fdN : FuncData} {psN : List Str} (F : Fun K "is_row" "is_row" sIsRow f fd) (T : TX mg) (HT : HasTab base mg fd p1) (CN : Cd K mg "is_number" fN fdN psN) (GN : FnOk P w K mg base CX0 1 fN fdN psN spNum) :
    FnOk P w K mg base CX0 3 f fd ["prime", "value", "many"] (spIsRow p1 p2) := by
  obtain ⟨c, hcd, TB⟩ := HT.ex
  refine ok_code F scIsRow (fun vs H Q E h => ?_) (fun cdv hcv A outer s H vs Q E hr h => ?_)
  · obtain ⟨p, m, a, x, rfl, _⟩ := h; rfl
  · obtain ⟨p, m, a, x, rfl, ha, hm, hin, hl, hT, k⟩ := h
    refine ⟨_, pss_one (ps_ret (pe_and (pe_callB call_isi (by rfl) T.isinstance b_isi (pa_cons (pv 1) (pa_cons (pe_bltn (v := .ty "tuple") (by rfl) T.tuple b_tuple rfl) pa_nil)))
      (pe_and (pe_cmpR op_eq (pe_callB call_len_seq (by rfl) T.len PySem.boot_len (pa_cons (pv 1) pa_nil)) (pv 2) (nomark _))
      (pe_one (pe_allG (P := p1) (i := 3) (k := 1) hr rfl (by rfl) T.all TB (hcv.symm.trans hcd) scIsRow.nd (genB_by (N := ["prime", "value", "many", "one"]) (sc := defScope sIsRow) (by decide +kernel)) (pi_tup (pv 1))
        (fun A s H C cl code fp hrA => pe_call GN hrA rfl CN.m CN.k CN.b .nil pass0 (pa_cons (pv 3) (pa_cons pe_int (pa_cons (pe_op op_sub (pv 0) pe_int) pa_nil))))))))), ?_⟩
    refine ⟨_, rfl, _, _, _, _, true, rfl, .ty _, .base (.tup ha), kit_ty kt, true, rfl, iteT ?_⟩
    refine ⟨_, rfl, a, _, rfl, .inr (SqT.of ha), _, rfl, rfl, true, ?_, iteT ?_⟩
    · have : (List.map V.int x).length = x.length := List.length_map _
      rw [this, hm]; simp
    refine ⟨_, rfl, a, rfl, ⟨_, SqT.of ha⟩, hT.a, fun H2 ht => ⟨x.length, fun _ H' => Gr p1 p2 H H', Gr.tab1 ht, fun j H' hj g => ?_, fun H' g => ?_⟩⟩
    · have ha' : IT H' a x := g.tk hT _ _ ha
      have hw := walk_tup (K := K) (a := a) (xs := x.map V.int)
      have hj' : j < (x.map V.int).length := by rw [List.length_map]; exact hj
      refine ⟨hw.goes j H' hj' (SqT.of ha'), fun v H3 y => ?_⟩
      obtain ⟨rfl, hv⟩ := hw.yields j H' v H3 hj' (SqT.of ha') y
      obtain ⟨u, hu, rfl⟩ := ivs_get hv
      have hui := hin u (List.mem_of_getElem? hu)
      refine ⟨_, rfl, _, rfl, _, _, rfl, rfl, .int u, 0, p - 1, rfl, .inr (.inr ⟨u, rfl⟩), ?_, g⟩
      show V.bl (decide (0 ≤ u) && decide (u ≤ p - 1)) = _
      rw [decide_eq_true hui.1, decide_eq_true (by omega)]; rfl
    · have hw := walk_tup (K := K) (a := a) (xs := x.map V.int)
      have hs := hw.stops H' (SqT.of (g.tk hT _ _ ha))
      rw [List.length_map] at hs
      exact ⟨hs, k H' g⟩
def spAreRows (p1 p2 : Addr) : Sp := fun vs H Q _ => ∃ (p lo hi m : Int) (t : Addr) (L : List (List Int)), vs = [.int p, .ref t, .int lo, .int hi, .int m] ∧ TT H t L ∧ (∀ x ∈ L, (x.length : Int) = m ∧ In0 p x ∧ x.length ≤ 1000) ∧ lo ≤ L.length ∧ L.length ≤ hi ∧ T2 p1 p2 H ∧ ∀ H', Gr p1 p2 H H' → Q (.bl true) H'
theorem scAreRows : FnScope ["prime", "value", "low", "high", "many", "row"] ["prime", "value", "low", "high", "many"] (defScope sAreRows) := ⟨rfl, rfl, rfl, by decide +kernel, rfl, by decide +kernel, by decide +kernel⟩
theorem ok_arerows {p1 p2 : Addr} {f fN : Addr} {fd fdN : FuncData} {psN : List Str} (F : Fun K "are_rows" "are_rows" sAreRows f fd) (T : TX mg) (HT : HasTab base mg fd p2) (CN : Cd K mg "is_row" fN fdN psN) (GN : FnOk P w K mg base CX0 3 fN fdN psN (spIsRow p1 p2)) :
    FnOk P w K mg base CX0 5 f fd ["prime", "value", "low", "high", "many"] (spAreRows p1 p2) := by
  obtain ⟨c, hcd, TB⟩ := HT.ex
  refine ok_code F scAreRows (fun vs H Q E h => ?_) (fun cdv hcv A outer s H vs Q E hr h => ?_)
  · obtain ⟨p, lo, hi, m, t, L, rfl, _⟩ := h; rfl
  · obtain ⟨p, lo, hi, m, t, L, rfl, hTT, hL, hlo, hhi, hT, k⟩ := h
    obtain ⟨rs, ht, hR⟩ := id hTT
    have hrl : rs.length = L.length := plen hR
    refine ⟨_, pss_cons (ps_if (pw_or (pt_not (pt_val (pe_callB call_isi (by rfl) T.isinstance b_isi (pa_cons (pv 1) (pa_cons (pe_bltn (v := .ty "tuple") (by rfl) T.tuple b_tuple rfl) pa_nil)))))
        (pw_or1 (pt_not (pt_chain op_le op_le (pv 2) (pe_callB call_len_seq (by rfl) T.len PySem.boot_len (pa_cons (pv 1) pa_nil)) (pv 3))))).pt (pss_one (ps_ret pe_bl)) pss_nil)
      (pss_one (ps_ret (pe_allG (P := p2) (i := 5) (k := 3) hr rfl (by rfl) T.all TB (hcv.symm.trans hcd) scAreRows.nd (genB_by (N := ["prime", "value", "low", "high", "many", "row"]) (sc := defScope sAreRows) (by decide +kernel)) (pi_tup (pv 1))
        (fun A s H C cl code fp hrA => pe_call GN hrA rfl CN.m CN.k CN.b .nil pass0 (pa_cons (pv 0) (pa_cons (pv 5) (pa_cons (pv 4) pa_nil))))))), ?_⟩
    refine ⟨_, rfl, _, _, _, _, true, rfl, .ty _, .base (.tup ht), kit_ty kt, true, rfl, ?_⟩
    refine iteF ⟨_, rfl, _, rfl, t, _, rfl, .inr (SqT.of ht), _, _, rfl, rfl, true, ?_, iteT ?_⟩
    · show V.bl (decide (lo ≤ (rs.length : Int))) = _
      rw [decide_eq_true (by omega)]
    refine ⟨_, rfl, _, _, rfl, rfl, true, ?_, iteF ?_⟩
    · show V.bl (decide ((rs.length : Int) ≤ hi)) = _
      rw [decide_eq_true (by omega)]
    refine ⟨_, rfl, t, rfl, ⟨_, SqT.of ht⟩, hT.b, fun H2 hb => ⟨rs.length, fun _ H' => Gr p1 p2 H H', Gr.tab2 hb, fun j H' hj g => ?_, fun H' g => ?_⟩⟩
    · have ht' := g.tk hT _ _ ht
      have hw := walk_tup (K := K) (a := t) (xs := rs)
      refine ⟨hw.goes j H' hj (SqT.of ht'), fun v H3 y => ?_⟩
      obtain ⟨rfl, hv⟩ := hw.yields j H' v H3 hj (SqT.of ht') y
      obtain ⟨x, hx, a, rfl, ha⟩ := pget hR hv
      obtain ⟨h1, h2, h3⟩ := hL x (List.mem_of_getElem? hx)
      exact ⟨_, rfl, _, rfl, _, rfl, p, m, a, x, rfl, g.tk hT _ _ ha, h1, h2, h3, hT.gr g, fun H4 g4 => ⟨rfl, g.trans g4⟩⟩
    · have hw := walk_tup (K := K) (a := t) (xs := rs)
      exact ⟨hw.stops H' (SqT.of (g.tk hT _ _ ht)), k H' g⟩
end
end Dr
set_option maxRecDepth 100000
set_option maxHeartbeats 4000000
namespace Dr
open PySem PySem.Spec PyProof.Rows L2 DrG
/-! ### machines -/
structure Mach (H : Hp) (mc st wr si : Addr) (p : Int) (S W G : List (List Int)) : Prop where
  ob : H mc = some (.tup [.int p, .ref st, .ref wr, .ref si])
  s : TT H st S
  w : TT H wr W
  g : TT H si G
structure MOk (p : Int) (S W G : List (List Int)) : Prop where
  pr : PrimeOk p
  s1 : 1 ≤ S.length
  s4 : S.length ≤ 4
  sg : Good p S.length S
  w1 : 1 ≤ W.length
  w4 : W.length ≤ 4
  wg : ∀ x ∈ W, x.length = S.length ∧ In0 p x
  g1 : 1 ≤ G.length
  g4 : G.length ≤ 4
  gg : ∀ x ∈ G, x.length = S.length ∧ In0 p x
theorem Mach.tk {H H' : Hp} {mc st wr si : Addr} {p : Int} {S W G : List (List Int)} (m : Mach H mc st wr si p S W G) (t : Tk H H') : Mach H' mc st wr si p S W G := ⟨t _ _ m.ob, m.s.tk t, m.w.tk t, m.g.tk t⟩
def spNeed (p1 p2 : Addr) : Sp := fun vs H Q _ => ∃ (mc st wr si : Addr) (p : Int) (S W G : List (List Int)), vs = [.ref mc] ∧ Mach H mc st wr si p S W G ∧ MOk p S W G ∧ T2 p1 p2 H ∧ ∀ H', Gr p1 p2 H H' → Q .non H'
/-- the module's constants -/
structure Cs (K : PySem.W.Frag) (mg : Str → Option Value) : Prop where
  primes : ∃ a, mg "PRIMES" = some (.ref a) ∧ ∀ H, SqT K H a [.int 2, .int 3, .int 5, .int 7]
  cells : ∃ t, mg "MOST_CELLS" = some (.int 4 t)
  plugs : ∃ t, mg "MOST_PLUGS" = some (.int 4 t)
section
variable {P : Program} {w : World} {K : PySem.W.Frag} {mg : Str → Option Value} {base : Heap}
theorem scNeed : FnScope ["value", "prime", "stir", "writes", "sights"] ["value"] (defScope sNeed) := ⟨rfl, rfl, rfl, by decide +kernel, rfl, by decide +kernel, by decide +kernel⟩
theorem in_primes {p : Int} (h : PrimeOk p) : inV (.int p) [.int 2, .int 3, .int 5, .int 7] = true := by
  rcases h with rfl | rfl | rfl | rfl <;> rfl
theorem numB_p {p : Int} (h : PrimeOk p) : numB 2 7 (.int p) = true := by
  rcases h with rfl | rfl | rfl | rfl <;> rfl
theorem ok_need {p1 p2 : Addr} {f fN fA fR : Addr} {fd fdN fdA fdR : FuncData} {psN psA psR : List Str} (F : Fun K "need_machine" "need_machine" sNeed f fd) (T : TX mg) (C : Cs K mg)
    (CN : Cd K mg "is_number" fN fdN psN) (GN : FnOk P w K mg base CX0 1 fN fdN psN spNum) (CA : Cd K mg "are_rows" fA fdA psA) (GA : FnOk P w K mg base CX0 5 fA fdA psA (spAreRows p1 p2)) (CR : Cd K mg "reduced" fR fdR psR) (GR : FnOk P w K mg base CX0 2 fR fdR psR spReduced) :
    FnOk P w K mg base CX0 6 f fd ["value"] (spNeed p1 p2) := by
  obtain ⟨aP, gP, hP⟩ := C.primes
  obtain ⟨tC, gC⟩ := C.cells
  obtain ⟨tG, gG⟩ := C.plugs
  refine F.ok scNeed (fun vs H Q E h => ?_) (fun cdv A outer s H vs Q E hr h => ?_)
  · obtain ⟨mc, st, wr, si, p, S, W, G, rfl, _⟩ := h; rfl
  · obtain ⟨mc, st, wr, si, p, S, W, G, rfl, hM, hO, hT, k⟩ := h
    have hp7 := hO.pr.pos
    have h1 := hO.s1
    have h4 := hO.s4
    refine ⟨_, pss_cons (ps_if (pw_or (pt_not (pt_val (pe_callB call_isi (by rfl) T.isinstance b_isi (pa_cons (pv 0) (pa_cons (pe_bltn (v := .ty "tuple") (by rfl) T.tuple b_tuple rfl) pa_nil)))))
        (pw_or1 (pt_cmpR op_ne (pe_callB call_len_seq (by rfl) T.len PySem.boot_len (pa_cons (pv 0) pa_nil)) pe_int (nomark _)))).pt (pss_one ps_never) pss_nil)
      (pss_cons (ps_asg (pv 0) (pg_tup rfl (pgs_cons (pg_name (i := 1) scNeed.nd rfl (Or.inl rfl)) (pgs_cons (pg_name (i := 2) scNeed.nd rfl (Or.inl rfl)) (pgs_cons (pg_name (i := 3) scNeed.nd rfl (Or.inl rfl)) (pgs_cons (pg_name (i := 4) scNeed.nd rfl (Or.inl rfl)) pgs_nil))))))
      (pss_cons (ps_if (pw_or (pt_not (pt_val (pe_call GN (hr.mono (by decide)) (by rfl) CN.m CN.k CN.b .nil pass0 (pa_cons (pv 1) (pa_cons pe_int (pa_cons pe_int pa_nil))))))
        (pw_or1 (pt_cmpR op_notIn_seq (pv 1) (pe_glob (v := .ref aP) (by rfl) gP rfl) rfl))).pt (pss_one ps_never) pss_nil)
      (pss_cons (ps_if (pw_or (pt_not (pt_val (pe_callB call_isi (by rfl) T.isinstance b_isi (pa_cons (pv 2) (pa_cons (pe_bltn (v := .ty "tuple") (by rfl) T.tuple b_tuple rfl) pa_nil)))))
        (pw_or1 (pt_not (pt_chain op_le op_le pe_int (pe_callB call_len_seq (by rfl) T.len PySem.boot_len (pa_cons (pv 2) pa_nil)) (pe_glob (v := .int 4) (by rfl) gC ⟨_, rfl⟩))))).pt (pss_one ps_never) pss_nil)
      (pss_cons (ps_if (pw_or (pt_not (pt_val (pe_call GA hr (by rfl) CA.m CA.k CA.b .nil pass0 (pa_cons (pv 1) (pa_cons (pv 2) (pa_cons (pe_callB call_len_seq (by rfl) T.len PySem.boot_len (pa_cons (pv 2) pa_nil)) (pa_cons (pe_callB call_len_seq (by rfl) T.len PySem.boot_len (pa_cons (pv 2) pa_nil)) (pa_cons (pe_callB call_len_seq (by rfl) T.len PySem.boot_len (pa_cons (pv 2) pa_nil)) pa_nil))))))))
        (pw_or1 (pt_cmpR op_lt (pe_callB call_len_seq (by rfl) T.len PySem.boot_len (pa_cons (pe_call GR (hr.mono (by decide)) (by rfl) CR.m CR.k CR.b .nil pass0 (pa_cons (pv 1) (pa_cons (pv 2) pa_nil))) pa_nil)) (pe_callB call_len_seq (by rfl) T.len PySem.boot_len (pa_cons (pv 2) pa_nil)) (nomark _)))).pt (pss_one ps_never) pss_nil)
      (pss_cons (ps_if (pt_not (pt_val (pe_call GA hr (by rfl) CA.m CA.k CA.b .nil pass0 (pa_cons (pv 1) (pa_cons (pv 3) (pa_cons pe_int (pa_cons (pe_glob (v := .int 4) (by rfl) gG ⟨_, rfl⟩) (pa_cons (pe_callB call_len_seq (by rfl) T.len PySem.boot_len (pa_cons (pv 2) pa_nil)) pa_nil)))))))) (pss_one ps_never) pss_nil)
      (pss_one (ps_if (pt_not (pt_val (pe_call GA hr (by rfl) CA.m CA.k CA.b .nil pass0 (pa_cons (pv 1) (pa_cons (pv 4) (pa_cons pe_int (pa_cons (pe_glob (v := .int 4) (by rfl) gG ⟨_, rfl⟩) (pa_cons (pe_callB call_len_seq (by rfl) T.len PySem.boot_len (pa_cons (pv 2) pa_nil)) pa_nil)))))))) (pss_one ps_never) pss_nil))))))), ?_⟩
    obtain ⟨sv, hs, hS⟩ := id hM.s
    have hsl : sv.length = S.length := plen hS
    have hsl' : (sv.length : Int) = S.length := by rw [hsl]
    refine ⟨_, rfl, _, _, _, _, true, rfl, .ty _, .base (.tup hM.ob), kit_ty kt, true, rfl, iteF ?_⟩
    refine ⟨_, rfl, mc, _, rfl, .inr (SqT.of hM.ob), rfl, _, rfl, iteF ?_⟩
    refine ⟨_, rfl, mc, _, rfl, SqT.of hM.ob, rfl, _, _, rfl, _, _, rfl, _, _, rfl, _, _, rfl, rfl, ?_⟩
    refine ⟨_, rfl, .int p, 2, 7, rfl, .inr (.inr ⟨p, rfl⟩), true, congrArg V.bl (numB_p hO.pr), iteF ?_⟩
    refine ⟨_, rfl, aP, _, rfl, .inr (hP _), rfl, rfl, false, ?_, iteF ?_⟩
    · show V.bl (!inV (.int p) _) = _
      rw [in_primes hO.pr]; rfl
    refine ⟨_, rfl, _, _, _, _, true, rfl, .ty _, .base (.tup hs), kit_ty kt, true, rfl, iteF ?_⟩
    refine ⟨_, rfl, st, _, rfl, .inr (SqT.of hs), _, _, rfl, rfl, true, ?_, iteT ?_⟩
    · show V.bl (decide ((1 : Int) ≤ (sv.length : Int))) = _
      rw [decide_eq_true (by omega)]
    refine ⟨_, _, rfl, rfl, true, ?_, iteF ?_⟩
    · show V.bl (decide ((sv.length : Int) ≤ 4)) = _
      rw [decide_eq_true (by omega)]
    -- stir
    refine ⟨_, rfl, _, rfl, _, rfl, st, _, rfl, .inr (SqT.of hs), _, rfl, st, _, rfl, .inr (SqT.of hs), _, rfl, st, _, rfl, .inr (SqT.of hs), ?_⟩
    refine ⟨p, _, _, _, st, S, rfl, hM.s, fun x hx => ⟨by rw [(hO.sg.2 x hx).1, hsl'], (hO.sg.2 x hx).2, by rw [(hO.sg.2 x hx).1]; omega⟩, by rw [hsl']; omega, by rw [hsl']; omega, hT, fun H1 g1 => ?_⟩
    have hM1 : Mach H1 mc st wr si p S W G := hM.tk (g1.tk hT)
    have hT1 := hT.gr g1
    have hs1 : H1 st = some (.tup sv) := g1.tk hT _ _ hs
    refine ⟨true, rfl, iteF ?_⟩
    refine ⟨_, rfl, _, rfl, p, st, S, S.length, rfl, hO.pr, hM1.s, by omega, by omega, h1, hO.sg, fun q zs H2 s2 hq hz => ?_⟩
    refine ⟨q, _, rfl, .inl (SqL.of hq), _, rfl, st, _, rfl, .inr (SqT.of (s2 _ _ hs1)), _, _, rfl, rfl, false, ?_, iteF ?_⟩
    · show V.bl (decide ((zs.length : Int) < (sv.length : Int))) = _
      rw [decide_eq_false (by omega)]
    have g2 : Gr p1 p2 H H2 := g1.trans (.same s2)
    have hT2 := hT.gr g2
    have hM2 : Mach H2 mc st wr si p S W G := hM.tk (g2.tk hT)
    -- writes
    refine ⟨_, rfl, _, rfl, _, rfl, st, _, rfl, .inr (SqT.of (s2 _ _ hs1)), ?_⟩
    refine ⟨p, _, _, _, wr, W, rfl, hM2.w, fun x hx => ⟨by rw [(hO.wg x hx).1, hsl'], (hO.wg x hx).2, by rw [(hO.wg x hx).1]; omega⟩, by have := hO.w1; omega, by have := hO.w4; omega, hT2, fun H3 g3 => ?_⟩
    have g4 := g2.trans g3
    refine ⟨true, rfl, iteF ?_⟩
    refine ⟨_, rfl, _, rfl, _, rfl, st, _, rfl, .inr (SqT.of (g4.tk hT _ _ hs)), ?_⟩
    refine ⟨p, _, _, _, si, G, rfl, (hM.tk (g4.tk hT)).g, fun x hx => ⟨by rw [(hO.gg x hx).1, hsl'], (hO.gg x hx).2, by rw [(hO.gg x hx).1]; omega⟩, by have := hO.g1; omega, by have := hO.g4; omega, hT.gr g4, fun H5 g5 => ?_⟩
    exact ⟨true, rfl, iteF (k H5 (g4.trans g5))⟩
/-! ### deeds -/
inductive Deed where
  | get (k : Nat) | plus (k : Nat) | minus (k : Nat) | add (k : Nat) | take (k : Nat) | put (n : Int) | wait
def Deed.xs : Deed → List V
  | .get k => [.str "get", .int k]
  | .plus k => [.str "plus", .int k]
  | .minus k => [.str "minus", .int k]
  | .add k => [.str "add", .int k]
  | .take k => [.str "take", .int k]
  | .put n => [.str "put", .int n]
  | .wait => [.str "wait"]
def Deed.ok (p : Int) (W G : List (List Int)) : Deed → Prop
  | .get k => k < G.length
  | .plus k => k < G.length
  | .minus k => k < G.length
  | .add k => k < W.length
  | .take k => k < W.length
  | .put n => 0 ≤ n ∧ n < p
  | .wait => True
def Deed.run (p : Int) (W G : List (List Int)) (y : List Int) (h : Int) : Deed → List Int × Int
  | .get k => (y, dot p (G.getD k []) y)
  | .plus k => (y, (h + dot p (G.getD k []) y) % p)
  | .minus k => (y, (h - dot p (G.getD k []) y) % p)
  | .add k => (addL p y (W.getD k []) h, h)
  | .take k => (addL p y (W.getD k []) (-h), h)
  | .put n => (y, n)
  | .wait => (y, h)
def stirL (p : Int) (S : List (List Int)) (y : List Int) : List Int := S.map fun x => dot p x y
def step (p : Int) (S W G : List (List Int)) (y : List Int) (h : Int) (d : Deed) : List Int × Int := (stirL p S (d.run p W G y h).1, (d.run p W G y h).2)
theorem dot_in {p : Int} {x y : List Int} (hp : 0 < p) : 0 ≤ dot p x y ∧ dot p x y < p := ⟨Int.emod_nonneg _ (by omega), Int.emod_lt_of_pos _ hp⟩
/-- memory and hand -/
structure St0 (p : Int) (n : Nat) (y : List Int) (h : Int) : Prop where
  l : y.length = n
  i : In0 p y
  h0 : 0 ≤ h
  h1 : h < p
theorem getD_of {α : Type} {L : List α} {k : Nat} {d : α} (h : k < L.length) : L[k]? = some (L.getD k d) := by
  rw [List.getD_eq_getElem?_getD, List.getElem?_eq_getElem h]; rfl
theorem St0.run {p : Int} {S W G : List (List Int)} {y : List Int} {h : Int} {d : Deed} (O : MOk p S W G) (s : St0 p S.length y h) (k : d.ok p W G) : St0 p S.length (d.run p W G y h).1 (d.run p W G y h).2 := by
  have hp := O.pr.pos
  have em : ∀ a : Int, 0 ≤ a % p ∧ a % p < p := fun a => ⟨Int.emod_nonneg _ (by omega), Int.emod_lt_of_pos _ (by omega)⟩
  cases d with
  | get k => exact ⟨s.l, s.i, (dot_in (by omega)).1, (dot_in (by omega)).2⟩
  | plus k => exact ⟨s.l, s.i, (em _).1, (em _).2⟩
  | minus k => exact ⟨s.l, s.i, (em _).1, (em _).2⟩
  | add j =>
    have e := (O.wg _ (List.mem_of_getElem? (getD_of (d := []) k))).1
    exact ⟨(addL_len (by rw [s.l, e])).trans s.l, addL_in (by omega), s.h0, s.h1⟩
  | take j =>
    have e := (O.wg _ (List.mem_of_getElem? (getD_of (d := []) k))).1
    exact ⟨(addL_len (by rw [s.l, e])).trans s.l, addL_in (by omega), s.h0, s.h1⟩
  | put n => exact ⟨s.l, s.i, k.1, k.2⟩
  | wait => exact s
theorem stirL_st {p : Int} {S : List (List Int)} {y z : List Int} {h : Int} (hp : 0 < p) (s : St0 p S.length y h) : St0 p S.length (stirL p S y) h := by
  refine ⟨by simp [stirL], fun u hu => ?_, s.h0, s.h1⟩
  obtain ⟨x, _, rfl⟩ := List.mem_map.mp hu
  exact dot_in hp
theorem St0.step {p : Int} {S W G : List (List Int)} {y : List Int} {h : Int} {d : Deed} (O : MOk p S W G) (s : St0 p S.length y h) (k : d.ok p W G) : St0 p S.length (step p S W G y h d).1 (step p S W G y h d).2 :=
  stirL_st (z := []) (by have := O.pr.pos; omega) (s.run O k)
theorem in0_sm {p : Int} {x : List Int} (hp : PrimeOk p) (h : In0 p x) : ∀ u ∈ x, Sm u := fun u hu => by
  have := hp.pos
  have := h u hu
  exact ⟨by omega, by omega⟩
def spStirred : Sp := fun vs H Q _ => ∃ (mc st wr si : Addr) (p : Int) (S W G : List (List Int)) (me : Addr) (y : List Int), vs = [.ref mc, .ref me] ∧ Mach H mc st wr si p S W G ∧ MOk p S W G ∧ IT H me y ∧ y.length = S.length ∧
  ∀ b H', Same H H' → IT H' b (stirL p S y) → Q (.ref b) H'
def spDone : Sp := fun vs H Q _ => ∃ (mc st wr si : Addr) (p : Int) (S W G : List (List Int)) (me dd : Addr) (y : List Int) (h : Int) (d : Deed), vs = [.ref mc, .ref me, .int h, .ref dd] ∧ Mach H mc st wr si p S W G ∧ MOk p S W G ∧ IT H me y ∧ St0 p S.length y h ∧ H dd = some (.tup d.xs) ∧ d.ok p W G ∧
  ∀ r b H', Same H H' → H' r = some (.tup [.ref b, .int (step p S W G y h d).2]) → IT H' b (step p S W G y h d).1 → Q (.ref r) H'
theorem scStirred : FnScope ["machine", "memory"] ["machine", "memory"] (defScope sStirred) := ⟨rfl, rfl, rfl, by decide +kernel, rfl, by decide +kernel, by decide +kernel⟩
theorem ok_stirred {f fT : Addr} {fd fdT : FuncData} {psT : List Str} (F : Fun K "stirred" "stirred" sStirred f fd) (CT : Cd K mg "times" fT fdT psT) (GT : FnOk P w K mg base CX0 2 fT fdT psT spTimes) : FnOk P w K mg base CX0 3 f fd ["machine", "memory"] spStirred := by
  refine F.ok scStirred (fun vs H Q E h => ?_) (fun cdv A outer s H vs Q E hr h => ?_)
  · obtain ⟨mc, st, wr, si, p, S, W, G, me, y, rfl, _⟩ := h; rfl
  · obtain ⟨mc, st, wr, si, p, S, W, G, me, y, rfl, hM, hO, hy, hl, k⟩ := h
    have hp := hO.pr.pos
    refine ⟨_, pss_one (ps_ret (pe_call GT hr rfl CT.m CT.k CT.b .nil pass0 (pa_cons (pe_ix ix_tup (pv 0) pe_int (fun _ _ => rfl)) (pa_cons (pe_ix ix_tup (pv 0) pe_int (fun _ _ => rfl)) (pa_cons (pv 1) pa_nil))))), ?_⟩
    refine ⟨_, rfl, mc, _, _, _, rfl, rfl, SqT.of hM.ob, rfl, _, rfl, mc, _, _, _, rfl, rfl, SqT.of hM.ob, rfl, _, rfl, ?_⟩
    have h4 := hO.s4
    exact ⟨p, st, me, S, y, rfl, by omega, hM.s, hy, by omega, by omega, fun x hx => ⟨by rw [(hO.sg.2 x hx).1, hl], in0_sm hO.pr (hO.sg.2 x hx).2⟩, k⟩
theorem iteD {b : Bool} {A B : Prop} (e : b = true) (h : A) : if b = true then A else B := by rw [if_pos e]; exact h
theorem iteDF {b : Bool} {A B : Prop} (e : b = false) (h : B) : if b = true then A else B := by rw [e]; exact iteF h
theorem scDone : FnScope ["machine", "memory", "hand", "deed", "prime", "word", "plug"] ["machine", "memory", "hand", "deed"] (defScope sDone) := ⟨rfl, rfl, rfl, by decide +kernel, rfl, by decide +kernel, by decide +kernel⟩
theorem ok_done {f fS fM fA : Addr} {fd fdS fdM fdA : FuncData} {psS psM psA : List Str} (F : Fun K "deed_done" "deed_done" sDone f fd)
    (CS : Cd K mg "stirred" fS fdS psS) (GS : FnOk P w K mg base CX0 3 fS fdS psS spStirred) (CM : Cd K mg "met" fM fdM psM) (GM : FnOk P w K mg base CX0 1 fM fdM psM spMet) (CA : Cd K mg "added" fA fdA psA) (GA : FnOk P w K mg base CX0 1 fA fdA psA spAdded) :
    FnOk P w K mg base CX0 4 f fd ["machine", "memory", "hand", "deed"] spDone := by
  refine F.ok scDone (fun vs H Q E h => ?_) (fun cdv A outer s H vs Q E hr h => ?_)
  · obtain ⟨mc, st, wr, si, p, S, W, G, me, dd, y, h, d, rfl, _⟩ := h; rfl
  · obtain ⟨mc, st, wr, si, p, S, W, G, me, dd, y, h, d, rfl, hM, hO, hy, hS, hd, hk, k⟩ := h
    have hp := hO.pr.pos
    have h4 := hO.s4
    refine ⟨_, pss_cons (ps_par3 (i := 4) (j := 5) (l := 6) rfl scDone.nd rfl rfl rfl (by decide) (by decide) (by decide) rfl rfl rfl
        (pa_cons (pe_ix ix_tup (pv 0) pe_int (fun _ _ => rfl)) (pa_cons (pe_ix ix_tup (pv 3) pe_int (fun _ _ => rfl)) (pa_cons (pe_ix ix_tup (pv 3) (pe_un un_neg pe_int) (fun _ _ => rfl)) pa_nil))) rfl)
      (pss_cons (ps_if (pt_cmpR op_eq (pv 5) pe_str (nomark _)) (pss_one (ps_set (i := 2) scDone.nd rfl (.inl rfl) (pe_call GM (hr.mono (by decide)) rfl CM.m CM.k CM.b .nil pass0 (pa_cons (pv 4) (pa_cons (pe_ix ix_tup (pe_ix ix_tup (pv 0) pe_int (fun _ _ => rfl)) (pv 6) (fun _ _ => rfl)) (pa_cons (pv 1) pa_nil))))))
        (pss_one (ps_if (pt_cmpR op_eq (pv 5) pe_str (nomark _)) (pss_one (ps_set (i := 2) scDone.nd rfl (.inl rfl) (pe_op op_mod (pe_op op_add (pv 2) (pe_call GM (hr.mono (by decide)) rfl CM.m CM.k CM.b .nil pass0 (pa_cons (pv 4) (pa_cons (pe_ix ix_tup (pe_ix ix_tup (pv 0) pe_int (fun _ _ => rfl)) (pv 6) (fun _ _ => rfl)) (pa_cons (pv 1) pa_nil))))) (pv 4))))
        (pss_one (ps_if (pt_cmpR op_eq (pv 5) pe_str (nomark _)) (pss_one (ps_set (i := 2) scDone.nd rfl (.inl rfl) (pe_op op_mod (pe_op op_sub (pv 2) (pe_call GM (hr.mono (by decide)) rfl CM.m CM.k CM.b .nil pass0 (pa_cons (pv 4) (pa_cons (pe_ix ix_tup (pe_ix ix_tup (pv 0) pe_int (fun _ _ => rfl)) (pv 6) (fun _ _ => rfl)) (pa_cons (pv 1) pa_nil))))) (pv 4))))
        (pss_one (ps_if (pt_cmpR op_eq (pv 5) pe_str (nomark _)) (pss_one (ps_set (i := 1) scDone.nd rfl (.inl rfl) (pe_call GA (hr.mono (by decide)) rfl CA.m CA.k CA.b .nil pass0 (pa_cons (pv 4) (pa_cons (pv 1) (pa_cons (pe_ix ix_tup (pe_ix ix_tup (pv 0) pe_int (fun _ _ => rfl)) (pv 6) (fun _ _ => rfl)) (pa_cons (pv 2) pa_nil)))))))
        (pss_one (ps_if (pt_cmpR op_eq (pv 5) pe_str (nomark _)) (pss_one (ps_set (i := 1) scDone.nd rfl (.inl rfl) (pe_call GA (hr.mono (by decide)) rfl CA.m CA.k CA.b .nil pass0 (pa_cons (pv 4) (pa_cons (pv 1) (pa_cons (pe_ix ix_tup (pe_ix ix_tup (pv 0) pe_int (fun _ _ => rfl)) (pv 6) (fun _ _ => rfl)) (pa_cons (pe_un un_neg (pv 2)) pa_nil)))))))
        (pss_one (ps_if (pt_cmpR op_eq (pv 5) pe_str (nomark _)) (pss_one (ps_set (i := 2) scDone.nd rfl (.inl rfl) (pv 6))) pss_nil)))))))))))
      (pss_one (ps_ret (pe_tup (pa_cons (pe_call GS hr rfl CS.m CS.k CS.b .nil pass0 (pa_cons (pv 0) (pa_cons (pv 1) pa_nil))) (pa_cons (pv 2) pa_nil)))))), ?_⟩
    -- the end: stirred, a pair
    have fin : ∀ (me' : Addr) (y' : List Int) (h' : Int) (H1 : Hp) (σ : L2.St), Same H H1 → σ[0]? = some (some (.ref mc)) → σ[1]? = some (some (.ref me')) → σ[2]? = some (some (.int h')) → IT H1 me' y' → (y', h') = d.run p W G y h →
        ∃ v, σ[0]? = some (some v) ∧ ∃ v1, σ[1]? = some (some v1) ∧ spStirred ([v, v1] ++ []) H1 (fun x H2 => ∃ v2, σ[2]? = some (some v2) ∧ (2 ≤ sizeLine ∧ ∀ q, H2 q = none → Q (.ref q) (upd H2 q (.tup [x, v2])))) (fun _ _ _ => False) := by
      intro me' y' h' H1 σ s1 e0 e1 e2 hy' er
      have hr' := hS.run hO hk
      rw [← er] at hr'
      refine ⟨_, e0, _, e1, mc, st, wr, si, p, S, W, G, me', y', rfl, hM.tk (Same.tk s1), hO, hy', hr'.l, fun b H2 s2 hb => ⟨_, e2, by decide, fun q nq => ?_⟩⟩
      have s3 := same_upd (o := .tup [.ref b, .int h']) nq
      refine k q b _ ((s1.trans s2).trans s3) ?_ ?_
      · show upd H2 q _ q = _
        rw [upd_same]; unfold step; rw [← er]
      · have : (step p S W G y h d).1 = stirL p S y' := by unfold step; rw [← er]
        rw [this]
        exact s3 _ _ hb
    obtain ⟨gv, hg, hG⟩ := id hM.g
    obtain ⟨wv, hw, hW⟩ := id hM.w
    -- machine[3][k], machine[2][k]
    have rowG : ∀ j : Nat, j < G.length → ∃ a, gv[j]? = some (.ref a) ∧ IT H a (G.getD j []) := fun j hj => by
      obtain ⟨v, e, a, rfl, ha⟩ := pget' hG (getD_of (d := []) hj)
      exact ⟨a, e, ha⟩
    have rowW : ∀ j : Nat, j < W.length → ∃ a, wv[j]? = some (.ref a) ∧ IT H a (W.getD j []) := fun j hj => by
      obtain ⟨v, e, a, rfl, ha⟩ := pget' hW (getD_of (d := []) hj)
      exact ⟨a, e, ha⟩
    have gOk : ∀ j : Nat, j < G.length → (G.getD j []).length = y.length ∧ In0 p (G.getD j []) := fun j hj => by
      have := hO.gg _ (List.mem_of_getElem? (getD_of (d := []) hj))
      exact ⟨by rw [this.1, hS.l], this.2⟩
    have wOk : ∀ j : Nat, j < W.length → y.length = (W.getD j []).length := fun j hj => by
      have := hO.wg _ (List.mem_of_getElem? (getD_of (d := []) hj))
      rw [this.1, hS.l]
    have hyl := hS.l
    refine ⟨_, rfl, mc, _, _, _, rfl, rfl, SqT.of hM.ob, rfl, _, rfl, dd, _, _, (match d with | .get _ => .str "get" | .plus _ => .str "plus" | .minus _ => .str "minus" | .add _ => .str "add" | .take _ => .str "take" | .put _ => .str "put" | .wait => .str "wait"), rfl, rfl, SqT.of hd, by cases d <;> rfl,
      _, rfl, _, rfl, dd, _, _, (match d with | .get k => .int k | .plus k => .int k | .minus k => .int k | .add k => .int k | .take k => .int k | .put n => .int n | .wait => .str "wait"), rfl, rfl, SqT.of hd, by cases d <;> rfl, _, _, _, rfl, ?_⟩
    cases d with
    | get j =>
      obtain ⟨a, ea, ha⟩ := rowG j hk
      refine ⟨_, rfl, rfl, _, rfl, iteD (decide_eq_true rfl) ?_⟩
      refine ⟨_, rfl, _, rfl, mc, _, _, _, rfl, rfl, SqT.of hM.ob, rfl, _, rfl, si, _, _, _, rfl, rfl, SqT.of hg, atI_nat ea, _, rfl, ?_⟩
      refine ⟨p, a, me, _, y, rfl, by omega, in0_sm hO.pr (gOk j hk).2, ha, hy, (gOk j hk).1, by have := (gOk j hk).1; omega, fun H1 s1 => ?_⟩
      exact fin me y _ H1 _ s1 rfl rfl rfl (s1 _ _ hy) rfl
    | plus j =>
      obtain ⟨a, ea, ha⟩ := rowG j hk
      refine ⟨_, rfl, rfl, _, rfl, iteDF (decide_eq_false fun e => absurd (V.str.inj e) (by decide +kernel)) ?_⟩
      refine ⟨_, rfl, rfl, _, rfl, iteD (decide_eq_true rfl) ?_⟩
      refine ⟨_, rfl, _, rfl, _, rfl, mc, _, _, _, rfl, rfl, SqT.of hM.ob, rfl, _, rfl, si, _, _, _, rfl, rfl, SqT.of hg, atI_nat ea, _, rfl, ?_⟩
      refine ⟨p, a, me, _, y, rfl, by omega, in0_sm hO.pr (gOk j hk).2, ha, hy, (gOk j hk).1, by have := (gOk j hk).1; omega, fun H1 s1 => ?_⟩
      exact ⟨_, _, rfl, rfl, _, rfl, _, _, rfl, rfl, by show 0 < p; omega, fin me y _ H1 _ s1 rfl rfl rfl (s1 _ _ hy) rfl⟩
    | minus j =>
      obtain ⟨a, ea, ha⟩ := rowG j hk
      refine ⟨_, rfl, rfl, _, rfl, iteDF (decide_eq_false fun e => absurd (V.str.inj e) (by decide +kernel)) ?_⟩
      refine ⟨_, rfl, rfl, _, rfl, iteDF (decide_eq_false fun e => absurd (V.str.inj e) (by decide +kernel)) ?_⟩
      refine ⟨_, rfl, rfl, _, rfl, iteD (decide_eq_true rfl) ?_⟩
      refine ⟨_, rfl, _, rfl, _, rfl, mc, _, _, _, rfl, rfl, SqT.of hM.ob, rfl, _, rfl, si, _, _, _, rfl, rfl, SqT.of hg, atI_nat ea, _, rfl, ?_⟩
      refine ⟨p, a, me, _, y, rfl, by omega, in0_sm hO.pr (gOk j hk).2, ha, hy, (gOk j hk).1, by have := (gOk j hk).1; omega, fun H1 s1 => ?_⟩
      exact ⟨_, _, rfl, rfl, _, rfl, _, _, rfl, rfl, by show 0 < p; omega, fin me y _ H1 _ s1 rfl rfl rfl (s1 _ _ hy) rfl⟩
    | add j =>
      obtain ⟨a, ea, ha⟩ := rowW j hk
      refine ⟨_, rfl, rfl, _, rfl, iteDF (decide_eq_false fun e => absurd (V.str.inj e) (by decide +kernel)) ?_⟩
      refine ⟨_, rfl, rfl, _, rfl, iteDF (decide_eq_false fun e => absurd (V.str.inj e) (by decide +kernel)) ?_⟩
      refine ⟨_, rfl, rfl, _, rfl, iteDF (decide_eq_false fun e => absurd (V.str.inj e) (by decide +kernel)) ?_⟩
      refine ⟨_, rfl, rfl, _, rfl, iteD (decide_eq_true rfl) ?_⟩
      refine ⟨_, rfl, _, rfl, _, rfl, mc, _, _, _, rfl, rfl, SqT.of hM.ob, rfl, _, rfl, wr, _, _, _, rfl, rfl, SqT.of hw, atI_nat ea, _, rfl, ?_⟩
      refine ⟨p, h, me, a, y, _, rfl, by omega, ⟨by have := hS.h0; omega, by have := hS.h1; omega⟩, hy, ha, wOk j hk, by omega, fun c H1 s1 hc => ?_⟩
      exact fin c _ _ H1 _ s1 rfl rfl rfl hc rfl
    | take j =>
      obtain ⟨a, ea, ha⟩ := rowW j hk
      refine ⟨_, rfl, rfl, _, rfl, iteDF (decide_eq_false fun e => absurd (V.str.inj e) (by decide +kernel)) ?_⟩
      refine ⟨_, rfl, rfl, _, rfl, iteDF (decide_eq_false fun e => absurd (V.str.inj e) (by decide +kernel)) ?_⟩
      refine ⟨_, rfl, rfl, _, rfl, iteDF (decide_eq_false fun e => absurd (V.str.inj e) (by decide +kernel)) ?_⟩
      refine ⟨_, rfl, rfl, _, rfl, iteDF (decide_eq_false fun e => absurd (V.str.inj e) (by decide +kernel)) ?_⟩
      refine ⟨_, rfl, rfl, _, rfl, iteD (decide_eq_true rfl) ?_⟩
      refine ⟨_, rfl, _, rfl, _, rfl, mc, _, _, _, rfl, rfl, SqT.of hM.ob, rfl, _, rfl, wr, _, _, _, rfl, rfl, SqT.of hw, atI_nat ea, _, rfl, _, rfl, ?_⟩
      refine ⟨p, -h, me, a, y, _, rfl, by omega, ⟨by have := hS.h1; omega, by have := hS.h0; omega⟩, hy, ha, wOk j hk, by omega, fun c H1 s1 hc => ?_⟩
      exact fin c _ _ H1 _ s1 rfl rfl rfl hc rfl
    | put n =>
      refine ⟨_, rfl, rfl, _, rfl, iteDF (decide_eq_false fun e => absurd (V.str.inj e) (by decide +kernel)) ?_⟩
      refine ⟨_, rfl, rfl, _, rfl, iteDF (decide_eq_false fun e => absurd (V.str.inj e) (by decide +kernel)) ?_⟩
      refine ⟨_, rfl, rfl, _, rfl, iteDF (decide_eq_false fun e => absurd (V.str.inj e) (by decide +kernel)) ?_⟩
      refine ⟨_, rfl, rfl, _, rfl, iteDF (decide_eq_false fun e => absurd (V.str.inj e) (by decide +kernel)) ?_⟩
      refine ⟨_, rfl, rfl, _, rfl, iteDF (decide_eq_false fun e => absurd (V.str.inj e) (by decide +kernel)) ?_⟩
      refine ⟨_, rfl, rfl, _, rfl, iteD (decide_eq_true rfl) ?_⟩
      exact ⟨_, rfl, fin me y _ H _ (Same.refl _) rfl rfl rfl hy rfl⟩
    | wait =>
      refine ⟨_, rfl, rfl, _, rfl, iteDF (decide_eq_false fun e => absurd (V.str.inj e) (by decide +kernel)) ?_⟩
      refine ⟨_, rfl, rfl, _, rfl, iteDF (decide_eq_false fun e => absurd (V.str.inj e) (by decide +kernel)) ?_⟩
      refine ⟨_, rfl, rfl, _, rfl, iteDF (decide_eq_false fun e => absurd (V.str.inj e) (by decide +kernel)) ?_⟩
      refine ⟨_, rfl, rfl, _, rfl, iteDF (decide_eq_false fun e => absurd (V.str.inj e) (by decide +kernel)) ?_⟩
      refine ⟨_, rfl, rfl, _, rfl, iteDF (decide_eq_false fun e => absurd (V.str.inj e) (by decide +kernel)) ?_⟩
      refine ⟨_, rfl, rfl, _, rfl, iteDF (decide_eq_false fun e => absurd (V.str.inj e) (by decide +kernel)) ?_⟩
      exact fin me y _ H _ (Same.refl _) rfl rfl rfl hy rfl
end
end Dr
set_option maxRecDepth 100000
set_option maxHeartbeats 4000000
namespace Dr
open PySem PySem.Spec PyProof.Rows L2 DrG
/-! ### Store: its fields -/
def fl (mc me : Addr) (h t : Int) : List (Str × V) := [("machine", .ref mc), ("cells", .ref me), ("finger", .int h), ("ticks", .int t)]
theorem putF_ne {f g : Str} {v u : V} {r : List (Str × V)} (h : ¬ g = f) : putF f v ((g, u) :: r) = (g, u) :: putF f v r := by
  show (if g = f then _ else _) = _
  rw [if_neg h]
theorem putF_eq {f : Str} {v u : V} {r : List (Str × V)} : putF f v ((f, u) :: r) = (f, v) :: r := by
  show (if f = f then _ else _) = _
  rw [if_pos rfl]
theorem lk_ne {f g : Str} {u : V} {r : List (Str × V)} (h : ¬ f = g) : ((g, u) :: r).lookup f = r.lookup f := by
  rw [List.lookup_cons]
  have : (f == g) = false := by simpa using h
  rw [this]
theorem lk_eq {f : Str} {u : V} {r : List (Str × V)} : ((f, u) :: r).lookup f = some u := by
  rw [List.lookup_cons]; simp
section
variable {mc me me' : Addr} {h h' t t' : Int}
theorem fl_m : (fl mc me h t).lookup ("machine" : Str) = some (.ref mc) := lk_eq
theorem fl_c : (fl mc me h t).lookup ("cells" : Str) = some (.ref me) := (lk_ne (by decide +kernel)).trans lk_eq
theorem fl_f : (fl mc me h t).lookup ("finger" : Str) = some (.int h) := (lk_ne (by decide +kernel)).trans ((lk_ne (by decide +kernel)).trans lk_eq)
theorem fl_t : (fl mc me h t).lookup ("ticks" : Str) = some (.int t) := (lk_ne (by decide +kernel)).trans ((lk_ne (by decide +kernel)).trans ((lk_ne (by decide +kernel)).trans lk_eq))
theorem fl_no {m : Str} (h1 : ¬ m = "machine") (h2 : ¬ m = "cells") (h3 : ¬ m = "finger") (h4 : ¬ m = "ticks") : (fl mc me h t).lookup m = none :=
  (lk_ne h1).trans ((lk_ne h2).trans ((lk_ne h3).trans ((lk_ne h4).trans rfl)))
theorem put_c : putF "cells" (.ref me') (fl mc me h t) = fl mc me' h t := (putF_ne (by decide +kernel)).trans (congrArg _ putF_eq)
theorem put_f : putF "finger" (.int h') (fl mc me h t) = fl mc me h' t := (putF_ne (by decide +kernel)).trans (congrArg _ ((putF_ne (by decide +kernel)).trans (congrArg _ putF_eq)))
theorem put_t : putF "ticks" (.int t') (fl mc me h t) = fl mc me h t' := (putF_ne (by decide +kernel)).trans (congrArg _ ((putF_ne (by decide +kernel)).trans (congrArg _ ((putF_ne (by decide +kernel)).trans (congrArg _ putF_eq)))))
theorem put_new : putF "ticks" (.int t) (putF "finger" (.int h) (putF "cells" (.ref me) (putF "machine" (.ref mc) []))) = fl mc me h t := by
  have e1 : putF "machine" (.ref mc) [] = [(("machine" : Str), V.ref mc)] := rfl
  have e2 : putF "cells" (.ref me) [(("machine" : Str), V.ref mc)] = ([("machine", .ref mc), ("cells", .ref me)] : List (Str × V)) := (putF_ne (by decide +kernel)).trans rfl
  have e3 : putF "finger" (.int h) ([("machine", V.ref mc), ("cells", .ref me)] : List (Str × V)) = ([("machine", .ref mc), ("cells", .ref me), ("finger", .int h)] : List (Str × V)) := (putF_ne (by decide +kernel)).trans (congrArg _ ((putF_ne (by decide +kernel)).trans rfl))
  rw [e1, e2, e3]
  exact (putF_ne (by decide +kernel)).trans (congrArg _ ((putF_ne (by decide +kernel)).trans (congrArg _ ((putF_ne (by decide +kernel)).trans rfl))))
end
/-- what the top has made of the class Store -/
structure SX (K : PySem.W.Frag) (C : Addr) : Prop where
  cl : Cls K C
  nM : NoAttr K C "machine"
  nC : NoAttr K C "cells"
  nF : NoAttr K C "finger"
  nT : NoAttr K C "ticks"
/-- .. of the class BadNumber -/
structure BX (K : PySem.W.Frag) (mg : Str → Option Value) (B : Addr) : Prop where
  g : mg "BadNumber" = some (.ref B)
  x : PySem.W.excIn K B [.type "ValueError", .type "Exception", .type "BaseException", .type "object"] "ValueError.__new__" = true
  k : PySem.W.keepIn K (.ref B) = true
  b : PySem.W.subIn K (.ref B) (.type "BaseException") = some true
  t : PySem.W.typeIn K (.ref B) = some (.type "type")
/-- a store stands at s -/
structure SO (C : Addr) (H : Hp) (s mc st wr si : Addr) (p : Int) (S W G : List (List Int)) (me : Addr) (y : List Int) (h t : Int) : Prop where
  ob : ∃ dx, H s = some (.ins C dx (fl mc me h t))
  m : Mach H mc st wr si p S W G
  ok : MOk p S W G
  me : IT H me y
  st : St0 p S.length y h
theorem SO.nt {C : Addr} {H : Hp} {s mc st wr si : Addr} {p : Int} {S W G : List (List Int)} {me : Addr} {y : List Int} {h t : Int} (o : SO C H s mc st wr si p S W G me y h t) : ∀ xs, H s ≠ some (.tup xs) := fun xs e => by
  obtain ⟨dx, z⟩ := o.ob
  rw [z] at e; cases e
def spInit (p1 p2 C : Addr) : Sp := fun vs H Q _ => ∃ (s dx mc st wr si : Addr) (p : Int) (S W G : List (List Int)), vs = [.ref s, .ref mc] ∧ H s = some (.ins C dx []) ∧ Mach H mc st wr si p S W G ∧ MOk p S W G ∧ T2 p1 p2 H ∧
  ∀ me H', T2 p1 p2 H' → (∀ b o, b ≠ p1 → b ≠ p2 → b ≠ s → H b = some o → H' b = some o) → SO C H' s mc st wr si p S W G me (List.replicate S.length 0) 0 0 → Q .non H'
def spDo (C : Addr) : Sp := fun vs H Q _ => ∃ (s mc st wr si : Addr) (p : Int) (S W G : List (List Int)) (me : Addr) (y : List Int) (h t : Int) (dd : Addr) (d : Deed), vs = [.ref s, .ref dd] ∧ SO C H s mc st wr si p S W G me y h t ∧ H dd = some (.tup d.xs) ∧ d.ok p W G ∧
  ∀ me' H', But s H H' → SO C H' s mc st wr si p S W G me' (step p S W G y h d).1 (step p S W G y h d).2 (t + 1) → Q .non H'
def spPlug (B : Addr) : Sp := fun vs H Q E => ∃ (x v : V) (t : Addr) (L : List (List Int)), vs = [x, v, .ref t] ∧ Flat v ∧ TT H t L ∧ ((numB 0 ((L.length : Int) - 1) v = true ∧ Q .non H) ∨ (numB 0 ((L.length : Int) - 1) v = false ∧ E (.ref B) none H))
section
variable {P : Program} {w : World} {K : PySem.W.Frag} {mg : Str → Option Value} {base : Heap}
theorem scInit : FnScope ["self", "machine"] ["self", "machine"] (defScope sInit) := ⟨rfl, rfl, rfl, by decide +kernel, rfl, by decide +kernel, by decide +kernel⟩
theorem ok_init {p1 p2 C : Addr} {f fN : Addr} {fd fdN : FuncData} {psN : List Str} (F : Fun K "__init__" "Store.__init__" sInit f fd) (T : TX mg) (X : SX K C) (CN : Cd K mg "need_machine" fN fdN psN) (GN : FnOk P w K mg base CX0 6 fN fdN psN (spNeed p1 p2)) :
    FnOk P w K mg base CX0 7 f fd ["self", "machine"] (spInit p1 p2 C) := by
  refine F.ok scInit (fun vs H Q E h => ?_) (fun cdv A outer sh H vs Q E hr h => ?_)
  · obtain ⟨s, dx, mc, st, wr, si, p, S, W, G, rfl, _⟩ := h; rfl
  · obtain ⟨s, dx, mc, st, wr, si, p, S, W, G, rfl, hs, hM, hO, hT, k⟩ := h
    refine ⟨_, pss_cons (ps_expr (pe_call GN hr (by rfl) CN.m CN.k CN.b .nil pass0 (pa_cons (pv 1) pa_nil)))
      (pss_cons (ps_fld (pv 0) (pv 1) rfl)
      (pss_cons (ps_fld (pv 0) (pe_op op_repK (pe_tup (pa_cons pe_int pa_nil)) (pe_callB call_len_seq (by rfl) T.len PySem.boot_len (pa_cons (pe_ix ix_tup (pv 1) pe_int (fun _ _ => rfl)) pa_nil))) rfl)
      (pss_cons (ps_fld (pv 0) pe_int rfl) (pss_one (ps_fld (pv 0) pe_int rfl))))), ?_⟩
    refine ⟨_, rfl, mc, st, wr, si, p, S, W, G, rfl, hM, hO, hT, fun H1 g1 => ?_⟩
    have hs1 : H1 s = some (.ins C dx []) := g1.keep hT hs (fun ps z => nomatch z)
    have hM1 := hM.tk (g1.tk hT)
    obtain ⟨sv, hsv, hS⟩ := id hM1.s
    have hsl : sv.length = S.length := plen hS
    have h1 := hO.s1
    have h4 := hO.s4
    have nms : mc ≠ s := fun e => by have z := hM1.ob; rw [e, hs1] at z; cases z
    have nss : st ≠ s := fun e => by rw [e, hs1] at hsv; cases hsv
    refine ⟨_, rfl, _, rfl, s, C, dx, [], rfl, hs1, X.cl, X.nM, by show 0 < 1000; decide, ?_⟩
    -- self.cells = (0,) * len(machine[1])
    refine ⟨by show 1 ≤ sizeLine; decide, fun l nl => ?_⟩
    have hM2 : upd (upd H1 s (.ins C dx (putF "machine" (.ref mc) []))) l (.tup [.int 0]) mc = some (.tup [.int p, .ref st, .ref wr, .ref si]) := by
      have nml : upd H1 s (.ins C dx (putF "machine" (.ref mc) [])) mc = some (.tup [.int p, .ref st, .ref wr, .ref si]) := (upd_ne nms).trans hM1.ob
      exact (upd_ne (ne_of_none nml nl)).trans nml
    have hS2 : upd (upd H1 s (.ins C dx (putF "machine" (.ref mc) []))) l (.tup [.int 0]) st = some (.tup sv) := by
      have nml : upd H1 s (.ins C dx (putF "machine" (.ref mc) [])) st = some (.tup sv) := (upd_ne nss).trans hsv
      exact (upd_ne (ne_of_none nml nl)).trans nml
    refine ⟨_, rfl, mc, _, _, _, rfl, rfl, SqT.of hM2, rfl, st, _, rfl, .inr (SqT.of hS2), ?_⟩
    refine ⟨l, sv.length, .int 0, rfl, rfl, upd_same, by omega, by omega, fun me H3 k3 hme => ?_⟩
    have hs2 : upd H1 s (.ins C dx (putF "machine" (.ref mc) [])) s = some (.ins C dx (putF "machine" (.ref mc) [])) := upd_same
    have hs3 : H3 s = some (.ins C dx (putF "machine" (.ref mc) [])) := k3 _ _ ((upd_ne (ne_of_none hs2 nl)).trans hs2)
    refine ⟨_, rfl, s, C, dx, _, rfl, hs3, X.cl, X.nC, by show 1 < 1000; decide, _, rfl, s, C, dx, _, rfl, upd_same, X.cl, X.nF, by show 2 < 1000; decide, _, rfl, s, C, dx, _, rfl, upd_same, X.cl, X.nT, by show 3 < 1000; decide, ?_⟩
    -- what is left
    have keep1 : ∀ b o, b ≠ s → H1 b = some o → H3 b = some o := fun b o n e => by
      have e1 : upd H1 s (.ins C dx (putF "machine" (.ref mc) [])) b = some o := (upd_ne n).trans e
      exact k3 _ _ ((upd_ne (ne_of_none e1 nl)).trans e1)
    generalize hH4 : upd (upd (upd H3 s (.ins C dx (putF "cells" (.ref me) (putF "machine" (.ref mc) [])))) s (.ins C dx (putF "finger" (.int 0) (putF "cells" (.ref me) (putF "machine" (.ref mc) []))))) s (.ins C dx (putF "ticks" (.int 0) (putF "finger" (.int 0) (putF "cells" (.ref me) (putF "machine" (.ref mc) []))))) = H4
    have at4 : ∀ b, b ≠ s → H4 b = H3 b := fun b n => by rw [← hH4, upd_ne n, upd_ne n, upd_ne n]
    have keep4 : ∀ b o, b ≠ s → H1 b = some o → H4 b = some o := fun b o n e => (at4 b n).trans (keep1 b o n e)
    have tab4 : ∀ q, TG1 H1 q → TG1 H4 q := fun q ⟨ps, e, r⟩ => ⟨ps, keep4 q _ (fun z => by rw [z, hs1] at e; cases e) e, r⟩
    have hT1 := hT.gr g1
    have nmes : me ≠ s := fun z => by rw [z, hs3] at hme; cases hme
    refine k me H4 ⟨tab4 _ hT1.a, tab4 _ hT1.b⟩ (fun b o n1 n2 n3 e => keep4 b o n3 (g1.st b o n1 n2 e)) ⟨⟨dx, ?_⟩, hM1.tk fun b xs e => keep4 b _ (fun z => by rw [z, hs1] at e; cases e) e, hO, ?_, ?_⟩
    · rw [← hH4, upd_same, put_new]
    · show H4 me = _
      rw [at4 me nmes, hme, hsl, List.map_replicate]
    · exact ⟨List.length_replicate, fun u hu => by rw [(List.mem_replicate.mp hu).2]; have := hO.pr.pos; omega, by omega, by have := hO.pr.pos; omega⟩
theorem scDo : FnScope ["self", "deed"] ["self", "deed"] (defScope sDo) := ⟨rfl, rfl, rfl, by decide +kernel, rfl, by decide +kernel, by decide +kernel⟩
theorem ok_do {C : Addr} {f fD : Addr} {fd fdD : FuncData} {psD : List Str} (F : Fun K "do" "Store.do" sDo f fd) (X : SX K C) (CD : Cd K mg "deed_done" fD fdD psD) (GD : FnOk P w K mg base CX0 4 fD fdD psD spDone) :
    FnOk P w K mg base CX0 5 f fd ["self", "deed"] (spDo C) := by
  refine F.ok scDo (fun vs H Q E h => ?_) (fun cdv A outer sh H vs Q E hr h => ?_)
  · obtain ⟨s, mc, st, wr, si, p, S, W, G, me, y, h, t, dd, d, rfl, _⟩ := h; rfl
  · obtain ⟨s, mc, st, wr, si, p, S, W, G, me, y, h, t, dd, d, rfl, O, hd, hk, k⟩ := h
    obtain ⟨dx, hs⟩ := O.ob
    refine ⟨_, pss_cons (ps_asg (pe_call GD hr (by rfl) CD.m CD.k CD.b .nil pass0 (pa_cons (pe_fld (pv 0) rfl) (pa_cons (pe_fld (pv 0) rfl) (pa_cons (pe_fld (pv 0) rfl) (pa_cons (pv 1) pa_nil))))) (pg_tup rfl (pgs_cons (pg_fld (pv 0)) (pgs_cons (pg_fld (pv 0)) pgs_nil))))
      (pss_one (ps_fldaug (pv 0) pe_int in_add)), ?_⟩
    refine ⟨_, rfl, s, C, dx, _, _, rfl, hs, X.cl, X.nM, fl_m, _, rfl, s, C, dx, _, _, rfl, hs, X.cl, X.nC, fl_c, _, rfl, s, C, dx, _, _, rfl, hs, X.cl, X.nF, fl_f, _, rfl, ?_⟩
    refine ⟨mc, st, wr, si, p, S, W, G, me, dd, y, h, d, rfl, O.m, O.ok, O.me, O.st, hd, hk, fun r b H1 s1 hr1 hb => ?_⟩
    have hs1 : H1 s = some (.ins C dx (fl mc me h t)) := s1 _ _ hs
    refine ⟨r, _, rfl, SqT.of hr1, rfl, _, _, rfl, _, rfl, s, C, dx, _, rfl, hs1, X.cl, X.nC, by show 4 < 1000; decide, _, _, rfl, _, rfl, s, C, dx, _, rfl, upd_same, X.cl, X.nF, by rw [put_c]; show 4 < 1000; decide, rfl, ?_⟩
    refine ⟨_, rfl, s, C, dx, _, _, rfl, upd_same, X.cl, X.nT, by rw [put_c, put_f]; exact fl_t, _, _, rfl, rfl, dx, _, upd_same, by rw [put_c, put_f]; show 4 < 1000; decide, ?_⟩
    generalize hH4 : upd (upd (upd H1 s _) s _) s _ = H4
    have at4 : ∀ c, c ≠ s → H4 c = H1 c := fun c n => by rw [← hH4, upd_ne n, upd_ne n, upd_ne n]
    have nt : ∀ xs, H1 s ≠ some (.tup xs) := fun xs e => by rw [hs1] at e; cases e
    have bt : But s H1 H4 := fun c o n e => (at4 c n).trans e
    have tk : Tk H1 H4 := bt.tk nt
    refine k b H4 ((Same.but s1).trans bt) ⟨⟨dx, ?_⟩, O.m.tk ((Same.tk s1).trans tk), O.ok, tk _ _ hb, O.st.step O.ok hk⟩
    rw [← hH4, upd_same, put_c, put_f, put_t]
theorem scPlug : FnScope ["self", "value", "rows"] ["self", "value", "rows"] (defScope sPlug) := ⟨rfl, rfl, rfl, by decide +kernel, rfl, by decide +kernel, by decide +kernel⟩
theorem ok_plug {B : Addr} {f fN : Addr} {fd fdN : FuncData} {psN : List Str} (F : Fun K "need_plug" "Store.need_plug" sPlug f fd) (T : TX mg) (X : BX K mg B) (CN : Cd K mg "is_number" fN fdN psN) (GN : FnOk P w K mg base CX0 1 fN fdN psN spNum) :
    FnOk P w K mg base (L2.CX P w) 2 f fd ["self", "value", "rows"] (spPlug B) := by
  refine F.okX scPlug (fun vs H Q E h => ?_) (fun cdv A outer sh H vs Q E hr h => ?_)
  · obtain ⟨x, v, t, L, rfl, _⟩ := h; rfl
  · obtain ⟨x, v, t, L, rfl, hv, ht, k⟩ := h
    obtain ⟨rs, hrs, hR⟩ := ht
    have hl : rs.length = L.length := plen hR
    refine ⟨_, pss_one (ps_if (pt_not (pt_val (pe_call GN hr (by rfl) CN.m CN.k CN.b .nil pass0 (pa_cons (pv 1) (pa_cons pe_int (pa_cons (pe_op op_sub (pe_callB call_len_seq (by rfl) T.len PySem.boot_len (pa_cons (pv 2) pa_nil)) pe_int) pa_nil))))))
      (pss_one (ps_raise rfl (takes_of rfl rfl rfl rfl) (pmk_own0 PySem.F.excBase_ValueError X.x X.g X.k (raises_own X.b X.t) (by rfl)))) pss_nil), ?_⟩
    refine ⟨_, rfl, _, rfl, t, _, rfl, .inr (SqT.of hrs), _, _, rfl, rfl, v, 0, (rs.length : Int) - 1, rfl, hv, _, rfl, ?_⟩
    rw [hl]
    rcases k with ⟨e, k⟩ | ⟨e, k⟩
    · rw [e]; exact iteF k
    · rw [e]; exact iteT k
end
end Dr
set_option maxRecDepth 100000
set_option maxHeartbeats 4000000
namespace Dr
open PySem PySem.Spec PyProof.Rows L2 DrG
theorem SO.same {C : Addr} {H H' : Hp} {s mc st wr si : Addr} {p : Int} {S W G : List (List Int)} {me : Addr} {y : List Int} {h t : Int} (o : SO C H s mc st wr si p S W G me y h t) (e : Same H H') : SO C H' s mc st wr si p S W G me y h t :=
  ⟨let ⟨dx, z⟩ := o.ob; ⟨dx, e _ _ z⟩, o.m.tk (Same.tk e), o.ok, e _ _ o.me, o.st⟩
/-- the store after the deed d, by what is wanted of it -/
def Aft (C : Addr) (H : Hp) (s mc st wr si : Addr) (p : Int) (S W G : List (List Int)) (y : List Int) (h t : Int) (d : Deed) (q : Hp → Prop) : Prop :=
  ∀ me' H', But s H H' → SO C H' s mc st wr si p S W G me' (step p S W G y h d).1 (step p S W G y h d).2 (t + 1) → q H'
def spSee (C B : Addr) : Sp := fun vs H Q E => ∃ (s mc st wr si : Addr) (p : Int) (S W G : List (List Int)) (me : Addr) (y : List Int) (h t : Int) (v : V), vs = [.ref s, v] ∧ SO C H s mc st wr si p S W G me y h t ∧ Flat v ∧
  ((∃ k : Nat, v = .int k ∧ k < G.length ∧ Aft C H s mc st wr si p S W G y h t (.get k) (Q (.int (step p S W G y h (.get k)).2))) ∨ (numB 0 ((G.length : Int) - 1) v = false ∧ E (.ref B) none H))
def spJoin (C B : Addr) : Sp := fun vs H Q E => ∃ (s mc st wr si : Addr) (p : Int) (S W G : List (List Int)) (me : Addr) (y : List Int) (h t : Int) (v : V) (b : Bool), vs = [.ref s, v, .bl b] ∧ SO C H s mc st wr si p S W G me y h t ∧ Flat v ∧
  ((∃ k : Nat, v = .int k ∧ k < G.length ∧ Aft C H s mc st wr si p S W G y h t (bif b then .minus k else .plus k) (Q .non)) ∨ (numB 0 ((G.length : Int) - 1) v = false ∧ E (.ref B) none H))
def spWrite (C B : Addr) : Sp := fun vs H Q E => ∃ (s mc st wr si : Addr) (p : Int) (S W G : List (List Int)) (me : Addr) (y : List Int) (h t : Int) (v : V) (b : Bool), vs = [.ref s, v, .bl b] ∧ SO C H s mc st wr si p S W G me y h t ∧ Flat v ∧
  ((∃ k : Nat, v = .int k ∧ k < W.length ∧ Aft C H s mc st wr si p S W G y h t (bif b then .take k else .add k) (Q .non)) ∨ (numB 0 ((W.length : Int) - 1) v = false ∧ E (.ref B) none H))
def spPut (C B : Addr) : Sp := fun vs H Q E => ∃ (s mc st wr si : Addr) (p : Int) (S W G : List (List Int)) (me : Addr) (y : List Int) (h t : Int) (v : V), vs = [.ref s, v] ∧ SO C H s mc st wr si p S W G me y h t ∧ Flat v ∧
  ((∃ n : Int, v = .int n ∧ 0 ≤ n ∧ n < p ∧ Aft C H s mc st wr si p S W G y h t (.put n) (Q .non)) ∨ (numB 0 (p - 1) v = false ∧ E (.ref B) none H))
def spWait (C : Addr) : Sp := fun vs H Q _ => ∃ (s mc st wr si : Addr) (p : Int) (S W G : List (List Int)) (me : Addr) (y : List Int) (h t : Int), vs = [.ref s] ∧ SO C H s mc st wr si p S W G me y h t ∧ Aft C H s mc st wr si p S W G y h t .wait (Q .non)
theorem numB_in {n m : Int} (h0 : 0 ≤ n) (h1 : n < m) : numB 0 (m - 1) (.int n) = true := by
  show (decide (0 ≤ n) && decide (n ≤ m - 1)) = true
  rw [decide_eq_true h0, decide_eq_true (by omega)]; rfl
theorem Aft.same {C : Addr} {H H1 : Hp} {s mc st wr si : Addr} {p : Int} {S W G : List (List Int)} {y : List Int} {h t : Int} {d : Deed} {q : Hp → Prop} (a : Aft C H s mc st wr si p S W G y h t d q) (e : Same H H1) : Aft C H1 s mc st wr si p S W G y h t d q :=
  fun me' H' b o => a me' H' ((Same.but e).trans b) o
section
variable {P : Program} {w : World} {K : PySem.W.Frag} {mg : Str → Option Value} {base : Heap}
theorem scSee : FnScope ["self", "sight"] ["self", "sight"] (defScope sSee) := ⟨rfl, rfl, rfl, by decide +kernel, rfl, by decide +kernel, by decide +kernel⟩
theorem ok_see {C B : Addr} {f fP fD : Addr} {fd fdP fdD : FuncData} {psP psD : List Str} (F : Fun K "see" "Store.see" sSee f fd) (X : SX K C) (mP : Meth K C "need_plug" fP) (bP : Binds K fdP psP []) (GP : FnOk P w K mg base (L2.CX P w) 2 fP fdP psP (spPlug B))
    (mD : Meth K C "do" fD) (bD : Binds K fdD psD []) (GD : FnOk P w K mg base CX0 5 fD fdD psD (spDo C)) : FnOk P w K mg base (L2.CX P w) 6 f fd ["self", "sight"] (spSee C B) := by
  refine F.okX scSee (fun vs H Q E h => ?_) (fun cdv A outer sh H vs Q E hr h => ?_)
  · obtain ⟨s, mc, st, wr, si, p, S, W, G, me, y, h, t, v, rfl, _⟩ := h; rfl
  · obtain ⟨s, mc, st, wr, si, p, S, W, G, me, y, h, t, v, rfl, O, hv, k⟩ := h
    obtain ⟨dx, hs⟩ := O.ob
    refine ⟨_, pss_cons (ps_expr (pe_meth (pv 0) X.cl mP GP (hr.mono (by decide)) bP .nil (passes_call (takes_of rfl rfl rfl rfl) (fun _ _ _ _ h => h)) (pa_cons (pv 1) (pa_cons (pe_ix ix_tup (pe_fld (pv 0) rfl) pe_int (fun _ _ => rfl)) pa_nil))))
      (pss_cons (ps_expr (pe_meth (pv 0) X.cl mD GD hr bD .nil pass0 (pa_cons (pe_tup (pa_cons pe_str (pa_cons (pv 1) pa_nil))) pa_nil))) (pss_one (ps_ret (pe_fld (pv 0) rfl)))), ?_⟩
    refine ⟨_, rfl, s, dx, _, rfl, hs, fl_no (by decide +kernel) (by decide +kernel) (by decide +kernel) (by decide +kernel), _, rfl, _, rfl, s, C, dx, _, _, rfl, hs, X.cl, X.nM, fl_m, mc, _, _, _, rfl, rfl, SqT.of O.m.ob, rfl, ?_⟩
    refine ⟨.ref s, v, si, G, rfl, hv, O.m.g, ?_⟩
    rcases k with ⟨j, rfl, hj, k⟩ | ⟨e, k⟩
    · refine .inl ⟨numB_in (by omega) (by omega), ?_⟩
      refine ⟨_, rfl, s, dx, _, rfl, hs, fl_no (by decide +kernel) (by decide +kernel) (by decide +kernel) (by decide +kernel), _, rfl, by show 2 ≤ sizeLine; decide, fun q nq => ?_⟩
      have e := same_upd (o := .tup [.str "get", .int (j : Nat)]) nq
      refine ⟨s, mc, st, wr, si, p, S, W, G, me, y, h, t, q, .get j, rfl, O.same e, upd_same, hj, fun me' H' b O' => ?_⟩
      obtain ⟨dx', hs'⟩ := O'.ob
      exact ⟨_, rfl, s, C, dx', _, _, rfl, hs', X.cl, X.nF, fl_f, k.same e me' H' b O'⟩
    · exact .inr ⟨e, k⟩
theorem scJoin : FnScope ["self", "sight", "is_taken"] ["self", "sight", "is_taken"] (defScope sJoin) := ⟨rfl, rfl, rfl, by decide +kernel, rfl, by decide +kernel, by decide +kernel⟩
theorem ok_join {C B : Addr} {f fP fD : Addr} {fd fdP fdD : FuncData} {psP psD : List Str} (F : FunD K "join" "Store.join" (defArgs sJoin) (defBody sJoin) (defScope sJoin) [.bl false] [] f fd) (X : SX K C) (mP : Meth K C "need_plug" fP) (bP : Binds K fdP psP []) (GP : FnOk P w K mg base (L2.CX P w) 2 fP fdP psP (spPlug B))
    (mD : Meth K C "do" fD) (bD : Binds K fdD psD []) (GD : FnOk P w K mg base CX0 5 fD fdD psD (spDo C)) : FnOk P w K mg base (L2.CX P w) 6 f fd ["self", "sight", "is_taken"] (spJoin C B) := by
  refine F.ok scJoin (fun vs H Q E h => ?_) (fun cdv A outer sh H vs Q E hr h => ?_)
  · obtain ⟨s, mc, st, wr, si, p, S, W, G, me, y, h, t, v, b, rfl, _⟩ := h; rfl
  · obtain ⟨s, mc, st, wr, si, p, S, W, G, me, y, h, t, v, b, rfl, O, hv, k⟩ := h
    obtain ⟨dx, hs⟩ := O.ob
    refine ⟨_, pss_cons (ps_expr (pe_meth (pv 0) X.cl mP GP (hr.mono (by decide)) bP .nil (passes_call (takes_of rfl rfl rfl rfl) (fun _ _ _ _ h => h)) (pa_cons (pv 1) (pa_cons (pe_ix ix_tup (pe_fld (pv 0) rfl) pe_int (fun _ _ => rfl)) pa_nil))))
      (pss_one (ps_expr (pe_meth (pv 0) X.cl mD GD hr bD .nil pass0 (pa_cons (pe_tup (pa_cons (pe_ifExp (pt_cmpR op_isBl (pv 2) pe_bl (nomark _)) pe_str pe_str) (pa_cons (pv 1) pa_nil))) pa_nil)))), ?_⟩
    refine ⟨_, rfl, s, dx, _, rfl, hs, fl_no (by decide +kernel) (by decide +kernel) (by decide +kernel) (by decide +kernel), _, rfl, _, rfl, s, C, dx, _, _, rfl, hs, X.cl, X.nM, fl_m, mc, _, _, _, rfl, rfl, SqT.of O.m.ob, rfl, ?_⟩
    refine ⟨.ref s, v, si, G, rfl, hv, O.m.g, ?_⟩
    rcases k with ⟨j, rfl, hj, k⟩ | ⟨e, k⟩
    · refine .inl ⟨numB_in (by omega) (by omega), ?_⟩
      refine ⟨_, rfl, s, dx, _, rfl, hs, fl_no (by decide +kernel) (by decide +kernel) (by decide +kernel) (by decide +kernel), _, rfl, b, true, rfl, rfl, _, rfl, ?_⟩
      cases b with
      | true =>
        refine iteD (decide_eq_true rfl) ⟨_, rfl, by show 2 ≤ sizeLine; decide, fun q nq => ?_⟩
        have e := same_upd (o := .tup [.str "minus", .int (j : Nat)]) nq
        exact ⟨s, mc, st, wr, si, p, S, W, G, me, y, h, t, q, .minus j, rfl, O.same e, upd_same, hj, k.same e⟩
      | false =>
        refine iteDF (decide_eq_false Bool.false_ne_true) ⟨_, rfl, by show 2 ≤ sizeLine; decide, fun q nq => ?_⟩
        have e := same_upd (o := .tup [.str "plus", .int (j : Nat)]) nq
        exact ⟨s, mc, st, wr, si, p, S, W, G, me, y, h, t, q, .plus j, rfl, O.same e, upd_same, hj, k.same e⟩
    · exact .inr ⟨e, k⟩
theorem scWrite : FnScope ["self", "plug", "is_taken"] ["self", "plug", "is_taken"] (defScope sWrite) := ⟨rfl, rfl, rfl, by decide +kernel, rfl, by decide +kernel, by decide +kernel⟩
theorem ok_write {C B : Addr} {f fP fD : Addr} {fd fdP fdD : FuncData} {psP psD : List Str} (F : FunD K "write" "Store.write" (defArgs sWrite) (defBody sWrite) (defScope sWrite) [.bl false] [] f fd) (X : SX K C) (mP : Meth K C "need_plug" fP) (bP : Binds K fdP psP []) (GP : FnOk P w K mg base (L2.CX P w) 2 fP fdP psP (spPlug B))
    (mD : Meth K C "do" fD) (bD : Binds K fdD psD []) (GD : FnOk P w K mg base CX0 5 fD fdD psD (spDo C)) : FnOk P w K mg base (L2.CX P w) 6 f fd ["self", "plug", "is_taken"] (spWrite C B) := by
  refine F.ok scWrite (fun vs H Q E h => ?_) (fun cdv A outer sh H vs Q E hr h => ?_)
  · obtain ⟨s, mc, st, wr, si, p, S, W, G, me, y, h, t, v, b, rfl, _⟩ := h; rfl
  · obtain ⟨s, mc, st, wr, si, p, S, W, G, me, y, h, t, v, b, rfl, O, hv, k⟩ := h
    obtain ⟨dx, hs⟩ := O.ob
    refine ⟨_, pss_cons (ps_expr (pe_meth (pv 0) X.cl mP GP (hr.mono (by decide)) bP .nil (passes_call (takes_of rfl rfl rfl rfl) (fun _ _ _ _ h => h)) (pa_cons (pv 1) (pa_cons (pe_ix ix_tup (pe_fld (pv 0) rfl) pe_int (fun _ _ => rfl)) pa_nil))))
      (pss_one (ps_expr (pe_meth (pv 0) X.cl mD GD hr bD .nil pass0 (pa_cons (pe_tup (pa_cons (pe_ifExp (pt_cmpR op_isBl (pv 2) pe_bl (nomark _)) pe_str pe_str) (pa_cons (pv 1) pa_nil))) pa_nil)))), ?_⟩
    refine ⟨_, rfl, s, dx, _, rfl, hs, fl_no (by decide +kernel) (by decide +kernel) (by decide +kernel) (by decide +kernel), _, rfl, _, rfl, s, C, dx, _, _, rfl, hs, X.cl, X.nM, fl_m, mc, _, _, _, rfl, rfl, SqT.of O.m.ob, rfl, ?_⟩
    refine ⟨.ref s, v, wr, W, rfl, hv, O.m.w, ?_⟩
    rcases k with ⟨j, rfl, hj, k⟩ | ⟨e, k⟩
    · refine .inl ⟨numB_in (by omega) (by omega), ?_⟩
      refine ⟨_, rfl, s, dx, _, rfl, hs, fl_no (by decide +kernel) (by decide +kernel) (by decide +kernel) (by decide +kernel), _, rfl, b, true, rfl, rfl, _, rfl, ?_⟩
      cases b with
      | true =>
        refine iteD (decide_eq_true rfl) ⟨_, rfl, by show 2 ≤ sizeLine; decide, fun q nq => ?_⟩
        have e := same_upd (o := .tup [.str "take", .int (j : Nat)]) nq
        exact ⟨s, mc, st, wr, si, p, S, W, G, me, y, h, t, q, .take j, rfl, O.same e, upd_same, hj, k.same e⟩
      | false =>
        refine iteDF (decide_eq_false Bool.false_ne_true) ⟨_, rfl, by show 2 ≤ sizeLine; decide, fun q nq => ?_⟩
        have e := same_upd (o := .tup [.str "add", .int (j : Nat)]) nq
        exact ⟨s, mc, st, wr, si, p, S, W, G, me, y, h, t, q, .add j, rfl, O.same e, upd_same, hj, k.same e⟩
    · exact .inr ⟨e, k⟩
theorem scPut : FnScope ["self", "number"] ["self", "number"] (defScope sPut) := ⟨rfl, rfl, rfl, by decide +kernel, rfl, by decide +kernel, by decide +kernel⟩
theorem ok_put {C B : Addr} {f fN fD : Addr} {fd fdN fdD : FuncData} {psN psD : List Str} (F : Fun K "put" "Store.put" sPut f fd) (X : SX K C) (Y : BX K mg B) (CN : Cd K mg "is_number" fN fdN psN) (GN : FnOk P w K mg base CX0 1 fN fdN psN spNum)
    (mD : Meth K C "do" fD) (bD : Binds K fdD psD []) (GD : FnOk P w K mg base CX0 5 fD fdD psD (spDo C)) : FnOk P w K mg base (L2.CX P w) 6 f fd ["self", "number"] (spPut C B) := by
  refine F.okX scPut (fun vs H Q E h => ?_) (fun cdv A outer sh H vs Q E hr h => ?_)
  · obtain ⟨s, mc, st, wr, si, p, S, W, G, me, y, h, t, v, rfl, _⟩ := h; rfl
  · obtain ⟨s, mc, st, wr, si, p, S, W, G, me, y, h, t, v, rfl, O, hv, k⟩ := h
    obtain ⟨dx, hs⟩ := O.ob
    refine ⟨_, pss_cons (ps_if (pt_not (pt_val (pe_call GN (hr.mono (by decide)) (by rfl) CN.m CN.k CN.b .nil pass0 (pa_cons (pv 1) (pa_cons pe_int (pa_cons (pe_op op_sub (pe_ix ix_tup (pe_fld (pv 0) rfl) pe_int (fun _ _ => rfl)) pe_int) pa_nil))))))
      (pss_one (ps_raise rfl (takes_of rfl rfl rfl rfl) (pmk_own0 PySem.F.excBase_ValueError Y.x Y.g Y.k (raises_own Y.b Y.t) (by rfl)))) pss_nil)
      (pss_one (ps_expr (pe_meth (pv 0) X.cl mD GD hr bD .nil pass0 (pa_cons (pe_tup (pa_cons pe_str (pa_cons (pv 1) pa_nil))) pa_nil)))), ?_⟩
    refine ⟨_, rfl, _, rfl, s, C, dx, _, _, rfl, hs, X.cl, X.nM, fl_m, mc, _, _, _, rfl, rfl, SqT.of O.m.ob, rfl, _, _, rfl, rfl, v, 0, p - 1, rfl, hv, _, rfl, ?_⟩
    rcases k with ⟨n, rfl, h0, h1, k⟩ | ⟨e, k⟩
    · rw [numB_in h0 h1]
      refine iteF ⟨_, rfl, s, dx, _, rfl, hs, fl_no (by decide +kernel) (by decide +kernel) (by decide +kernel) (by decide +kernel), _, rfl, by show 2 ≤ sizeLine; decide, fun q nq => ?_⟩
      have e := same_upd (o := .tup [.str "put", .int n]) nq
      exact ⟨s, mc, st, wr, si, p, S, W, G, me, y, h, t, q, .put n, rfl, O.same e, upd_same, ⟨h0, h1⟩, k.same e⟩
    · rw [e]; exact iteT k
theorem scWait : FnScope ["self"] ["self"] (defScope sWait) := ⟨rfl, rfl, rfl, by decide +kernel, rfl, by decide +kernel, by decide +kernel⟩
theorem ok_wait {C : Addr} {f fD : Addr} {fd fdD : FuncData} {psD : List Str} (F : Fun K "wait" "Store.wait" sWait f fd) (X : SX K C)
    (mD : Meth K C "do" fD) (bD : Binds K fdD psD []) (GD : FnOk P w K mg base CX0 5 fD fdD psD (spDo C)) : FnOk P w K mg base CX0 6 f fd ["self"] (spWait C) := by
  refine F.ok scWait (fun vs H Q E h => ?_) (fun cdv A outer sh H vs Q E hr h => ?_)
  · obtain ⟨s, mc, st, wr, si, p, S, W, G, me, y, h, t, rfl, _⟩ := h; rfl
  · obtain ⟨s, mc, st, wr, si, p, S, W, G, me, y, h, t, rfl, O, k⟩ := h
    obtain ⟨dx, hs⟩ := O.ob
    refine ⟨_, pss_one (ps_expr (pe_meth (pv 0) X.cl mD GD hr bD .nil pass0 (pa_cons (pe_tup (pa_cons pe_str pa_nil)) pa_nil))), ?_⟩
    refine ⟨_, rfl, s, dx, _, rfl, hs, fl_no (by decide +kernel) (by decide +kernel) (by decide +kernel) (by decide +kernel), by show 1 ≤ sizeLine; decide, fun q nq => ?_⟩
    have e := same_upd (o := .tup [.str "wait"]) nq
    exact ⟨s, mc, st, wr, si, p, S, W, G, me, y, h, t, q, .wait, rfl, O.same e, upd_same, trivial, k.same e⟩
theorem scTick : FnScope ["self"] ["self"] (defScope sTick) := ⟨rfl, rfl, rfl, by decide +kernel, rfl, by decide +kernel, by decide +kernel⟩
theorem ok_tick {C : Addr} {f : Addr} {fd : FuncData} (F : Fun K "tick" "Store.tick" sTick f fd) (X : SX K C) : FnOk P w K mg base CX0 1 f fd ["self"] (getSp C "ticks") := by
  refine F.ok scTick (fun vs H Q E h => ?_) (fun cdv A outer sh H vs Q E hr h => ?_)
  · obtain ⟨a, dx, fs, v, rfl, _⟩ := h; rfl
  · obtain ⟨a, dx, fs, v, rfl, ea, l, k⟩ := h
    exact ⟨_, pss_one (ps_ret (pe_fld (pv 0) rfl)), _, rfl, a, C, dx, fs, v, rfl, ea, X.cl, X.nT, l, k⟩
theorem scHeld : FnScope ["self"] ["self"] (defScope sHeld) := ⟨rfl, rfl, rfl, by decide +kernel, rfl, by decide +kernel, by decide +kernel⟩
theorem ok_held {C : Addr} {f : Addr} {fd : FuncData} (F : Fun K "held" "Store.held" sHeld f fd) (X : SX K C) : FnOk P w K mg base CX0 1 f fd ["self"] (getSp C "cells") := by
  refine F.ok scHeld (fun vs H Q E h => ?_) (fun cdv A outer sh H vs Q E hr h => ?_)
  · obtain ⟨a, dx, fs, v, rfl, _⟩ := h; rfl
  · obtain ⟨a, dx, fs, v, rfl, ea, l, k⟩ := h
    exact ⟨_, pss_one (ps_ret (pe_fld (pv 0) rfl)), _, rfl, a, C, dx, fs, v, rfl, ea, X.cl, X.nC, l, k⟩
theorem scOwn : FnScope ["self"] ["self"] (defScope sOwn) := ⟨rfl, rfl, rfl, by decide +kernel, rfl, by decide +kernel, by decide +kernel⟩
theorem ok_own {C : Addr} {f : Addr} {fd : FuncData} (F : Fun K "own" "Store.own" sOwn f fd) (X : SX K C) : FnOk P w K mg base CX0 1 f fd ["self"] (getSp C "finger") := by
  refine F.ok scOwn (fun vs H Q E h => ?_) (fun cdv A outer sh H vs Q E hr h => ?_)
  · obtain ⟨a, dx, fs, v, rfl, _⟩ := h; rfl
  · obtain ⟨a, dx, fs, v, rfl, ea, l, k⟩ := h
    exact ⟨_, pss_one (ps_ret (pe_fld (pv 0) rfl)), _, rfl, a, C, dx, fs, v, rfl, ea, X.cl, X.nF, l, k⟩
end
end Dr
set_option maxRecDepth 100000
set_option maxHeartbeats 4000000
namespace Dr
open PySem PySem.Spec PyProof.Rows L2 DrG
/-! ### the law's own met, added, stirred, deed -/
section
variable {P : Program} {w : World} {K : PySem.W.Frag} {mg : Str → Option Value} {base : Heap}
theorem scLMet : FnScope ["_law_prime", "_law_one", "_law_other", "_law_left", "_law_right"] ["_law_prime", "_law_one", "_law_other"] (defScope sLMet) := ⟨rfl, rfl, rfl, by decide +kernel, rfl, by decide +kernel, by decide +kernel⟩
theorem ok_lmet {f : Addr} {fd : FuncData} (F : Fun K "_law_met" "_law_met" sLMet f fd) (T : TX mg) : FnOk P w K mg base CX0 1 f fd ["_law_prime", "_law_one", "_law_other"] spMet := by
  refine F.ok scLMet (fun vs H Q E h => ?_) (fun cdv A outer s H vs Q E hr h => ?_)
  · obtain ⟨p, a, b, x, y, rfl, _⟩ := h; rfl
  · obtain ⟨p, a, b, x, y, rfl, hp, hs, ha, hb, hl, hn, k⟩ := h
    refine ⟨_, pss_one (ps_ret (pe_op op_mod (pe_callB (cr_sum rfl) (by rfl) T.sum b_sum (pa_cons
      (pe_lc (own := [("_law_left", 3), ("_law_right", 4)]) (g := g2 K 3 4) (tt := tYes) rfl scLMet.nd (RZ.pi_zipA (by rfl) T.zip (pa_cons (pv 1) (pa_cons (pv 2) pa_nil)))
        (blkOk_by (N := ["_law_prime", "_law_one", "_law_other", "_law_left", "_law_right"]) (sc := defScope sLMet) (by decide +kernel))
        (fun _ _ _ _ _ => pg_tup rfl (pgs_cons (pg_name (i := 3) scLMet.nd rfl (Or.inl rfl)) (pgs_cons (pg_name (i := 4) scLMet.nd rfl (Or.inl rfl)) pgs_nil))) (fun _ _ _ _ _ => pts_nil)
        (fun _ _ _ _ _ => pe_op op_mul (pv 3) (pv 4))) pa_nil)) (pv 0))), ?_⟩
    refine ⟨_, rfl, _, rfl, a, b, _, _, rfl, .inr ⟨SqT.of ha, SqT.of hb, fun D hD => lc_zT (fun l r => l * r) ha hb rfl hl.symm hn hD (fun _ _ => rfl) (fun u hu v _ H2 Q2 q => ?_) (fun H2 s2 h2 => ?_)⟩⟩
    · exact ⟨_, rfl, _, rfl, _, _, rfl, rfl, .inl ⟨(hs u hu).1, (hs u hu).2⟩, q⟩
    · exact ⟨D, _, rfl, SqL.of h2, _, rfl, _, _, rfl, rfl, hp, k H2 s2⟩
theorem scLAdded : FnScope ["_law_prime", "_law_one", "_law_other", "_law_factor", "_law_left", "_law_right"] ["_law_prime", "_law_one", "_law_other", "_law_factor"] (defScope sLAdded) := ⟨rfl, rfl, rfl, by decide +kernel, rfl, by decide +kernel, by decide +kernel⟩
theorem ok_ladded {f : Addr} {fd : FuncData} (F : Fun K "_law_added" "_law_added" sLAdded f fd) (T : TX mg) : FnOk P w K mg base CX0 1 f fd ["_law_prime", "_law_one", "_law_other", "_law_factor"] spAdded := by
  refine F.ok scLAdded (fun vs H Q E h => ?_) (fun cdv A outer s H vs Q E hr h => ?_)
  · obtain ⟨p, f, a, b, x, y, rfl, _⟩ := h; rfl
  · obtain ⟨p, f, a, b, x, y, rfl, hp, hf, ha, hb, hl, hn, k⟩ := h
    refine ⟨_, pss_one (ps_ret (pe_callTy call_tuple_of (by rfl) T.tuple b_tuple (pa_cons
      (pe_lc (own := [("_law_left", 4), ("_law_right", 5)]) (g := g2 K 4 5) (tt := tYes) rfl scLAdded.nd (RZ.pi_zipA (by rfl) T.zip (pa_cons (pv 1) (pa_cons (pv 2) pa_nil)))
        (blkOk_by (N := ["_law_prime", "_law_one", "_law_other", "_law_factor", "_law_left", "_law_right"]) (sc := defScope sLAdded) (by decide +kernel))
        (fun _ _ _ _ _ => pg_tup rfl (pgs_cons (pg_name (i := 4) scLAdded.nd rfl (Or.inl rfl)) (pgs_cons (pg_name (i := 5) scLAdded.nd rfl (Or.inl rfl)) pgs_nil))) (fun _ _ _ _ _ => pts_nil)
        (fun _ _ _ _ _ => pe_op op_mod (pe_op op_add (pv 4) (pe_op op_mul (pv 3) (pv 5))) (pv 0))) pa_nil))), ?_⟩
    refine ⟨_, rfl, _, rfl, a, b, _, _, rfl, .inr ⟨SqT.of ha, SqT.of hb, fun D hD => lc_zT (fun l r => (l + f * r) % p) ha hb rfl hl.symm hn hD (fun _ _ => rfl) (fun u _ v _ H2 Q2 q => ?_) (fun H2 s2 h2 => ?_)⟩⟩
    · exact ⟨_, rfl, _, rfl, _, rfl, _, _, rfl, rfl, .inl ⟨hf.1, hf.2⟩, _, _, rfl, rfl, _, rfl, _, _, rfl, rfl, hp, q⟩
    · exact ⟨D, _, rfl, .inl ⟨SqL.of h2, fun l nl => k l _ (same_upd2 s2 (s2.free nl)) upd_same⟩⟩
theorem scLStirred : FnScope ["_law_machine_here", "_law_memory", "_law_line"] ["_law_machine_here", "_law_memory"] (defScope sLStirred) := ⟨rfl, rfl, rfl, by decide +kernel, rfl, by decide +kernel, by decide +kernel⟩
theorem ok_lstirred {f fM : Addr} {fd fdM : FuncData} {psM : List Str} (F : Fun K "_law_stirred" "_law_stirred" sLStirred f fd) (T : TX mg) (CM : Cd K mg "_law_met" fM fdM psM) (G : FnOk P w K mg base CX0 1 fM fdM psM spMet) : FnOk P w K mg base CX0 2 f fd ["_law_machine_here", "_law_memory"] spStirred := by
  refine F.ok scLStirred (fun vs H Q E h => ?_) (fun cdv A outer s H vs Q E hr h => ?_)
  · obtain ⟨mc, st, wr, si, p, S, W, G, me, y, rfl, _⟩ := h; rfl
  · obtain ⟨mc, st, wr, si, p, S, W, Gs, me, y, rfl, hM, hO, hy, hl, k⟩ := h
    have hp := hO.pr.pos
    have h4 := hO.s4
    obtain ⟨rs, ht, hR⟩ := id hM.s
    have hrl : rs.length = S.length := plen hR
    refine ⟨_, pss_one (ps_ret (pe_callTy call_tuple_of (by rfl) T.tuple b_tuple (pa_cons
      (pe_lc (own := [("_law_line", 2)]) (g := gName 2) (tt := tYes) rfl scLStirred.nd (pi_tup (pe_ix ix_tup (pv 0) pe_int (fun _ _ => rfl)))
        (blkOk_by (N := ["_law_machine_here", "_law_memory", "_law_line"]) (sc := defScope sLStirred) (by decide +kernel))
        (fun _ _ _ _ _ => pg_name (i := 2) scLStirred.nd rfl (Or.inl rfl)) (fun _ _ _ _ _ => pts_nil)
        (fun _ _ _ _ _ => pe_call G hr (by rfl) CM.m CM.k CM.b .nil pass0 (pa_cons (pe_ix (show IxR _ (rIxT K) from ix_tup) (pv 0) pe_int (fun _ _ => rfl)) (pa_cons (pv 2) (pa_cons (pv 1) pa_nil))))) pa_nil))), ?_⟩
    refine ⟨_, rfl, mc, _, _, _, rfl, rfl, SqT.of hM.ob, rfl, st, rfl, ⟨_, SqT.of ht⟩, fun D hD => lc_tup (K := K) (a := st) (xs := rs) (fun i H' => Same H H' ∧ H' D = some (.lst (((S.map fun x => dot p x y).take i).map V.int))) ⟨same_upd hD, upd_same⟩ (fun i H' _ h => SqT.of (h.1 _ _ ht)) ?_ ?_⟩
    · rintro i v H' hv ⟨s2, hDi⟩
      obtain ⟨x, hx, a, rfl, ha⟩ := pget hR hv
      have hxm := hO.sg.2 x (List.mem_of_getElem? hx)
      have hil := (List.getElem?_eq_some_iff.mp hx).1
      refine ⟨rfl, yesT ⟨_, rfl, mc, _, _, _, rfl, rfl, SqT.of (s2 _ _ hM.ob), rfl, _, rfl, _, rfl, p, a, me, x, y, rfl, by omega, in0_sm hO.pr hxm.2, s2 _ _ ha, s2 _ _ hy, by rw [hxm.1, hl], by omega, fun H3 s3 => ⟨_, s3 _ _ hDi, ?_, same_upd2 (s2.trans s3) hD, ?_⟩⟩⟩
      · rw [List.length_map, List.length_take]; exact small1000 (by omega)
      · show upd H3 D _ D = _
        have e : (S.map fun x => dot p x y)[i]? = some (dot p x y) := by rw [List.getElem?_map, hx]; rfl
        rw [upd_same, List.take_add_one, e, List.map_append]
        rfl
    · rintro H' ⟨s2, hDi⟩
      have e : (S.map fun x => dot p x y).take rs.length = S.map fun x => dot p x y := List.take_of_length_le (by simp [hrl])
      rw [e] at hDi
      exact ⟨D, _, rfl, .inl ⟨SqL.of hDi, fun l nl => k l _ (same_upd2 s2 (s2.free nl)) upd_same⟩⟩
/-- {'get': x, 'plus': y, 'minus': z} -/
theorem disp3 {x y z : V} {k : Str} {v : V} (h : (k = "get" ∧ v = x) ∨ (k = "plus" ∧ v = y) ∨ (k = "minus" ∧ v = z)) :
    valV (mergeK [] ([(Sum.inr "get", x), (Sum.inr "plus", y), (Sum.inr "minus", z)] : List (Key × V))) (Sum.inr k : Key) = some v := by
  have e : mergeK [] ([(Sum.inr "get", x), (Sum.inr "plus", y), (Sum.inr "minus", z)] : List (Key × V)) = putK (putK (putK [] (Sum.inr "get" : Key) x) (Sum.inr "plus" : Key) y) (Sum.inr "minus" : Key) z := rfl
  rw [e, valV_put, valV_put, valV_put]
  have n1 : ¬ (Sum.inr "get" : Key) = (Sum.inr "minus" : Key) := by decide +kernel
  have n2 : ¬ (Sum.inr "get" : Key) = (Sum.inr "plus" : Key) := by decide +kernel
  have n3 : ¬ (Sum.inr "plus" : Key) = (Sum.inr "minus" : Key) := by decide +kernel
  rcases h with ⟨rfl, rfl⟩ | ⟨rfl, rfl⟩ | ⟨rfl, rfl⟩
  · rw [if_neg n1, if_neg n2, if_pos rfl]
  · rw [if_neg n3, if_pos rfl]
  · rw [if_pos rfl]
theorem scLDeed : FnScope ["_law_machine_here", "_law_memory", "_law_hand", "_law_one", "_law_prime", "_law_word", "_law_plug", "_law_seen"] ["_law_machine_here", "_law_memory", "_law_hand", "_law_one"] (defScope sLDeed) := ⟨rfl, rfl, rfl, by decide +kernel, rfl, by decide +kernel, by decide +kernel⟩
theorem ok_ldeed {f fS fM fA : Addr} {fd fdS fdM fdA : FuncData} {psS psM psA : List Str} (F : Fun K "_law_deed" "_law_deed" sLDeed f fd)
    (CS : Cd K mg "_law_stirred" fS fdS psS) (GS : FnOk P w K mg base CX0 2 fS fdS psS spStirred) (CM : Cd K mg "_law_met" fM fdM psM) (GM : FnOk P w K mg base CX0 1 fM fdM psM spMet) (CA : Cd K mg "_law_added" fA fdA psA) (GA : FnOk P w K mg base CX0 1 fA fdA psA spAdded) :
    FnOk P w K mg base CX0 3 f fd ["_law_machine_here", "_law_memory", "_law_hand", "_law_one"] spDone := by
  refine F.ok scLDeed (fun vs H Q E h => ?_) (fun cdv A outer s H vs Q E hr h => ?_)
  · obtain ⟨mc, st, wr, si, p, S, W, G, me, dd, y, h, d, rfl, _⟩ := h; rfl
  · obtain ⟨mc, st, wr, si, p, S, W, G, me, dd, y, h, d, rfl, hM, hO, hy, hS, hd, hk, k⟩ := h
    have hp := hO.pr.pos
    have h4 := hO.s4
    refine ⟨_, pss_cons (ps_par3 (i := 4) (j := 5) (l := 6) rfl scLDeed.nd rfl rfl rfl (by decide) (by decide) (by decide) rfl rfl rfl
        (pa_cons (pe_ix ix_tup (pv 0) pe_int (fun _ _ => rfl)) (pa_cons (pe_ix ix_tup (pv 3) pe_int (fun _ _ => rfl)) (pa_cons (pe_ix ix_tup (pv 3) (pe_un un_neg pe_int) (fun _ _ => rfl)) pa_nil))) rfl)
      (pss_cons (ps_if (pt_cmpR op_in_seq (pv 5) (pe_lst (pa_cons pe_str (pa_cons pe_str (pa_cons pe_str pa_nil)))) rfl)
        (pss_cons (ps_set (i := 7) scLDeed.nd rfl (.inl rfl) (pe_call GM (hr.mono (by decide)) (by rfl) CM.m CM.k CM.b .nil pass0 (pa_cons (pv 4) (pa_cons (pe_ix ix_tup (pe_ix ix_tup (pv 0) pe_int (fun _ _ => rfl)) (pv 6) (fun _ _ => rfl)) (pa_cons (pv 1) pa_nil)))))
        (pss_one (ps_set (i := 2) scLDeed.nd rfl (.inl rfl) (pe_op op_mod (pe_dget (hu_of hr) (pe_disp (pps_cons pe_str (pv 7) (pps_cons pe_str (pe_op op_add (pv 2) (pv 7)) (pps_cons pe_str (pe_op op_sub (pv 2) (pv 7)) pps_nil))) rfl rfl (by simp) (by decide)) (pv 5) (fun _ _ => rfl)) (pv 4))))) pss_nil)
      (pss_cons (ps_if (pt_cmpR op_in_seq (pv 5) (pe_lst (pa_cons pe_str (pa_cons pe_str pa_nil))) rfl)
        (pss_one (ps_set (i := 1) scLDeed.nd rfl (.inl rfl) (pe_call GA (hr.mono (by decide)) (by rfl) CA.m CA.k CA.b .nil pass0 (pa_cons (pv 4) (pa_cons (pv 1) (pa_cons (pe_ix ix_tup (pe_ix ix_tup (pv 0) pe_int (fun _ _ => rfl)) (pv 6) (fun _ _ => rfl)) (pa_cons (pe_ifExp (pt_cmpR op_eq (pv 5) pe_str (nomark _)) (pv 2) (pe_op op_sub pe_int (pv 2))) pa_nil))))))) pss_nil)
      (pss_cons (ps_if (pt_cmpR op_eq (pv 5) pe_str (nomark _)) (pss_one (ps_set (i := 2) scLDeed.nd rfl (.inl rfl) (pv 6))) pss_nil)
      (pss_one (ps_ret (pe_tup (pa_cons (pe_call GS hr (by rfl) CS.m CS.k CS.b .nil pass0 (pa_cons (pv 0) (pa_cons (pv 1) pa_nil))) (pa_cons (pv 2) pa_nil)))))))), ?_⟩
    have fin : ∀ (me' : Addr) (y' : List Int) (h' : Int) (H1 : Hp) (σ : L2.St), Same H H1 → σ[0]? = some (some (.ref mc)) → σ[1]? = some (some (.ref me')) → σ[2]? = some (some (.int h')) → IT H1 me' y' → (y', h') = d.run p W G y h →
        ∃ v, σ[0]? = some (some v) ∧ ∃ v1, σ[1]? = some (some v1) ∧ spStirred ([v, v1] ++ []) H1 (fun x H2 => ∃ v2, σ[2]? = some (some v2) ∧ (2 ≤ sizeLine ∧ ∀ q, H2 q = none → Q (.ref q) (upd H2 q (.tup [x, v2])))) (fun _ _ _ => False) := by
      intro me' y' h' H1 σ s1 e0 e1 e2 hy' er
      have hr' := hS.run hO hk
      rw [← er] at hr'
      refine ⟨_, e0, _, e1, mc, st, wr, si, p, S, W, G, me', y', rfl, hM.tk (Same.tk s1), hO, hy', hr'.l, fun b H2 s2 hb => ⟨_, e2, by decide, fun q nq => ?_⟩⟩
      have s3 := same_upd (o := .tup [.ref b, .int h']) nq
      refine k q b _ ((s1.trans s2).trans s3) ?_ ?_
      · show upd H2 q _ q = _
        rw [upd_same]; unfold step; rw [← er]
      · have : (step p S W G y h d).1 = stirL p S y' := by unfold step; rw [← er]
        rw [this]
        exact s3 _ _ hb
    obtain ⟨gv, hg, hG⟩ := id hM.g
    obtain ⟨wv, hw, hW⟩ := id hM.w
    have rowG : ∀ j : Nat, j < G.length → ∃ a, gv[j]? = some (.ref a) ∧ IT H a (G.getD j []) := fun j hj => by
      obtain ⟨v, e, a, rfl, ha⟩ := pget' hG (getD_of (d := []) hj)
      exact ⟨a, e, ha⟩
    have rowW : ∀ j : Nat, j < W.length → ∃ a, wv[j]? = some (.ref a) ∧ IT H a (W.getD j []) := fun j hj => by
      obtain ⟨v, e, a, rfl, ha⟩ := pget' hW (getD_of (d := []) hj)
      exact ⟨a, e, ha⟩
    have gOk : ∀ j : Nat, j < G.length → (G.getD j []).length = y.length ∧ In0 p (G.getD j []) := fun j hj => by
      have := hO.gg _ (List.mem_of_getElem? (getD_of (d := []) hj))
      exact ⟨by rw [this.1, hS.l], this.2⟩
    have wOk : ∀ j : Nat, j < W.length → y.length = (W.getD j []).length := fun j hj => by
      have := hO.wg _ (List.mem_of_getElem? (getD_of (d := []) hj))
      rw [this.1, hS.l]
    have hyl := hS.l
    refine ⟨_, rfl, mc, _, _, _, rfl, rfl, SqT.of hM.ob, rfl, _, rfl, dd, _, _, (match d with | .get _ => .str "get" | .plus _ => .str "plus" | .minus _ => .str "minus" | .add _ => .str "add" | .take _ => .str "take" | .put _ => .str "put" | .wait => .str "wait"), rfl, rfl, SqT.of hd, by cases d <;> rfl,
      _, rfl, _, rfl, dd, _, _, (match d with | .get k => .int k | .plus k => .int k | .minus k => .int k | .add k => .int k | .take k => .int k | .put n => .int n | .wait => .str "wait"), rfl, rfl, SqT.of hd, by cases d <;> rfl, _, _, _, rfl, ?_⟩
    cases d with
    | get j =>
      obtain ⟨a, ea, ha⟩ := rowG j hk
      refine ⟨_, rfl, by show 3 ≤ sizeLine; decide, fun l nl => ⟨l, _, rfl, .inl (SqL.of upd_same), rfl, rfl, _, rfl, iteD (by show inV (.str "get") [.str "get", .str "plus", .str "minus"] = true; decide +kernel) ?_⟩⟩
      have s1 : Same H (upd H l (.lst [.str "get", .str "plus", .str "minus"])) := same_upd nl
      refine ⟨_, rfl, _, rfl, mc, _, _, _, rfl, rfl, SqT.of (s1 _ _ hM.ob), rfl, _, rfl, si, _, _, _, rfl, rfl, SqT.of (s1 _ _ hg), atI_nat ea, _, rfl, ?_⟩
      refine ⟨p, a, me, _, y, rfl, by omega, in0_sm hO.pr (gOk j hk).2, s1 _ _ ha, s1 _ _ hy, (gOk j hk).1, by have := (gOk j hk).1; omega, fun H1 s2 => ?_⟩
      have s3 := s1.trans s2
      intro q nq
      refine ⟨_, rfl, _, rfl, _, rfl, _, _, rfl, rfl, _, rfl, _, rfl, _, _, rfl, rfl, upd_same, [(Sum.inr "get", .int (dot p (G.getD j []) y)), (Sum.inr "plus", .int (h + dot p (G.getD j []) y)), (Sum.inr "minus", .int (h - dot p (G.getD j []) y))], rfl, by show 3 ≤ 15; decide, ?_⟩
      refine ⟨_, rfl, q, .int (dot p (G.getD j []) y), rfl, .inl ⟨_, (Sum.inr "get" : Key), .inl upd_same, rfl, (disp3 (.inl ⟨rfl, rfl⟩)).symm⟩, _, rfl, _, _, rfl, rfl, by show 0 < p; omega, ?_⟩
      have s5 : Same H (upd (upd H1 q (.dK [])) q (.dK (mergeK [] [(Sum.inr "get", .int (dot p (G.getD j []) y)), (Sum.inr "plus", .int (h + dot p (G.getD j []) y)), (Sum.inr "minus", .int (h - dot p (G.getD j []) y))]))) := by
        rw [upd_upd]; exact same_upd2 s3 (s3.free nq)
      generalize upd (upd H1 q (.dK [])) q _ = H5 at s5
      refine ⟨_, rfl, by show 2 ≤ sizeLine; decide, fun l2 nl2 => ⟨l2, _, rfl, .inl (SqL.of upd_same), rfl, rfl, _, rfl, iteDF (by show inV (.str "get") [.str "add", .str "take"] = false; decide +kernel) ?_⟩⟩
      have s8 : Same H (upd H5 l2 (.lst [.str "add", .str "take"])) := same_upd2 s5 (s5.free nl2)
      generalize upd H5 l2 _ = H7 at s8
      refine ⟨_, rfl, rfl, _, rfl, iteDF (decide_eq_false fun e => absurd (V.str.inj e) (by decide +kernel)) ?_⟩
      refine fin me y _ H7 _ s8 rfl rfl rfl (s8 _ _ hy) ?_
      show (y, dot p (G.getD j []) y % p) = (y, dot p (G.getD j []) y)
      unfold dot; rw [Int.emod_emod]
    | plus j =>
      obtain ⟨a, ea, ha⟩ := rowG j hk
      refine ⟨_, rfl, by show 3 ≤ sizeLine; decide, fun l nl => ⟨l, _, rfl, .inl (SqL.of upd_same), rfl, rfl, _, rfl, iteD (by show inV (.str "plus") [.str "get", .str "plus", .str "minus"] = true; decide +kernel) ?_⟩⟩
      have s1 : Same H (upd H l (.lst [.str "get", .str "plus", .str "minus"])) := same_upd nl
      refine ⟨_, rfl, _, rfl, mc, _, _, _, rfl, rfl, SqT.of (s1 _ _ hM.ob), rfl, _, rfl, si, _, _, _, rfl, rfl, SqT.of (s1 _ _ hg), atI_nat ea, _, rfl, ?_⟩
      refine ⟨p, a, me, _, y, rfl, by omega, in0_sm hO.pr (gOk j hk).2, s1 _ _ ha, s1 _ _ hy, (gOk j hk).1, by have := (gOk j hk).1; omega, fun H1 s2 => ?_⟩
      have s3 := s1.trans s2
      intro q nq
      refine ⟨_, rfl, _, rfl, _, rfl, _, _, rfl, rfl, _, rfl, _, rfl, _, _, rfl, rfl, upd_same, [(Sum.inr "get", .int (dot p (G.getD j []) y)), (Sum.inr "plus", .int (h + dot p (G.getD j []) y)), (Sum.inr "minus", .int (h - dot p (G.getD j []) y))], rfl, by show 3 ≤ 15; decide, ?_⟩
      refine ⟨_, rfl, q, .int (h + dot p (G.getD j []) y), rfl, .inl ⟨_, (Sum.inr "plus" : Key), .inl upd_same, rfl, (disp3 (.inr (.inl ⟨rfl, rfl⟩))).symm⟩, _, rfl, _, _, rfl, rfl, by show 0 < p; omega, ?_⟩
      have s5 : Same H (upd (upd H1 q (.dK [])) q (.dK (mergeK [] [(Sum.inr "get", .int (dot p (G.getD j []) y)), (Sum.inr "plus", .int (h + dot p (G.getD j []) y)), (Sum.inr "minus", .int (h - dot p (G.getD j []) y))]))) := by
        rw [upd_upd]; exact same_upd2 s3 (s3.free nq)
      generalize upd (upd H1 q (.dK [])) q _ = H5 at s5
      refine ⟨_, rfl, by show 2 ≤ sizeLine; decide, fun l2 nl2 => ⟨l2, _, rfl, .inl (SqL.of upd_same), rfl, rfl, _, rfl, iteDF (by show inV (.str "plus") [.str "add", .str "take"] = false; decide +kernel) ?_⟩⟩
      have s8 : Same H (upd H5 l2 (.lst [.str "add", .str "take"])) := same_upd2 s5 (s5.free nl2)
      generalize upd H5 l2 _ = H7 at s8
      refine ⟨_, rfl, rfl, _, rfl, iteDF (decide_eq_false fun e => absurd (V.str.inj e) (by decide +kernel)) ?_⟩
      exact fin me _ _ H7 _ s8 rfl rfl rfl (s8 _ _ hy) rfl
    | minus j =>
      obtain ⟨a, ea, ha⟩ := rowG j hk
      refine ⟨_, rfl, by show 3 ≤ sizeLine; decide, fun l nl => ⟨l, _, rfl, .inl (SqL.of upd_same), rfl, rfl, _, rfl, iteD (by show inV (.str "minus") [.str "get", .str "plus", .str "minus"] = true; decide +kernel) ?_⟩⟩
      have s1 : Same H (upd H l (.lst [.str "get", .str "plus", .str "minus"])) := same_upd nl
      refine ⟨_, rfl, _, rfl, mc, _, _, _, rfl, rfl, SqT.of (s1 _ _ hM.ob), rfl, _, rfl, si, _, _, _, rfl, rfl, SqT.of (s1 _ _ hg), atI_nat ea, _, rfl, ?_⟩
      refine ⟨p, a, me, _, y, rfl, by omega, in0_sm hO.pr (gOk j hk).2, s1 _ _ ha, s1 _ _ hy, (gOk j hk).1, by have := (gOk j hk).1; omega, fun H1 s2 => ?_⟩
      have s3 := s1.trans s2
      intro q nq
      refine ⟨_, rfl, _, rfl, _, rfl, _, _, rfl, rfl, _, rfl, _, rfl, _, _, rfl, rfl, upd_same, [(Sum.inr "get", .int (dot p (G.getD j []) y)), (Sum.inr "plus", .int (h + dot p (G.getD j []) y)), (Sum.inr "minus", .int (h - dot p (G.getD j []) y))], rfl, by show 3 ≤ 15; decide, ?_⟩
      refine ⟨_, rfl, q, .int (h - dot p (G.getD j []) y), rfl, .inl ⟨_, (Sum.inr "minus" : Key), .inl upd_same, rfl, (disp3 (.inr (.inr ⟨rfl, rfl⟩))).symm⟩, _, rfl, _, _, rfl, rfl, by show 0 < p; omega, ?_⟩
      have s5 : Same H (upd (upd H1 q (.dK [])) q (.dK (mergeK [] [(Sum.inr "get", .int (dot p (G.getD j []) y)), (Sum.inr "plus", .int (h + dot p (G.getD j []) y)), (Sum.inr "minus", .int (h - dot p (G.getD j []) y))]))) := by
        rw [upd_upd]; exact same_upd2 s3 (s3.free nq)
      generalize upd (upd H1 q (.dK [])) q _ = H5 at s5
      refine ⟨_, rfl, by show 2 ≤ sizeLine; decide, fun l2 nl2 => ⟨l2, _, rfl, .inl (SqL.of upd_same), rfl, rfl, _, rfl, iteDF (by show inV (.str "minus") [.str "add", .str "take"] = false; decide +kernel) ?_⟩⟩
      have s8 : Same H (upd H5 l2 (.lst [.str "add", .str "take"])) := same_upd2 s5 (s5.free nl2)
      generalize upd H5 l2 _ = H7 at s8
      refine ⟨_, rfl, rfl, _, rfl, iteDF (decide_eq_false fun e => absurd (V.str.inj e) (by decide +kernel)) ?_⟩
      exact fin me _ _ H7 _ s8 rfl rfl rfl (s8 _ _ hy) rfl
    | add j =>
      refine ⟨_, rfl, by show 3 ≤ sizeLine; decide, fun l nl => ⟨l, _, rfl, .inl (SqL.of upd_same), rfl, rfl, _, rfl, iteDF (by show inV (.str "add") [.str "get", .str "plus", .str "minus"] = false; decide +kernel) ?_⟩⟩
      have s5 : Same H (upd H l (.lst [.str "get", .str "plus", .str "minus"])) := same_upd nl
      generalize upd H l _ = H5 at s5
      obtain ⟨a, ea, ha⟩ := rowW j hk
      refine ⟨_, rfl, by show 2 ≤ sizeLine; decide, fun l2 nl2 => ⟨l2, _, rfl, .inl (SqL.of upd_same), rfl, rfl, _, rfl, iteD (by show inV (.str "add") [.str "add", .str "take"] = true; decide +kernel) ?_⟩⟩
      have s6 : Same H (upd H5 l2 (.lst [.str "add", .str "take"])) := same_upd2 s5 (s5.free nl2)
      generalize upd H5 l2 _ = H6 at s6
      refine ⟨_, rfl, _, rfl, _, rfl, mc, _, _, _, rfl, rfl, SqT.of (s6 _ _ hM.ob), rfl, _, rfl, wr, _, _, _, rfl, rfl, SqT.of (s6 _ _ hw), atI_nat ea, ?_⟩
      refine ⟨_, rfl, rfl, _, rfl, iteD (decide_eq_true rfl) ⟨_, rfl, ?_⟩⟩
      refine ⟨p, h, me, a, y, _, rfl, by omega, ⟨by have := hS.h0; have := hS.h1; omega, by have := hS.h0; have := hS.h1; omega⟩, s6 _ _ hy, s6 _ _ ha, wOk j hk, by omega, fun c H7 s7 hc => ?_⟩
      have s8 := s6.trans s7
      refine ⟨_, rfl, rfl, _, rfl, iteDF (decide_eq_false fun e => absurd (V.str.inj e) (by decide +kernel)) ?_⟩
      exact fin c _ _ H7 _ s8 rfl rfl rfl hc rfl
    | take j =>
      refine ⟨_, rfl, by show 3 ≤ sizeLine; decide, fun l nl => ⟨l, _, rfl, .inl (SqL.of upd_same), rfl, rfl, _, rfl, iteDF (by show inV (.str "take") [.str "get", .str "plus", .str "minus"] = false; decide +kernel) ?_⟩⟩
      have s5 : Same H (upd H l (.lst [.str "get", .str "plus", .str "minus"])) := same_upd nl
      generalize upd H l _ = H5 at s5
      obtain ⟨a, ea, ha⟩ := rowW j hk
      refine ⟨_, rfl, by show 2 ≤ sizeLine; decide, fun l2 nl2 => ⟨l2, _, rfl, .inl (SqL.of upd_same), rfl, rfl, _, rfl, iteD (by show inV (.str "take") [.str "add", .str "take"] = true; decide +kernel) ?_⟩⟩
      have s6 : Same H (upd H5 l2 (.lst [.str "add", .str "take"])) := same_upd2 s5 (s5.free nl2)
      generalize upd H5 l2 _ = H6 at s6
      refine ⟨_, rfl, _, rfl, _, rfl, mc, _, _, _, rfl, rfl, SqT.of (s6 _ _ hM.ob), rfl, _, rfl, wr, _, _, _, rfl, rfl, SqT.of (s6 _ _ hw), atI_nat ea, ?_⟩
      refine ⟨_, rfl, rfl, _, rfl, iteDF (decide_eq_false fun e => absurd (V.str.inj e) (by decide +kernel)) ⟨_, rfl, _, _, rfl, rfl, ?_⟩⟩
      refine ⟨p, 0 - h, me, a, y, _, rfl, by omega, ⟨by have := hS.h0; have := hS.h1; omega, by have := hS.h0; have := hS.h1; omega⟩, s6 _ _ hy, s6 _ _ ha, wOk j hk, by omega, fun c H7 s7 hc => ?_⟩
      have s8 := s6.trans s7
      refine ⟨_, rfl, rfl, _, rfl, iteDF (decide_eq_false fun e => absurd (V.str.inj e) (by decide +kernel)) ?_⟩
      exact fin c _ _ H7 _ s8 rfl rfl rfl hc (by show (addL p y (W.getD j []) (0 - h), h) = (addL p y (W.getD j []) (-h), h); rw [show 0 - h = -h by omega])
    | put n =>
      refine ⟨_, rfl, by show 3 ≤ sizeLine; decide, fun l nl => ⟨l, _, rfl, .inl (SqL.of upd_same), rfl, rfl, _, rfl, iteDF (by show inV (.str "put") [.str "get", .str "plus", .str "minus"] = false; decide +kernel) ?_⟩⟩
      have s5 : Same H (upd H l (.lst [.str "get", .str "plus", .str "minus"])) := same_upd nl
      generalize upd H l _ = H5 at s5
      refine ⟨_, rfl, by show 2 ≤ sizeLine; decide, fun l2 nl2 => ⟨l2, _, rfl, .inl (SqL.of upd_same), rfl, rfl, _, rfl, iteDF (by show inV (.str "put") [.str "add", .str "take"] = false; decide +kernel) ?_⟩⟩
      have s8 : Same H (upd H5 l2 (.lst [.str "add", .str "take"])) := same_upd2 s5 (s5.free nl2)
      generalize upd H5 l2 _ = H7 at s8
      refine ⟨_, rfl, rfl, _, rfl, iteD (decide_eq_true rfl) ⟨_, rfl, ?_⟩⟩
      exact fin me _ _ H7 _ s8 rfl rfl rfl (s8 _ _ hy) rfl
    | wait  =>
      refine ⟨_, rfl, by show 3 ≤ sizeLine; decide, fun l nl => ⟨l, _, rfl, .inl (SqL.of upd_same), rfl, rfl, _, rfl, iteDF (by show inV (.str "wait") [.str "get", .str "plus", .str "minus"] = false; decide +kernel) ?_⟩⟩
      have s5 : Same H (upd H l (.lst [.str "get", .str "plus", .str "minus"])) := same_upd nl
      generalize upd H l _ = H5 at s5
      refine ⟨_, rfl, by show 2 ≤ sizeLine; decide, fun l2 nl2 => ⟨l2, _, rfl, .inl (SqL.of upd_same), rfl, rfl, _, rfl, iteDF (by show inV (.str "wait") [.str "add", .str "take"] = false; decide +kernel) ?_⟩⟩
      have s8 : Same H (upd H5 l2 (.lst [.str "add", .str "take"])) := same_upd2 s5 (s5.free nl2)
      generalize upd H5 l2 _ = H7 at s8
      refine ⟨_, rfl, rfl, _, rfl, iteDF (decide_eq_false fun e => absurd (V.str.inj e) (by decide +kernel)) ?_⟩
      exact fin me _ _ H7 _ s8 rfl rfl rfl (s8 _ _ hy) rfl
end
end Dr
set_option maxRecDepth 100000
set_option maxHeartbeats 4000000
namespace Dr
open PySem PySem.Spec PyProof.Rows L2 DrG
/-! ### _law_alike: by depth -/
theorem pss_never {X : Cx} {sts : List Stmt} : PSs X sts tNever := ⟨fun _ _ _ _ _ _ h => h.elim⟩
def Lk : Nat → Hp → V → V → Prop
  | 0 => fun _ x y => ∃ i, x = .int i ∧ y = .int i
  | n + 1 => fun H x y => (∃ i, x = .int i ∧ y = .int i) ∨ ∃ a b xs ys, x = .ref a ∧ y = .ref b ∧ ((H a = some (.tup xs) ∧ H b = some (.tup ys)) ∨ (H a = some (.lst xs) ∧ H b = some (.lst ys))) ∧ ys.length ≤ 1000 ∧ Paired (Lk n H) xs ys
theorem paired_imp {α β : Type} {G G' : α → β → Prop} (h : ∀ a b, G a b → G' a b) : ∀ {l₁ : List α} {l₂ : List β}, Paired G l₁ l₂ → Paired G' l₁ l₂
  | _, _, .nil => .nil
  | _, _, .cons r t => .cons (h _ _ r) (paired_imp h t)
theorem Lk.same : ∀ {n : Nat} {H H' : Hp} {x y : V}, Lk n H x y → Same H H' → Lk n H' x y
  | 0, _, _, _, _, h, _ => h
  | n + 1, _, _, _, _, h, s => by
    rcases h with h | ⟨a, b, xs, ys, ex, ey, h, hl, p⟩
    · exact .inl h
    · refine .inr ⟨a, b, xs, ys, ex, ey, ?_, hl, paired_imp (fun _ _ z => Lk.same z s) p⟩
      rcases h with ⟨h1, h2⟩ | ⟨h1, h2⟩
      · exact .inl ⟨s _ _ h1, s _ _ h2⟩
      · exact .inr ⟨s _ _ h1, s _ _ h2⟩
def spAlike (n : Nat) : Sp := fun vs H Q _ => ∃ x y, vs = [x, y] ∧ Lk n H x y ∧ ∀ H', Same H H' → Q (.bl true) H'
theorem kk1 : kitB "int" "tuple" = some false := by decide +kernel
theorem kk2 : kitB "int" "list" = some false := by decide +kernel
theorem kk3 : kitB "int" "str" = some false := by decide +kernel
theorem kk4 : kitB "tuple" "list" = some false := by decide +kernel
theorem kk5 : kitB "list" "list" = some true := by decide +kernel
theorem kk6 : kitB "list" "tuple" = some false := by decide +kernel
section
variable {P : Program} {w : World} {K : PySem.W.Frag} {mg : Str → Option Value} {base : Heap}
theorem ka_int : PySem.W.kitAny K (.type "int") [.type "tuple", .type "list"] = some false := kitAny_cons (kit_ty kk1) (fun _ => kitAny_cons (kit_ty kk2) (fun _ => rfl) (fun e => nomatch e)) (fun e => nomatch e)
theorem ka_tuple : PySem.W.kitAny K (.type "tuple") [.type "tuple", .type "list"] = some true := kitAny_cons (kit_ty kt) (fun e => nomatch e) (fun _ => rfl)
theorem ka_list : PySem.W.kitAny K (.type "list") [.type "tuple", .type "list"] = some true := kitAny_cons (kit_ty kk6) (fun _ => kitAny_cons (kit_ty kk5) (fun e => nomatch e) (fun _ => rfl)) (fun _ => rfl)
theorem scAlike : FnScope ["_law_found", "_law_due", "_law_k"] ["_law_found", "_law_due"] (defScope sAlike) := ⟨rfl, rfl, rfl, by decide +kernel, rfl, by decide +kernel, by decide +kernel⟩
theorem ok_alike0 {f : Addr} {fd : FuncData} (F : Fun K "_law_alike" "_law_alike" sAlike f fd) (T : TX mg) : FnOk P w K mg base CX0 1 f fd ["_law_found", "_law_due"] (spAlike 0) := by
  refine F.ok scAlike (fun vs H Q E h => ?_) (fun cdv A outer s H vs Q E hr h => ?_)
  · obtain ⟨x, y, rfl, _⟩ := h; rfl
  · obtain ⟨x, y, rfl, ⟨i, rfl, rfl⟩, k⟩ := h
    refine ⟨_, pss_cons (ps_if (pt_val (pe_callB call_isiT (by rfl) T.isinstance b_isi (pa_cons (pv 1) (pa_cons (pe_tup (pa_cons (pe_bltn (v := .ty "tuple") (by rfl) T.tuple b_tuple rfl) (pa_cons (pe_bltn (v := .ty "list") (by rfl) T.list b_list rfl) pa_nil))) pa_nil)))) pss_never pss_nil)
      (pss_cons (ps_if (pw_or (pt_cmp (pc_isN (pv 1))) (pw_or1 (pt_val (pe_callB call_isi (by rfl) T.isinstance b_isi (pa_cons (pv 1) (pa_cons (pe_bltn (v := .ty "str") (by rfl) T.str b_str rfl) pa_nil)))))).pt (pss_one ps_never) pss_nil)
      (pss_one (ps_ret (pe_and (pe_callB call_isi (by rfl) T.isinstance b_isi (pa_cons (pv 0) (pa_cons (pe_bltn (v := .ty "int") (by rfl) T.int b_int rfl) pa_nil))) (pe_and (pe_cmpR op_eq (pe_callB call_isi (by rfl) T.isinstance b_isi (pa_cons (pv 0) (pa_cons (pe_bltn (v := .ty "bool") (by rfl) T.bool b_bool rfl) pa_nil))) (pe_callB call_isi (by rfl) T.isinstance b_isi (pa_cons (pv 1) (pa_cons (pe_bltn (v := .ty "bool") (by rfl) T.bool b_bool rfl) pa_nil))) (nomark _)) (pe_one (pe_cmpR op_eq (pv 0) (pv 1) (nomark _)))))))), ?_⟩
    refine ⟨_, rfl, by show 2 ≤ sizeLine; decide, fun tp ntp => ⟨_, _, _, _, _, false, rfl, upd_same, .cons (.ty _) (.cons (.ty _) .nil), .base (.int i), ka_int, _, rfl, iteF ?_⟩⟩
    refine ⟨_, rfl, false, rfl, iteF ?_⟩
    refine ⟨_, rfl, _, _, _, _, false, rfl, .ty _, .base (.int i), kit_ty kk3, false, rfl, iteF ?_⟩
    refine ⟨_, rfl, _, _, _, _, true, rfl, .ty _, .base (.int i), kit_ty k1, true, rfl, iteT ?_⟩
    refine ⟨_, rfl, _, _, _, _, false, rfl, .ty _, .base (.int i), kit_ty k2, _, rfl, _, _, _, _, false, rfl, .ty _, .base (.int i), kit_ty k2, rfl, true, congrArg V.bl (decide_eq_true rfl), iteT ?_⟩
    refine ⟨_, rfl, _, rfl, rfl, ?_⟩
    have e : V.bl (decide (V.int i = V.int i)) = .bl true := congrArg V.bl (decide_eq_true rfl)
    rw [e]
    exact k _ (same_upd ntp)
theorem ok_alikeS {n : Nat} {f : Addr} {fd : FuncData} {ps : List Str} (F : Fun K "_law_alike" "_law_alike" sAlike f fd) (T : TX mg) (C : Cd K mg "_law_alike" f fd ps) (G : FnOk P w K mg base CX0 (n + 1) f fd ps (spAlike n)) : FnOk P w K mg base CX0 (n + 2) f fd ["_law_found", "_law_due"] (spAlike (n + 1)) := by
  refine F.ok scAlike (fun vs H Q E h => ?_) (fun cdv A outer s H vs Q E hr h => ?_)
  · obtain ⟨x, y, rfl, _⟩ := h; rfl
  obtain ⟨x, y, rfl, ⟨i, rfl, rfl⟩ | ⟨a, b, xs, ys, rfl, rfl, ⟨ha, hb⟩ | ⟨ha, hb⟩, hl, hP⟩, k⟩ := h
  · refine ⟨_, pss_cons (ps_if (pt_val (pe_callB call_isiT (by rfl) T.isinstance b_isi (pa_cons (pv 1) (pa_cons (pe_tup (pa_cons (pe_bltn (v := .ty "tuple") (by rfl) T.tuple b_tuple rfl) (pa_cons (pe_bltn (v := .ty "list") (by rfl) T.list b_list rfl) pa_nil))) pa_nil)))) pss_never pss_nil)
      (pss_cons (ps_if (pw_or (pt_cmp (pc_isN (pv 1))) (pw_or1 (pt_val (pe_callB call_isi (by rfl) T.isinstance b_isi (pa_cons (pv 1) (pa_cons (pe_bltn (v := .ty "str") (by rfl) T.str b_str rfl) pa_nil)))))).pt (pss_one ps_never) pss_nil)
      (pss_one (ps_ret (pe_and (pe_callB call_isi (by rfl) T.isinstance b_isi (pa_cons (pv 0) (pa_cons (pe_bltn (v := .ty "int") (by rfl) T.int b_int rfl) pa_nil))) (pe_and (pe_cmpR op_eq (pe_callB call_isi (by rfl) T.isinstance b_isi (pa_cons (pv 0) (pa_cons (pe_bltn (v := .ty "bool") (by rfl) T.bool b_bool rfl) pa_nil))) (pe_callB call_isi (by rfl) T.isinstance b_isi (pa_cons (pv 1) (pa_cons (pe_bltn (v := .ty "bool") (by rfl) T.bool b_bool rfl) pa_nil))) (nomark _)) (pe_one (pe_cmpR op_eq (pv 0) (pv 1) (nomark _)))))))), ?_⟩
    refine ⟨_, rfl, by show 2 ≤ sizeLine; decide, fun tp ntp => ⟨_, _, _, _, _, false, rfl, upd_same, .cons (.ty _) (.cons (.ty _) .nil), .base (.int i), ka_int, _, rfl, iteF ?_⟩⟩
    refine ⟨_, rfl, false, rfl, iteF ?_⟩
    refine ⟨_, rfl, _, _, _, _, false, rfl, .ty _, .base (.int i), kit_ty kk3, false, rfl, iteF ?_⟩
    refine ⟨_, rfl, _, _, _, _, true, rfl, .ty _, .base (.int i), kit_ty k1, true, rfl, iteT ?_⟩
    refine ⟨_, rfl, _, _, _, _, false, rfl, .ty _, .base (.int i), kit_ty k2, _, rfl, _, _, _, _, false, rfl, .ty _, .base (.int i), kit_ty k2, rfl, true, congrArg V.bl (decide_eq_true rfl), iteT ?_⟩
    refine ⟨_, rfl, _, rfl, rfl, ?_⟩
    have e : V.bl (decide (V.int i = V.int i)) = .bl true := congrArg V.bl (decide_eq_true rfl)
    rw [e]
    exact k _ (same_upd ntp)
  · refine ⟨_, pss_cons (ps_if (pt_val (pe_callB call_isiT (by rfl) T.isinstance b_isi (pa_cons (pv 1) (pa_cons (pe_tup (pa_cons (pe_bltn (v := .ty "tuple") (by rfl) T.tuple b_tuple rfl) (pa_cons (pe_bltn (v := .ty "list") (by rfl) T.list b_list rfl) pa_nil))) pa_nil))))
        (pss_cons (ps_if (pw_or (pt_not (pt_val (pe_callB call_isiT (by rfl) T.isinstance b_isi (pa_cons (pv 0) (pa_cons (pe_tup (pa_cons (pe_bltn (v := .ty "tuple") (by rfl) T.tuple b_tuple rfl) (pa_cons (pe_bltn (v := .ty "list") (by rfl) T.list b_list rfl) pa_nil))) pa_nil))))) (pw_or1 (pt_cmpR op_ne (pe_callB call_isi (by rfl) T.isinstance b_isi (pa_cons (pv 0) (pa_cons (pe_bltn (v := .ty "list") (by rfl) T.list b_list rfl) pa_nil))) (pe_callB call_isi (by rfl) T.isinstance b_isi (pa_cons (pv 1) (pa_cons (pe_bltn (v := .ty "list") (by rfl) T.list b_list rfl) pa_nil))) (nomark _)))).pt (pss_one ps_never) pss_nil)
        (pss_cons (ps_if (pt_cmpR op_ne (pe_callB call_len_seq (by rfl) T.len PySem.boot_len (pa_cons (pv 0) pa_nil)) (pe_callB call_len_seq (by rfl) T.len PySem.boot_len (pa_cons (pv 1) pa_nil)) (nomark _)) (pss_one ps_never) pss_nil)
        (pss_one (ps_ret (pe_cmpR (op_eqD (show A.units + 3 + 64 < cLine from hr.units)) (pe_lc (own := [("_law_k", 2)]) (g := gName 2) rfl scAlike.nd (pi_range1 (by rfl) T.range (pa_cons (pe_callB call_len_seq (by rfl) T.len PySem.boot_len (pa_cons (pv 1) pa_nil)) pa_nil))
          (blkOk_by (N := ["_law_found", "_law_due", "_law_k"]) (sc := defScope sAlike) (by decide +kernel))
          (fun _ _ _ _ _ => pg_name (i := 2) scAlike.nd rfl (Or.inl rfl)) (fun _ _ _ _ _ => pts_one (pt_not (pt_val (pe_call G hr (by rfl) C.m C.k C.b .nil pass0 (pa_cons (pe_ix (show IxR _ (rIxT K) from ix_tup) (pv 0) (pv 2) (fun _ _ => rfl)) (pa_cons (pe_ix (show IxR _ (rIxT K) from ix_tup) (pv 1) (pv 2) (fun _ _ => rfl)) pa_nil))))))
          (fun _ _ _ _ _ => pv 2)) (pe_lst pa_nil) (nomark _)))))) pss_nil)
      (pss_cons (ps_if (pw_or (pt_cmp (pc_isN (pv 1))) (pw_or1 (pt_val (pe_callB call_isi (by rfl) T.isinstance b_isi (pa_cons (pv 1) (pa_cons (pe_bltn (v := .ty "str") (by rfl) T.str b_str rfl) pa_nil)))))).pt (pss_one ps_never) pss_nil)
      (pss_one (ps_ret (pe_and (pe_callB call_isi (by rfl) T.isinstance b_isi (pa_cons (pv 0) (pa_cons (pe_bltn (v := .ty "int") (by rfl) T.int b_int rfl) pa_nil))) (pe_and (pe_cmpR op_eq (pe_callB call_isi (by rfl) T.isinstance b_isi (pa_cons (pv 0) (pa_cons (pe_bltn (v := .ty "bool") (by rfl) T.bool b_bool rfl) pa_nil))) (pe_callB call_isi (by rfl) T.isinstance b_isi (pa_cons (pv 1) (pa_cons (pe_bltn (v := .ty "bool") (by rfl) T.bool b_bool rfl) pa_nil))) (nomark _)) (pe_one (pe_cmpR op_eq (pv 0) (pv 1) (nomark _)))))))), ?_⟩
    have hxl : xs.length = ys.length := plen hP
    refine ⟨_, rfl, by show 2 ≤ sizeLine; decide, fun tp ntp => ⟨_, _, _, _, _, true, rfl, upd_same, .cons (.ty _) (.cons (.ty _) .nil), .base (.tup (same_upd ntp _ _ hb)), ka_tuple, _, rfl, iteT ?_⟩⟩
    refine ⟨_, rfl, by show 2 ≤ sizeLine; decide, fun tq ntq => ⟨_, _, _, _, _, true, rfl, upd_same, .cons (.ty _) (.cons (.ty _) .nil), .base (.tup (same_upd ntq _ _ (same_upd ntp _ _ ha))), ka_tuple, _, rfl, iteF ?_⟩⟩
    have s2 : Same H (upd (upd H tp (.tup [.ty "tuple", .ty "list"])) tq (.tup [.ty "tuple", .ty "list"])) := (same_upd ntp).trans (same_upd ntq)
    generalize upd (upd H tp _) tq _ = H2 at s2
    have ha2 := s2 _ _ ha
    have hb2 := s2 _ _ hb
    refine ⟨_, rfl, _, _, _, _, false, rfl, .ty _, .base (.tup ha2), kit_ty kk4, _, rfl, _, _, _, _, false, rfl, .ty _, .base (.tup hb2), kit_ty kk4, rfl, false, by rfl, iteF ?_⟩
    refine ⟨_, rfl, a, _, rfl, .inr (SqT.of ha2), _, rfl, b, _, rfl, .inr (SqT.of hb2), rfl, false, by rw [hxl]; exact congrArg (fun z => V.bl (!z)) (decide_eq_true rfl), iteF ?_⟩
    refine ⟨_, rfl, b, _, rfl, .inr (SqT.of hb2), (ys.length : Int), rfl, by omega, by omega, fun D hD => ?_⟩
    refine lc_range (lo := 0) (fun _ H' => Same H2 H' ∧ H' D = some (.lst [])) ⟨same_upd hD, upd_same⟩ ?_ ?_
    · rintro j H3 hj ⟨s3, h3⟩
      have hj' : j < ys.length := by omega
      have ey : ys[j]? = some ys[j] := List.getElem?_eq_getElem hj'
      obtain ⟨x, ex, hxy⟩ := pget' hP ey
      have e0 : (0 : Int) + (j : Nat) = (j : Nat) := by omega
      refine ⟨rfl, _, rfl, _, rfl, a, xs, _, x, rfl, rfl, SqT.of (s3 _ _ ha2), by rw [e0]; exact atI_nat ex, _, rfl, _, rfl, b, ys, _, ys[j], rfl, rfl, SqT.of (s3 _ _ hb2), by rw [e0]; exact atI_nat ey, ?_⟩
      exact ⟨x, ys[j], rfl, hxy.same (s2.trans s3), fun H4 s4 => ⟨true, rfl, iteF ⟨s3.trans s4, s4 _ _ h3⟩⟩⟩
    · rintro H3 ⟨s3, h3⟩
      refine ⟨by show 0 ≤ sizeLine; decide, fun l nl => ?_⟩
      have s4 := same_upd (o := .lst []) nl
      refine ⟨.list [], .list [], .lst (SqL.of (s4 _ _ h3)) .nil, .lst (SqL.of upd_same) .nil, rfl, rfl, ?_⟩
      have e : V.bl (PyData.eqv (.list []) (.list [])) = .bl true := congrArg V.bl (by decide +kernel)
      rw [e]
      exact k _ ((s2.trans s3).trans s4)
  · refine ⟨_, pss_cons (ps_if (pt_val (pe_callB call_isiT (by rfl) T.isinstance b_isi (pa_cons (pv 1) (pa_cons (pe_tup (pa_cons (pe_bltn (v := .ty "tuple") (by rfl) T.tuple b_tuple rfl) (pa_cons (pe_bltn (v := .ty "list") (by rfl) T.list b_list rfl) pa_nil))) pa_nil))))
        (pss_cons (ps_if (pw_or (pt_not (pt_val (pe_callB call_isiT (by rfl) T.isinstance b_isi (pa_cons (pv 0) (pa_cons (pe_tup (pa_cons (pe_bltn (v := .ty "tuple") (by rfl) T.tuple b_tuple rfl) (pa_cons (pe_bltn (v := .ty "list") (by rfl) T.list b_list rfl) pa_nil))) pa_nil))))) (pw_or1 (pt_cmpR op_ne (pe_callB call_isi (by rfl) T.isinstance b_isi (pa_cons (pv 0) (pa_cons (pe_bltn (v := .ty "list") (by rfl) T.list b_list rfl) pa_nil))) (pe_callB call_isi (by rfl) T.isinstance b_isi (pa_cons (pv 1) (pa_cons (pe_bltn (v := .ty "list") (by rfl) T.list b_list rfl) pa_nil))) (nomark _)))).pt (pss_one ps_never) pss_nil)
        (pss_cons (ps_if (pt_cmpR op_ne (pe_callB call_len_seq (by rfl) T.len PySem.boot_len (pa_cons (pv 0) pa_nil)) (pe_callB call_len_seq (by rfl) T.len PySem.boot_len (pa_cons (pv 1) pa_nil)) (nomark _)) (pss_one ps_never) pss_nil)
        (pss_one (ps_ret (pe_cmpR (op_eqD (show A.units + 3 + 64 < cLine from hr.units)) (pe_lc (own := [("_law_k", 2)]) (g := gName 2) rfl scAlike.nd (pi_range1 (by rfl) T.range (pa_cons (pe_callB call_len_seq (by rfl) T.len PySem.boot_len (pa_cons (pv 1) pa_nil)) pa_nil))
          (blkOk_by (N := ["_law_found", "_law_due", "_law_k"]) (sc := defScope sAlike) (by decide +kernel))
          (fun _ _ _ _ _ => pg_name (i := 2) scAlike.nd rfl (Or.inl rfl)) (fun _ _ _ _ _ => pts_one (pt_not (pt_val (pe_call G hr (by rfl) C.m C.k C.b .nil pass0 (pa_cons (pe_ix (show IxR _ (rIxL K) from ix_list) (pv 0) (pv 2) (fun _ _ => rfl)) (pa_cons (pe_ix (show IxR _ (rIxL K) from ix_list) (pv 1) (pv 2) (fun _ _ => rfl)) pa_nil))))))
          (fun _ _ _ _ _ => pv 2)) (pe_lst pa_nil) (nomark _)))))) pss_nil)
      (pss_cons (ps_if (pw_or (pt_cmp (pc_isN (pv 1))) (pw_or1 (pt_val (pe_callB call_isi (by rfl) T.isinstance b_isi (pa_cons (pv 1) (pa_cons (pe_bltn (v := .ty "str") (by rfl) T.str b_str rfl) pa_nil)))))).pt (pss_one ps_never) pss_nil)
      (pss_one (ps_ret (pe_and (pe_callB call_isi (by rfl) T.isinstance b_isi (pa_cons (pv 0) (pa_cons (pe_bltn (v := .ty "int") (by rfl) T.int b_int rfl) pa_nil))) (pe_and (pe_cmpR op_eq (pe_callB call_isi (by rfl) T.isinstance b_isi (pa_cons (pv 0) (pa_cons (pe_bltn (v := .ty "bool") (by rfl) T.bool b_bool rfl) pa_nil))) (pe_callB call_isi (by rfl) T.isinstance b_isi (pa_cons (pv 1) (pa_cons (pe_bltn (v := .ty "bool") (by rfl) T.bool b_bool rfl) pa_nil))) (nomark _)) (pe_one (pe_cmpR op_eq (pv 0) (pv 1) (nomark _)))))))), ?_⟩
    have hxl : xs.length = ys.length := plen hP
    refine ⟨_, rfl, by show 2 ≤ sizeLine; decide, fun tp ntp => ⟨_, _, _, _, _, true, rfl, upd_same, .cons (.ty _) (.cons (.ty _) .nil), .base (.lst (same_upd ntp _ _ hb)), ka_list, _, rfl, iteT ?_⟩⟩
    refine ⟨_, rfl, by show 2 ≤ sizeLine; decide, fun tq ntq => ⟨_, _, _, _, _, true, rfl, upd_same, .cons (.ty _) (.cons (.ty _) .nil), .base (.lst (same_upd ntq _ _ (same_upd ntp _ _ ha))), ka_list, _, rfl, iteF ?_⟩⟩
    have s2 : Same H (upd (upd H tp (.tup [.ty "tuple", .ty "list"])) tq (.tup [.ty "tuple", .ty "list"])) := (same_upd ntp).trans (same_upd ntq)
    generalize upd (upd H tp _) tq _ = H2 at s2
    have ha2 := s2 _ _ ha
    have hb2 := s2 _ _ hb
    refine ⟨_, rfl, _, _, _, _, true, rfl, .ty _, .base (.lst ha2), kit_ty kk5, _, rfl, _, _, _, _, true, rfl, .ty _, .base (.lst hb2), kit_ty kk5, rfl, false, by rfl, iteF ?_⟩
    refine ⟨_, rfl, a, _, rfl, .inl (SqL.of ha2), _, rfl, b, _, rfl, .inl (SqL.of hb2), rfl, false, by rw [hxl]; exact congrArg (fun z => V.bl (!z)) (decide_eq_true rfl), iteF ?_⟩
    refine ⟨_, rfl, b, _, rfl, .inl (SqL.of hb2), (ys.length : Int), rfl, by omega, by omega, fun D hD => ?_⟩
    refine lc_range (lo := 0) (fun _ H' => Same H2 H' ∧ H' D = some (.lst [])) ⟨same_upd hD, upd_same⟩ ?_ ?_
    · rintro j H3 hj ⟨s3, h3⟩
      have hj' : j < ys.length := by omega
      have ey : ys[j]? = some ys[j] := List.getElem?_eq_getElem hj'
      obtain ⟨x, ex, hxy⟩ := pget' hP ey
      have e0 : (0 : Int) + (j : Nat) = (j : Nat) := by omega
      refine ⟨rfl, _, rfl, _, rfl, a, xs, _, x, rfl, rfl, SqL.of (s3 _ _ ha2), by rw [e0]; exact atI_nat ex, _, rfl, _, rfl, b, ys, _, ys[j], rfl, rfl, SqL.of (s3 _ _ hb2), by rw [e0]; exact atI_nat ey, ?_⟩
      exact ⟨x, ys[j], rfl, hxy.same (s2.trans s3), fun H4 s4 => ⟨true, rfl, iteF ⟨s3.trans s4, s4 _ _ h3⟩⟩⟩
    · rintro H3 ⟨s3, h3⟩
      refine ⟨by show 0 ≤ sizeLine; decide, fun l nl => ?_⟩
      have s4 := same_upd (o := .lst []) nl
      refine ⟨.list [], .list [], .lst (SqL.of (s4 _ _ h3)) .nil, .lst (SqL.of upd_same) .nil, rfl, rfl, ?_⟩
      have e : V.bl (PyData.eqv (.list []) (.list [])) = .bl true := congrArg V.bl (by decide +kernel)
      rw [e]
      exact k _ ((s2.trans s3).trans s4)
theorem ok_alike {f : Addr} {fd : FuncData} (F : Fun K "_law_alike" "_law_alike" sAlike f fd) (T : TX mg) (C : Cd K mg "_law_alike" f fd ["_law_found", "_law_due"]) : ∀ n : Nat, FnOk P w K mg base CX0 (n + 1) f fd ["_law_found", "_law_due"] (spAlike n)
  | 0 => ok_alike0 F T
  | n + 1 => ok_alikeS F T C (ok_alike F T C n)
end
end Dr
set_option maxRecDepth 100000
set_option maxHeartbeats 4000000
namespace Dr
open PySem PySem.Spec PyProof.Rows L2 DrG
/-! ### the law's machine -/
theorem RowAt.re {K : PySem.W.Frag} {H H1 H' : Hp} {r sc : Addr} {ns : List Int} (R : RowAt K H r sc ns) (b : But r H H') (R1 : RowAt K H1 r sc ns) (e : H' r = H1 r) : RowAt K H' r sc ns := by
  obtain ⟨a0, b0, c0, h0, _⟩ := R.ob
  obtain ⟨a1, b1, c1, h1, q1⟩ := R1.ob
  refine ⟨⟨a1, b1, c1, e.trans h1, q1⟩, ?_⟩
  rcases R.sq with (z | ⟨o, z⟩) | z
  · refine .inl (.inl (b sc _ (fun ee => ?_) z))
    rw [ee, h0] at z
    have z' : [V.ref sc, .int a0, .int b0, .int c0] = ns.map V.int := HO.lst.inj (Option.some.inj z)
    cases ns with
    | nil => cases z'
    | cons n ns => injection z' with z1 _; cases z1
  · refine .inl (.inr ⟨o, b sc _ (fun ee => ?_) z⟩)
    rw [ee, h0] at z
    cases z
  · exact .inr z
theorem RowAt.ne {K : PySem.W.Frag} {H : Hp} {r sc : Addr} {ns : List Int} (R : RowAt K H r sc ns) {p : Addr} (n : H p = none) : r ≠ p := by
  obtain ⟨a, b, c, h, _⟩ := R.ob
  exact ne_of_none h n
theorem but_upd2 {r : Addr} {H H' : Hp} {p : Addr} {o : HO} (s : But r H H') (n : H p = none) : But r H (upd H' p o) := fun b u nb e => by
  rw [upd_ne (ne_of_none e n)]; exact s b u nb e
/-- the row's script and state as before: what is laid at a new place does not matter -/
theorem RowAt.lay {K : PySem.W.Frag} {H H' : Hp} {r sc : Addr} {ns : List Int} (R : RowAt K H r sc ns) (b : But r H H') (R1 : RowAt K H' r sc ns) {p : Addr} {o : HO} (n : H p = none) : RowAt K (upd H' p o) r sc ns :=
  R.re (but_upd2 b n) R1 (upd_ne (R.ne n))
def spLRow (K : PySem.W.Frag) : Sp := fun vs H Q _ => ∃ (r sc : Addr) (ns : List Int) (p : Int) (m : Nat), vs = [.ref r, .int p, .int m] ∧ RowAt K H r sc ns ∧ 1 ≤ p ∧ p ≤ 1000 ∧ m ≤ 1000 ∧
  ∀ a x H', RowAt K H' r sc ns → But r H H' → IT H' a x → x.length = m → In0 p x → Q (.ref a) H'
section
variable {P : Program} {w : World} {K : PySem.W.Frag} {mg : Str → Option Value} {base : Heap}
theorem scLRow : FnScope ["_law_row_here", "_law_prime", "_law_many", "_law_place"] ["_law_row_here", "_law_prime", "_law_many"] (defScope sRow) := ⟨rfl, rfl, rfl, by decide +kernel, rfl, by decide +kernel, by decide +kernel⟩
theorem ok_lrow {f fT : Addr} {fd fdT : FuncData} {psT : List Str} (F : Fun K "_law_row" "_law_row" sRow f fd) (T : TX mg) (CT : Cd K mg "_law_taken" fT fdT psT) (G : FnOk P w K mg base CX0 1 fT fdT psT (spTaken K)) :
    FnOk P w K mg base CX0 2 f fd ["_law_row_here", "_law_prime", "_law_many"] (spLRow K) := by
  refine F.ok scLRow (fun vs H Q E h => ?_) (fun cdv A outer s H vs Q E hr h => ?_)
  · obtain ⟨r, sc, ns, p, m, rfl, _⟩ := h; rfl
  · obtain ⟨r, sc, ns, p, m, rfl, R, hp1, hp2, hm, k⟩ := h
    refine ⟨_, pss_one (ps_ret (pe_callTy call_tuple_of (by rfl) T.tuple b_tuple (pa_cons
      (pe_lc (own := [("_law_place", 3)]) (g := gName 3) (tt := tYes) rfl scLRow.nd (pi_range1 (by rfl) T.range (pa_cons (pv 2) pa_nil))
        (blkOk_by (N := ["_law_row_here", "_law_prime", "_law_many", "_law_place"]) (sc := defScope sRow) (by decide +kernel))
        (fun _ _ _ _ _ => pg_name (i := 3) scLRow.nd rfl (Or.inl rfl)) (fun _ _ _ _ _ => pts_nil)
        (fun _ _ _ _ _ => pe_ifExp (pt_cmpR op_gt (pe_call G hr (by rfl) CT.m CT.k CT.b .nil pass0 (pa_cons (pv 0) (pa_cons pe_int pa_nil))) pe_int (nomark _)) (pe_call G hr (by rfl) CT.m CT.k CT.b .nil pass0 (pa_cons (pv 0) (pa_cons (pv 1) pa_nil))) pe_int)) pa_nil))), ?_⟩
    refine ⟨_, rfl, (m : Int), rfl, by omega, by omega, fun D hD => ?_⟩
    have nrD := R.ne hD
    refine lc_range (lo := 0) (fun i H' => But r H H' ∧ RowAt K H' r sc ns ∧ ∃ x : List Int, H' D = some (.lst (x.map V.int)) ∧ x.length = i ∧ In0 p x) ⟨(Same.but (same_upd hD)), R.lay But.refl R hD, [], upd_same, rfl, fun u hu => nomatch hu⟩ ?_ ?_
    · rintro i H1 hi ⟨b1, R1, x, hx, hxl, hxi⟩
      refine ⟨rfl, yesT ⟨_, rfl, r, sc, ns, 3, rfl, R1, by decide, by decide, fun v H2 v0 v1 R2 o2 => ⟨_, _, rfl, rfl, _, rfl, ?_⟩⟩⟩
      have hx2 : H2 D = some (.lst (x.map V.int)) := (o2 D (Ne.symm nrD)).trans hx
      have b2 : But r H H2 := b1.trans (Only.but o2)
      have fin : ∀ (u : Int) (H3 : Hp), 0 ≤ u → u < p → RowAt K H3 r sc ns → But r H H3 → H3 D = some (.lst (x.map V.int)) → ∃ acc, H3 D = some (.lst acc) ∧ acc.length < sizeLine ∧
          (But r H (upd H3 D (.lst (acc ++ [.int u]))) ∧ RowAt K (upd H3 D (.lst (acc ++ [.int u]))) r sc ns ∧ ∃ x : List Int, upd H3 D (.lst (acc ++ [.int u])) D = some (.lst (x.map V.int)) ∧ x.length = i + 1 ∧ In0 p x) := by
        intro u H3 u0 u1 R3 b3 hx3
        refine ⟨_, hx3, small1000 (by rw [List.length_map]; omega), but_upd2 b3 hD, R.lay b3 R3 hD, x ++ [u], ?_, by simp [hxl], fun z hz => ?_⟩
        · rw [upd_same, List.map_append]; rfl
        · rcases List.mem_append.mp hz with h | h
          · exact hxi z h
          · rw [List.mem_singleton.mp h]; exact ⟨u0, u1⟩
      refine ite2 (fun _ => ?_) (fun _ => ?_)
      · refine ⟨_, rfl, _, rfl, r, sc, ns, p, rfl, R2, hp1, hp2, fun u H3 u0 u1 R3 o3 => ?_⟩
        exact fin u H3 u0 u1 R3 (b2.trans (Only.but o3)) ((o3 D (Ne.symm nrD)).trans hx2)
      · exact fin 0 H2 (by omega) (by omega) R2 b2 hx2
    · rintro H1 ⟨b1, R1, x, hx, hxl, hxi⟩
      refine ⟨D, _, rfl, .inl ⟨SqL.of hx, fun l nl => ?_⟩⟩
      have nl0 : H l = none := b1.free (fun e => by obtain ⟨a, b, c, h, _⟩ := R1.ob; rw [e, h] at nl; cases nl) nl
      exact k l x _ (R.lay b1 R1 nl0) (but_upd2 b1 nl0) upd_same (by omega) hxi
end
end Dr
set_option maxRecDepth 100000
set_option maxHeartbeats 4000000
namespace Dr
open PySem PySem.Spec PyProof.Rows L2 DrG
/-! ### _law_stir -/
theorem ixN_nat {n j : Nat} (h : j < n) : ixN n (j : Int) = some j := by
  have := atI_nat (xs := List.range n) (j := j) (v := j) (by simp [h])
  unfold atI at this
  cases e : ixN (List.range n).length (j : Int) with
  | none => rw [e] at this; cases this
  | some k =>
    rw [e] at this
    have hk : (List.range n)[k]? = some j := this
    obtain ⟨hk1, hk2⟩ := List.getElem?_eq_some_iff.mp hk
    rw [List.getElem_range] at hk2
    rw [List.length_range] at e
    rw [e, hk2]
/-- a row of the table: a list of ints, made by the def, not the table itself -/
def RL (H0 : Hp) (q : Addr) (H : Hp) (v : V) (x : List Int) : Prop := ∃ a, v = .ref a ∧ H0 a = none ∧ a ≠ q ∧ H a = some (.lst (x.map V.int))
structure SI (K : PySem.W.Frag) (H0 : Hp) (r sc : Addr) (ns : List Int) (q : Addr) (H : Hp) (rs : List V) (L : List (List Int)) : Prop where
  b : But r H0 H
  R : RowAt K H r sc ns
  q0 : H0 q = none
  at_ : H q = some (.lst rs)
  p : Paired (RL H0 q H) rs L
section
variable {K : PySem.W.Frag} {H0 H H' : Hp} {r sc q : Addr} {ns : List Int} {rs : List V} {L : List (List Int)}
theorem RL.kp {v : V} {x : List Int} (h : RL H0 q H v x) (k : ∀ b o, b ≠ q → H0 b = none → H b = some o → H' b = some o) : RL H0 q H' v x := let ⟨a, e, n, m, z⟩ := h; ⟨a, e, n, m, k _ _ m n z⟩
theorem rl_kp (k : ∀ b o, b ≠ q → H0 b = none → H b = some o → H' b = some o) (h : Paired (RL H0 q H) rs L) : Paired (RL H0 q H') rs L := paired_imp (fun _ _ z => z.kp k) h
theorem SI.same (I : SI K H0 r sc ns q H rs L) (s : Same H H') : SI K H0 r sc ns q H' rs L :=
  ⟨I.b.trans (Same.but s), I.R.same s, I.q0, s _ _ I.at_, rl_kp (fun b o _ _ e => s b o e) I.p⟩
theorem SI.only (R0 : RowAt K H0 r sc ns) (I : SI K H0 r sc ns q H rs L) (o : Only r H H') (R : RowAt K H' r sc ns) : SI K H0 r sc ns q H' rs L := by
  have nr : ∀ b, H0 b = none → b ≠ r := fun b n => (R0.ne n).symm
  exact ⟨I.b.trans (Only.but o), R, I.q0, (o q (nr q I.q0)).trans I.at_, rl_kp (fun b u _ n e => (o b (nr b n)).trans e) I.p⟩
theorem SI.put (R0 : RowAt K H0 r sc ns) (I : SI K H0 r sc ns q H rs L) {rs' : List V} {L' : List (List Int)} (h : Paired (RL H0 q H) rs' L') : SI K H0 r sc ns q (upd H q (.lst rs')) rs' L' :=
  ⟨but_upd2 I.b I.q0, R0.lay I.b I.R I.q0, I.q0, upd_same, rl_kp (fun b o n _ e => (upd_ne n).trans e) h⟩
theorem SI.new (R0 : RowAt K H0 r sc ns) (I : SI K H0 r sc ns q H rs L) {l : Addr} (n : H l = none) : H0 l = none ∧ l ≠ q := by
  obtain ⟨a, b, c, h, _⟩ := I.R.ob
  refine ⟨I.b.free (fun e => ?_) n, fun e => ?_⟩
  · rw [e, h] at n; cases n
  · rw [e, I.at_] at n; cases n
end
theorem Good.set {p : Int} {m i : Nat} {L : List (List Int)} {z : List Int} (g : Good p m L) (hi : Ind p (L.set i z)) (hl : z.length = m) (hz : In0 p z) : Good p m (L.set i z) := by
  refine ⟨hi, fun x hx => ?_⟩
  rcases List.mem_or_eq_of_mem_set hx with h | rfl
  · exact g.2 x h
  · exact ⟨hl, hz⟩
theorem unit_get {n k j : Nat} (h : j < n) : (unitRow n k)[j]? = some (if j = k then 1 else 0) := by
  unfold unitRow
  rw [List.getElem?_map, List.getElem?_range h]; rfl
theorem tab_get {n k : Nat} (h : k < n) : (unitTab n)[k]? = some (unitRow n k) := by
  unfold unitTab
  rw [List.getElem?_map, List.getElem?_range h]; rfl
theorem unitRow_len {n k : Nat} : (unitRow n k).length = n := by simp [unitRow]
theorem good_unit {p : Int} {n : Nat} (hp : 1 < p) (h1 : 1 ≤ n) (h4 : n ≤ 4) : Good p n (unitTab n) := by
  refine ⟨ind_unit p h1 h4, fun x hx => ?_⟩
  obtain ⟨k, hk⟩ := List.getElem?_of_mem hx
  have hk' : k < n := by have := (List.getElem?_eq_some_iff.mp hk).1; rwa [len_unit] at this
  rw [tab_get hk'] at hk
  obtain rfl := Option.some.inj hk
  refine ⟨unitRow_len, fun u hu => ?_⟩
  obtain ⟨j, hj⟩ := List.getElem?_of_mem hu
  have hj' : j < n := by have := (List.getElem?_eq_some_iff.mp hj).1; rwa [unitRow_len] at this
  rw [unit_get hj'] at hj
  obtain rfl := Option.some.inj hj
  by_cases c : j = k
  · rw [if_pos c]; omega
  · rw [if_neg c]; omega
section
variable {K : PySem.W.Frag} {a b D : Addr} {x y : List Int} {n i j : Nat} {te : TE} {σ : L2.St} {H1 : Hp} {Qd : Hp → Prop}
theorem lc_zL (f : Int → Int → Int) (ha : H1 a = some (.lst (x.map V.int))) (hb : H1 b = some (.lst (y.map V.int))) (hx : x.length = n) (hy : y.length = n) (hn : n ≤ 1000) (hD : H1 D = none)
    (hw : ∀ u v, wipe (((wipe σ [i, j]).set i u).set j v) [i, j] = wipe σ [i, j]) (he : ∀ u ∈ x, ∀ v ∈ y, ∀ H Q, Q (.int (f u v)) H → te (((wipe σ [i, j]).set i (some (.int u))).set j (some (.int v))) H Q)
    (hd : ∀ H', Same H1 H' → H' D = some (.lst ((List.zipWith f x y).map V.int)) → Qd H') :
    ∃ W : Nat → Nat → Hp → Prop, (∃ m, W 0 m (upd H1 D (.lst []))) ∧ ∀ i' m H, W i' m H →
      ((Itz K a b).stop i' H ∧ Qd H) ∨ ((Itz K a b).go i' H ∧ ∃ Nx : Hp → Prop, (∀ H', Nx H' → ∃ m', m' < m ∧ W (i' + 1) m' H') ∧ ∀ x H', (Itz K a b).yld i' H x H' → g2 K i j x (wipe σ [i, j]) H' fun σ2 H2 => wipe σ2 [i, j] = wipe σ [i, j] ∧ tYes σ2 H2 fun b H3 =>
        if b = true then te σ2 H3 fun y H4 => ∃ acc, H4 D = some (.lst acc) ∧ acc.length < sizeLine ∧ Nx (upd H4 D (.lst (acc ++ [y]))) else Nx H3) :=
  lc_pairs _ (walk_zipL (K := K) (a := a) (b := b) (xs := x.map V.int) (ys := y.map V.int) (by simpa using hx) (by simpa using hy)) f hx hy hn (fun H s => ⟨.inl (.inl (s _ _ ha)), .inl (.inl (s _ _ hb))⟩) hD hw he hd
end
/-- the scope of the outer comprehension -/
abbrev oSc : Scope := { kind := .function, names := [(".0", .local), ("_law_other", .cell), ("range", .globalImplicit), ("_law_many", .cell)], isGenerator := false, isCoroutine := false }
theorem swap_ok {K : PySem.W.Frag} {H0 H : Hp} {r sc q : Addr} {ns : List Int} {rs : List V} {L : List (List Int)} {p : Int} {n a c : Nat} {σ : L2.St} {D : Ends} (R0 : RowAt K H0 r sc ns) (I : SI K H0 r sc ns q H rs L) (g : Good p n L) (hl : L.length = n) (ha : a < n) (hc : c < n)
    (h5 : σ[5]? = some (some (.ref q))) (h4 : σ[4]? = some (some (.int (a : Nat)))) (h3 : σ[3]? = some (some (.int (c : Nat)))) (k : ∀ H' rs' L', SI K H0 r sc ns q H' rs' L' → Good p n L' → L'.length = n → D.nx σ H') :
    tAsg (tTup (tCons (tOp (rIxL K) (tVar 5) (tVar 3)) (tCons (tOp (rIxL K) (tVar 5) (tVar 4)) tNil))) (gTup K 2 (gCons (gSub (tVar 5) (tVar 4) rSetL) (gCons (gSub (tVar 5) (tVar 3) rSetL) gNil))) D σ H := by
  have eA : L[a]? = some (L[a]'(by omega)) := List.getElem?_eq_getElem _
  have eC : L[c]? = some (L[c]'(by omega)) := List.getElem?_eq_getElem _
  generalize L[a]'(by omega) = x at eA
  generalize L[c]'(by omega) = y at eC
  obtain ⟨va, ea, ha'⟩ := pget' I.p eA
  obtain ⟨vc, ec, hc'⟩ := pget' I.p eC
  have hrl : rs.length = n := (plen I.p).trans hl
  refine ⟨_, h5, _, h3, q, rs, _, vc, rfl, rfl, SqL.of I.at_, atI_nat ec, _, h5, _, h4, q, rs, _, va, rfl, rfl, SqL.of I.at_, atI_nat ea, by show 2 ≤ sizeLine; decide, fun T nT => ?_⟩
  have s1 := same_upd (o := .tup [vc, va]) nT
  have I1 := I.same s1
  refine ⟨T, _, rfl, SqT.of upd_same, rfl, _, _, rfl, _, h5, _, h4, q, rs, _, a, rfl, rfl, I1.at_, ixN_nat (by omega), ?_⟩
  have keep : ∀ (rs' : List V) (b : Addr) (o : HO), b ≠ q → H0 b = none → upd H T (.tup [vc, va]) b = some o → upd (upd H T (.tup [vc, va])) q (.lst rs') b = some o := fun rs' b o n _ e => (upd_ne n).trans e
  have I2 := I1.put R0 (pset a I1.p (hc'.kp fun b o _ _ e => s1 b o e))
  have hl2 : (rs.set a vc).length = n := by rw [List.length_set, hrl]
  refine ⟨_, _, rfl, _, h5, _, h3, q, rs.set a vc, _, c, rfl, rfl, I2.at_, ixN_nat (by omega), rfl, ?_⟩
  have hx2 : RL H0 q (upd (upd H T (.tup [vc, va])) q (.lst (rs.set a vc))) va x := (ha'.kp fun b o _ _ e => s1 b o e).kp (keep _)
  have I3 := I2.put R0 (pset c I2.p hx2)
  have gx := g.2 x (List.mem_of_getElem? eA)
  have gy := g.2 y (List.mem_of_getElem? eC)
  refine k _ _ _ I3 ⟨g.1.swap eA eC, fun z hz => ?_⟩ (by rw [List.length_set, List.length_set, hl])
  rcases List.mem_or_eq_of_mem_set hz with h | rfl
  · rcases List.mem_or_eq_of_mem_set h with h | rfl
    · exact g.2 z h
    · exact gy
  · exact gx
def spStir (K : PySem.W.Frag) : Sp := fun vs H Q _ => ∃ (r sc : Addr) (ns : List Int) (p : Int) (n : Nat), vs = [.ref r, .int p, .int n] ∧ RowAt K H r sc ns ∧ PrimeOk p ∧ 1 ≤ n ∧ n ≤ 4 ∧
  ∀ t L H', RowAt K H' r sc ns → But r H H' → TT H' t L → L.length = n → Good p n L → Q (.ref t) H'
abbrev nStir : List Str := ["_law_row_here", "_law_prime", "_law_many", "_law_other", "_law_one", "_law_found", "_law_turn", "_law_factor", "_law_left", "_law_right", "_law_line"]
section
variable {P : Program} {w : World} {K : PySem.W.Frag} {mg : Str → Option Value} {base : Heap}
theorem scStir : FnScope nStir ["_law_row_here", "_law_prime", "_law_many"] (defScope sStir) := ⟨rfl, rfl, rfl, by decide +kernel, rfl, by decide +kernel, by decide +kernel⟩
theorem ok_stir {f fT : Addr} {fd fdT : FuncData} {psT : List Str} (F : Fun K "_law_stir" "_law_stir" sStir f fd) (T : TX mg) (CT : Cd K mg "_law_taken" fT fdT psT) (G : FnOk P w K mg base CX0 1 fT fdT psT (spTaken K)) :
    FnOk P w K mg base CX0 2 f fd ["_law_row_here", "_law_prime", "_law_many"] (spStir K) := by
  refine F.ok scStir (fun vs H Q E h => ?_) (fun cdv A outer s H vs Q E hr h => ?_)
  · obtain ⟨r, sc, ns, p, n, rfl, _⟩ := h; rfl
  · obtain ⟨r, sc, ns, p, n, rfl, R0, hp, h1, h4, k⟩ := h
    have hp7 := hp.pos
    refine ⟨_, pss_cons (ps_setLc (i := 5) (own := [("_law_other", 3)]) (g := gName 3) (tt := tYes) rfl scStir.nd rfl rfl (sw_true rfl rfl rfl (by decide +kernel)) (pi_range1 (by rfl) T.range (pa_cons (pv 2) pa_nil))
        (blkOk_by (N := nStir) (sc := defScope sStir) (by decide +kernel))
        (fun _ _ _ _ _ => pg_name (i := 3) scStir.nd rfl (Or.inr rfl)) (fun _ _ _ _ _ => pts_nil)
        (fun _ _ _ _ _ => pe_lc (own := [("_law_one", 4)]) (g := gName 4) (tt := tYes) rfl scStir.nd (pi_range1 (by rfl) T.range (pa_cons (pv 2) pa_nil))
          (blkOk_by (N := nStir) (sc := oSc) (by decide +kernel))
          (fun _ _ _ _ _ => pg_name (i := 4) scStir.nd rfl (Or.inl rfl)) (fun _ _ _ _ _ => pts_nil)
          (fun _ _ _ _ _ => pe_callTy call_int1 (by rfl) T.int b_int (pa_cons (pe_cmpR op_eq (pv 4) (pv 3) (nomark _)) pa_nil))))
      (pss_cons (ps_for PassesOwn.never rfl (pi_range1 (by rfl) T.range (pa_cons (pe_call G hr (by rfl) CT.m CT.k CT.b .nil pass0 (pa_cons (pv 0) (pa_cons pe_int pa_nil))) pa_nil)) (pg_name (i := 6) scStir.nd rfl (Or.inl rfl))
        (pss_cons (ps_asg (pe_tup (pa_cons (pe_call G hr (by rfl) CT.m CT.k CT.b .nil pass0 (pa_cons (pv 0) (pa_cons (pv 2) pa_nil))) (pa_cons (pe_call G hr (by rfl) CT.m CT.k CT.b .nil pass0 (pa_cons (pv 0) (pa_cons (pv 2) pa_nil)))
              (pa_cons (pe_op op_add pe_int (pe_call G hr (by rfl) CT.m CT.k CT.b .nil pass0 (pa_cons (pv 0) (pa_cons (pe_op op_sub (pv 1) pe_int) pa_nil)))) pa_nil))))
            (pg_tup rfl (pgs_cons (pg_name (i := 4) scStir.nd rfl (Or.inl rfl)) (pgs_cons (pg_name (i := 3) scStir.nd rfl (Or.inl rfl)) (pgs_cons (pg_name (i := 7) scStir.nd rfl (Or.inr rfl)) pgs_nil)))))
        (pss_cons (ps_if (pt_cmpR op_ne (pv 4) (pv 3) (nomark _)) (pss_one (ps_asg
            (pe_lc (own := [("_law_left", 8), ("_law_right", 9)]) (g := g2 K 8 9) (tt := tYes) rfl scStir.nd (RZ.pi_zipA (by rfl) T.zip (pa_cons (pe_ix ix_list (pv 5) (pv 4) (fun _ _ => rfl)) (pa_cons (pe_ix ix_list (pv 5) (pv 3) (fun _ _ => rfl)) pa_nil)))
              (blkOk_by (N := nStir) (sc := defScope sStir) (by decide +kernel))
              (fun _ _ _ _ _ => pg_tup rfl (pgs_cons (pg_name (i := 8) scStir.nd rfl (Or.inl rfl)) (pgs_cons (pg_name (i := 9) scStir.nd rfl (Or.inl rfl)) pgs_nil))) (fun _ _ _ _ _ => pts_nil)
              (fun _ _ _ _ _ => pe_op op_mod (pe_op op_add (pv 8) (pe_op op_mul (pv 7) (pv 9))) (pv 1))) (pg_sub (pv 5) (pv 4) set_list))) pss_nil)
        (pss_one (ps_asg (pe_tup (pa_cons (pe_ix ix_list (pv 5) (pv 3) (fun _ _ => rfl)) (pa_cons (pe_ix ix_list (pv 5) (pv 4) (fun _ _ => rfl)) pa_nil)))
            (pg_tup rfl (pgs_cons (pg_sub (pv 5) (pv 4) set_list) (pgs_cons (pg_sub (pv 5) (pv 3) set_list) pgs_nil))))))))
      (pss_one (ps_ret (pe_callTy call_tuple_of (by rfl) T.tuple b_tuple (pa_cons
        (pe_lc (own := [("_law_line", 10)]) (g := gName 10) (tt := tYes) rfl scStir.nd (pi_list (pv 5))
          (blkOk_by (N := nStir) (sc := defScope sStir) (by decide +kernel))
          (fun _ _ _ _ _ => pg_name (i := 10) scStir.nd rfl (Or.inl rfl)) (fun _ _ _ _ _ => pts_nil)
          (fun _ _ _ _ _ => pe_callTy (r := fun xs H Q => ∃ p ys, xs = [.ref p] ∧ ((SqL K H p ys ∧ ∀ l, H l = none → Q (.ref l) (upd H l (.tup ys))) ∨ (SqT K H p ys ∧ Q (.ref p) H))) call_tuple_of (by rfl) T.tuple b_tuple (pa_cons (pv 10) pa_nil))) pa_nil))))), ?_⟩
    -- the unit table
    refine ⟨_, rfl, (n : Int), rfl, by omega, by omega, fun q nq => ?_⟩
    refine lc_range (lo := 0) (fun i H' => ∃ rs, SI K H r sc ns q H' rs ((unitTab n).take i)) ⟨[], ⟨Same.but (same_upd nq), R0.lay But.refl R0 nq, nq, upd_same, .nil⟩⟩ ?_ ?_
    · rintro i H1 hi ⟨rs, I⟩
      have hi' : i < n := by omega
      refine ⟨rfl, yesT ?_⟩
      refine ⟨_, rfl, (n : Int), rfl, by omega, by omega, fun D nD => ?_⟩
      obtain ⟨nD0, nDq⟩ := I.new R0 nD
      refine lc_range (lo := 0) (fun j H' => Same H1 H' ∧ H' D = some (.lst (((unitRow n i).take j).map V.int))) ⟨same_upd nD, upd_same⟩ ?_ ?_
      · rintro j H2 hj ⟨s2, hD⟩
        have hj' : j < n := by omega
        refine ⟨rfl, yesT ⟨_, rfl, _, rfl, rfl, .inr ⟨_, rfl, _, hD, ?_, same_upd2 s2 nD, ?_⟩⟩⟩
        · rw [List.length_map, List.length_take, unitRow_len]; exact small1000 (by omega)
        · show upd H2 D _ D = _
          rw [upd_same, List.take_add_one, unit_get hj', List.map_append]
          by_cases c : j = i
          · subst c; simp
          · have c1 : ¬ V.int (0 + (j : Int)) = V.int (0 + (i : Int)) := fun e => c (by have := V.int.inj e; omega)
            simp [c]; omega
      · rintro H2 ⟨s2, hD⟩
        rw [List.take_of_length_le (by rw [unitRow_len]; omega)] at hD
        have I2 := I.same s2
        have hrl : rs.length ≤ i := by rw [plen I2.p, List.length_take]; omega
        refine ⟨rs, I2.at_, small1000 (by omega), rs ++ [.ref D], ?_⟩
        have z := I2.put R0 (psnoc I2.p (⟨D, rfl, nD0, nDq, hD⟩ : RL H q H2 (.ref D) (unitRow n i)))
        have e : (unitTab n).take (i + 1) = (unitTab n).take i ++ [unitRow n i] := by rw [List.take_add_one, tab_get hi']; rfl
        rw [e]; exact z
    rintro H1 ⟨rs, I⟩
    rw [List.take_of_length_le (by rw [len_unit]; omega)] at I
    -- the turns
    refine ⟨_, rfl, r, sc, ns, 5, rfl, I.R, by decide, by decide, fun v H2 v0 v1 R2 o2 => ⟨v, rfl, by omega, by omega, ?_⟩⟩
    have I2 := I.only R0 o2 R2
    let Pv : Nat → L2.St → Hp → Prop := fun _ σ H' => (∃ o3 o4 o6 o7, σ = [some (.ref r), some (.int p), some (.int n), o3, o4, some (.ref q), o6, o7, none, none, none]) ∧ ∃ rs L, SI K H r sc ns q H' rs L ∧ Good p n L ∧ L.length = n
    refine for_range (lo := 0) Pv ⟨⟨_, _, _, _, rfl⟩, rs, _, I2, good_unit (by omega) h1 h4, len_unit n⟩ ?_ ?_
    · rintro i σ H3 hi ⟨⟨o3, o4, o6, o7, rfl⟩, rs, L, I, g, hl⟩
      refine ⟨_, rfl, _, rfl, r, sc, ns, (n : Int), rfl, I.R, by omega, by omega, fun a H4 a0 a1 R4 o4' => ⟨_, rfl, _, rfl, r, sc, ns, (n : Int), rfl, R4, by omega, by omega, fun c H5 c0 c1 R5 o5 => ⟨_, rfl, _, rfl, _, _, rfl, rfl, r, sc, ns, p - 1, rfl, R5, by omega, by omega, fun e H6 e0 e1 R6 o6' => ⟨_, _, rfl, rfl, by show 3 ≤ sizeLine; decide, fun T nT => ?_⟩⟩⟩⟩
      obtain ⟨a, rfl⟩ : ∃ a' : Nat, a = (a' : Int) := ⟨a.toNat, by omega⟩
      obtain ⟨c, rfl⟩ : ∃ c' : Nat, c = (c' : Int) := ⟨c.toNat, by omega⟩
      have I6 := ((I.only R0 o4' R4).only R0 o5 R5).only R0 o6' R6
      have I7 := I6.same (same_upd (o := .tup [.int a, .int c, .int (1 + e)]) nT)
      refine ⟨T, _, rfl, SqT.of upd_same, rfl, _, _, rfl, _, _, rfl, _, _, rfl, rfl, ?_⟩
      generalize upd H6 T _ = H7 at I7
      refine ⟨_, rfl, _, rfl, rfl, _, rfl, ite2 (fun hne => ?_) (fun _ => ?_)⟩
      · have hac : a ≠ c := fun e => by subst e; simp at hne
        have eA : L[a]? = some (L[a]'(by omega)) := List.getElem?_eq_getElem _
        have eC : L[c]? = some (L[c]'(by omega)) := List.getElem?_eq_getElem _
        generalize L[a]'(by omega) = x at eA
        generalize L[c]'(by omega) = y at eC
        have gx := g.2 x (List.mem_of_getElem? eA)
        have gy := g.2 y (List.mem_of_getElem? eC)
        obtain ⟨va, ea, xa, rfl, _, _, hxa⟩ := pget' I7.p eA
        obtain ⟨vc, ec, xc, rfl, _, _, hxc⟩ := pget' I7.p eC
        refine ⟨_, rfl, _, rfl, q, _, _, _, rfl, rfl, SqL.of I7.at_, atI_nat ea, _, rfl, _, rfl, q, _, _, _, rfl, rfl, SqL.of I7.at_, atI_nat ec, xa, xc, _, _, rfl, .inl ⟨SqL.of hxa, SqL.of hxc, fun D nD => lc_zL (fun l r => (l + (1 + e) * r) % p) hxa hxc rfl (by rw [gy.1, gx.1]) (by rw [gx.1]; omega) nD (fun _ _ => rfl) (fun u _ v _ H8 Q8 q8 => ?_) (fun H8 s8 h8 => ?_)⟩⟩
        · exact ⟨_, rfl, _, rfl, _, rfl, _, _, rfl, rfl, .inl ⟨by omega, by omega⟩, _, _, rfl, rfl, _, rfl, _, _, rfl, rfl, by show 0 < p; omega, q8⟩
        · obtain ⟨nD0, nDq⟩ := I7.new R0 nD
          have I8 := I7.same s8
          have hrl : rs.length = n := (plen I7.p).trans hl
          refine ⟨_, rfl, _, rfl, q, rs, _, a, rfl, rfl, I8.at_, ixN_nat (by omega), ?_⟩
          have I9 := I8.put R0 (pset a I8.p (⟨D, rfl, nD0, nDq, h8⟩ : RL H q H8 (.ref D) (addL p x y (1 + e))))
          have g9 : Good p n (L.set a (addL p x y (1 + e))) := g.set (g.1.add eA eC hac (addL_at (by rw [gx.1, gy.1]))) ((addL_len (by rw [gx.1, gy.1])).trans gx.1) (addL_in (by omega))
          exact swap_ok R0 I9 g9 (by rw [List.length_set, hl]) (by omega) (by omega) rfl rfl rfl fun H' rs' L' I' g' hl' => ⟨⟨_, _, _, _, rfl⟩, rs', L', I', g', hl'⟩
      · exact swap_ok R0 I7 g hl (by omega) (by omega) rfl rfl rfl fun H' rs' L' I' g' hl' => ⟨⟨_, _, _, _, rfl⟩, rs', L', I', g', hl'⟩
    · rintro σ H3 ⟨⟨o3, o4, o6, o7, rfl⟩, rs, L, I, g, hl⟩
      have hrl : rs.length = n := (plen I.p).trans hl
      refine ⟨_, rfl, q, rfl, ⟨_, SqL.of I.at_⟩, fun D nD => ?_⟩
      obtain ⟨nD0, nDq⟩ := I.new R0 nD
      refine lc_list (K := K) (a := q) (xs := rs) (fun i H' => Same H3 H' ∧ ∃ ws, H' D = some (.lst ws) ∧ Paired (RT H') ws (L.take i)) ⟨same_upd nD, [], upd_same, .nil⟩ (fun i H' _ h => SqL.of (h.1 _ _ I.at_)) ?_ ?_
      · rintro i v H4 hv ⟨s4, ws, hws, hP⟩
        obtain ⟨x, hx, a, rfl, _, _, ha⟩ := pget I.p hv
        refine ⟨rfl, yesT ⟨_, rfl, a, _, rfl, .inl ⟨SqL.of (s4 _ _ ha), fun l nl => ?_⟩⟩⟩
        have s5 := same_upd (o := .tup (x.map V.int)) nl
        have hws5 : upd H4 l (.tup (x.map V.int)) D = some (.lst ws) := s5 _ _ hws
        have hwl : ws.length ≤ i := by rw [plen hP, List.length_take]; omega
        have hil := (List.getElem?_eq_some_iff.mp hx).1
        refine ⟨ws, hws5, small1000 (by omega), same_upd2 (s4.trans s5) nD, ws ++ [.ref l], upd_same, ?_⟩
        have tk : Tk (upd H4 l (.tup (x.map V.int))) (upd (upd H4 l (.tup (x.map V.int))) D (.lst (ws ++ [.ref l]))) := (but_upd (r := D)).tk fun xs z => by rw [hws5] at z; cases z
        rw [List.take_add_one, hx]
        exact psnoc (paired_tk ((Same.tk s5).trans tk) hP) ⟨l, rfl, tk _ _ upd_same⟩
      · rintro H4 ⟨s4, ws, hws, hP⟩
        rw [List.take_of_length_le (by omega)] at hP
        refine ⟨D, _, rfl, .inl ⟨SqL.of hws, fun l nl => ?_⟩⟩
        have s5 := same_upd (o := .tup ws) nl
        have I5 := I.same (s4.trans s5)
        exact k l L _ I5.R I5.b ⟨ws, upd_same, paired_tk (Same.tk s5) hP⟩ hl g
end
end Dr
set_option maxRecDepth 100000
set_option maxHeartbeats 4000000
namespace Dr
open PySem PySem.Spec PyProof.Rows L2 DrG
/-! ### _law_machine -/
abbrev teRow (K : PySem.W.Frag) : TE := tCall (spLRow K) [] E0 (tCons (tVar 0) (tCons (tVar 4) (tCons (tVar 5) tNil)))
theorem rows_lc {K : PySem.W.Frag} {H1 : Hp} {r sc D : Addr} {ns : List Int} {p : Int} {m cnt : Nat} {mv : Int} {σ : L2.St} {Qd : Hp → Prop} (R0 : RowAt K H1 r sc ns) (hp1 : 1 ≤ p) (hp2 : p ≤ 1000) (hm : m ≤ 1000) (hc : cnt ≤ 1000) (hD : H1 D = none)
    (hw : ∀ u, wipe ((wipe σ [8]).set 8 u) [8] = wipe σ [8]) (hv : ∀ u, ((wipe σ [8]).set 8 u)[0]? = some (some (.ref r)) ∧ ((wipe σ [8]).set 8 u)[4]? = some (some (.int p)) ∧ ((wipe σ [8]).set 8 u)[5]? = some (some (.int mv))) (hmv : mv = m)
    (hd : ∀ ws W H', But r H1 H' → RowAt K H' r sc ns → H' D = some (.lst ws) → Paired (RT H') ws W → W.length = cnt → (∀ x ∈ W, x.length = m ∧ In0 p x) → Qd H') :
    ∃ W : Nat → Nat → Hp → Prop, (∃ m, W 0 m (upd H1 D (.lst []))) ∧ ∀ i' m H, W i' m H →
      ((Itr 0 cnt).stop i' H ∧ Qd H) ∨ ((Itr 0 cnt).go i' H ∧ ∃ Nx : Hp → Prop, (∀ H', Nx H' → ∃ m', m' < m ∧ W (i' + 1) m' H') ∧ ∀ x H', (Itr 0 cnt).yld i' H x H' → gName 8 x (wipe σ [8]) H' fun σ2 H2 => wipe σ2 [8] = wipe σ [8] ∧ tYes σ2 H2 fun b H3 =>
        if b = true then teRow K σ2 H3 fun y H4 => ∃ acc, H4 D = some (.lst acc) ∧ acc.length < sizeLine ∧ Nx (upd H4 D (.lst (acc ++ [y]))) else Nx H3) := by
  subst hmv
  have nrD := R0.ne hD
  refine lc_range (lo := 0) (fun i H' => But r H1 H' ∧ RowAt K H' r sc ns ∧ ∃ ws W, H' D = some (.lst ws) ∧ Paired (RT H') ws W ∧ W.length = i ∧ ∀ x ∈ W, x.length = m ∧ In0 p x)
    ⟨Same.but (same_upd hD), R0.lay But.refl R0 hD, [], [], upd_same, .nil, rfl, fun _ h => nomatch h⟩ ?_ ?_
  · rintro i H2 hi ⟨b2, R2, ws, W, hws, hP, hl, hW⟩
    obtain ⟨e0, e4, e5⟩ := hv (some (.int (0 + (i : Int))))
    refine ⟨hw _, yesT ⟨_, e0, _, e4, _, e5, r, sc, ns, p, m, rfl, R2, hp1, hp2, hm, fun a x H3 R3 b3 ha hx hin => ?_⟩⟩
    have hws3 : H3 D = some (.lst ws) := b3 _ _ (Ne.symm nrD) hws
    have tk3 : Tk H2 H3 := b3.tk R2.tup
    have tk4 : Tk H3 (upd H3 D (.lst (ws ++ [.ref a]))) := (but_upd (r := D)).tk fun xs z => by rw [hws3] at z; cases z
    have b4 : But r H1 H3 := b2.trans b3
    refine ⟨ws, hws3, small1000 (by rw [plen hP]; omega), but_upd2 b4 hD, R0.lay b4 R3 hD, ws ++ [.ref a], W ++ [x], upd_same, psnoc (paired_tk (tk3.trans tk4) hP) ⟨a, rfl, tk4 _ _ ha⟩, by simp [hl], fun z hz => ?_⟩
    rcases List.mem_append.mp hz with h | h
    · exact hW z h
    · rw [List.mem_singleton.mp h]; exact ⟨hx, hin⟩
  · rintro H2 ⟨b2, R2, ws, W, hws, hP, hl, hW⟩
    exact hd ws W H2 b2 R2 hws hP hl hW
def spLMach (K : PySem.W.Frag) : Sp := fun vs H Q _ => ∃ (r sc t : Addr) (ns : List Int), vs = [.ref r, .ref t, .int 4, .int 3] ∧ RowAt K H r sc ns ∧ H t = some (.lst [.int 2, .int 3, .int 5, .int 7]) ∧
  ∀ mc st wr si p S W G H', RowAt K H' r sc ns → But r H H' → Mach H' mc st wr si p S W G → MOk p S W G → Q (.ref mc) H'
abbrev nMach : List Str := ["_law_row_here", "_law_primes", "_law_cells", "_law_plugs", "_law_prime", "_law_many", "_law_writes", "_law_sights", "_law_turn"]
section
variable {P : Program} {w : World} {K : PySem.W.Frag} {mg : Str → Option Value} {base : Heap}
theorem scMach : FnScope nMach ["_law_row_here", "_law_primes", "_law_cells", "_law_plugs"] (defScope sMach) := ⟨rfl, rfl, rfl, by decide +kernel, rfl, by decide +kernel, by decide +kernel⟩
theorem ok_lmach {f fT fP fR fS : Addr} {fd fdT fdP fdR fdS : FuncData} {psT psP psR psS : List Str} (F : Fun K "_law_machine" "_law_machine" sMach f fd) (T : TX mg) (CT : Cd K mg "_law_taken" fT fdT psT) (GT : FnOk P w K mg base CX0 1 fT fdT psT (spTaken K))
    (CP : Cd K mg "_law_pick" fP fdP psP) (GP : FnOk P w K mg base CX0 2 fP fdP psP (spPick K)) (CR : Cd K mg "_law_row" fR fdR psR) (GR : FnOk P w K mg base CX0 2 fR fdR psR (spLRow K)) (CS : Cd K mg "_law_stir" fS fdS psS) (GS : FnOk P w K mg base CX0 2 fS fdS psS (spStir K)) :
    FnOk P w K mg base CX0 3 f fd ["_law_row_here", "_law_primes", "_law_cells", "_law_plugs"] (spLMach K) := by
  refine F.ok scMach (fun vs H Q E h => ?_) (fun cdv A outer s H vs Q E hr h => ?_)
  · obtain ⟨r, sc, t, ns, rfl, _⟩ := h; rfl
  · obtain ⟨r, sc, t, ns, rfl, R0, ht, k⟩ := h
    have htr : t ≠ r := fun e => by
      obtain ⟨a, b, c, h, _⟩ := R0.ob
      rw [e, h] at ht
      have := HO.lst.inj (Option.some.inj ht)
      injection this with z _; cases z
    refine ⟨_, pss_cons (ps_asg (pe_tup (pa_cons (pe_call GP hr (by rfl) CP.m CP.k CP.b .nil pass0 (pa_cons (pv 0) (pa_cons (pv 1) pa_nil))) (pa_cons (pe_op op_add pe_int (pe_call GT (hr.mono (by decide)) (by rfl) CT.m CT.k CT.b .nil pass0 (pa_cons (pv 0) (pa_cons (pv 2) pa_nil)))) pa_nil)))
        (pg_tup rfl (pgs_cons (pg_name (i := 4) scMach.nd rfl (Or.inr rfl)) (pgs_cons (pg_name (i := 5) scMach.nd rfl (Or.inr rfl)) pgs_nil))))
      (pss_cons (ps_setLc (i := 6) (own := [("_law_turn", 8)]) (g := gName 8) (tt := tYes) (te := teRow K) rfl scMach.nd rfl rfl (sw_true rfl rfl rfl (by decide +kernel)) (pi_range1 (by rfl) T.range (pa_cons (pe_op op_add pe_int (pe_call GT (hr.mono (by decide)) (by rfl) CT.m CT.k CT.b .nil pass0 (pa_cons (pv 0) (pa_cons (pv 3) pa_nil)))) pa_nil))
        (blkOk_by (N := nMach) (sc := defScope sMach) (by decide +kernel))
        (fun _ _ _ _ _ => pg_name (i := 8) scMach.nd rfl (Or.inl rfl)) (fun _ _ _ _ _ => pts_nil)
        (fun _ _ _ _ _ => pe_call GR hr (by rfl) CR.m CR.k CR.b .nil pass0 (pa_cons (pv 0) (pa_cons (pv 4) (pa_cons (pv 5) pa_nil)))))
      (pss_cons (ps_setLc (i := 7) (own := [("_law_turn", 8)]) (g := gName 8) (tt := tYes) (te := teRow K) rfl scMach.nd rfl rfl (sw_true rfl rfl rfl (by decide +kernel)) (pi_range1 (by rfl) T.range (pa_cons (pe_op op_add pe_int (pe_call GT (hr.mono (by decide)) (by rfl) CT.m CT.k CT.b .nil pass0 (pa_cons (pv 0) (pa_cons (pv 3) pa_nil)))) pa_nil))
        (blkOk_by (N := nMach) (sc := defScope sMach) (by decide +kernel))
        (fun _ _ _ _ _ => pg_name (i := 8) scMach.nd rfl (Or.inl rfl)) (fun _ _ _ _ _ => pts_nil)
        (fun _ _ _ _ _ => pe_call GR hr (by rfl) CR.m CR.k CR.b .nil pass0 (pa_cons (pv 0) (pa_cons (pv 4) (pa_cons (pv 5) pa_nil)))))
      (pss_one (ps_ret (pe_tup (pa_cons (pv 4) (pa_cons (pe_call GS hr (by rfl) CS.m CS.k CS.b .nil pass0 (pa_cons (pv 0) (pa_cons (pv 4) (pa_cons (pv 5) pa_nil))))
        (pa_cons (pe_callTy call_tuple_of (by rfl) T.tuple b_tuple (pa_cons (pv 6) pa_nil)) (pa_cons (pe_callTy call_tuple_of (by rfl) T.tuple b_tuple (pa_cons (pv 7) pa_nil)) pa_nil))))))))), ?_⟩
    -- prime, many
    refine ⟨_, rfl, _, rfl, r, sc, t, ns, _, rfl, R0, ht, htr, by decide, by decide, fun v H1 hv R1 o1 => ⟨_, rfl, _, rfl, r, sc, ns, 4, rfl, R1, by decide, by decide, fun m H2 m0 m1 R2 o2 => ⟨_, _, rfl, rfl, by show 2 ≤ sizeLine; decide, fun l nl => ?_⟩⟩⟩
    obtain ⟨p, rfl, hp⟩ : ∃ p : Int, v = .int p ∧ PrimeOk p := by
      simp only [List.mem_cons, List.not_mem_nil, or_false] at hv
      rcases hv with h | h | h | h
      · exact ⟨_, h, .inl rfl⟩
      · exact ⟨_, h, .inr (.inl rfl)⟩
      · exact ⟨_, h, .inr (.inr (.inl rfl))⟩
      · exact ⟨_, h, .inr (.inr (.inr rfl))⟩
    have hp7 := hp.pos
    obtain ⟨n, hn⟩ : ∃ n : Nat, 1 + m = (n : Int) := ⟨(1 + m).toNat, by omega⟩
    have n1 : 1 ≤ n := by omega
    have n4 : n ≤ 4 := by omega
    have s3 := same_upd (o := .tup [.int p, .int (1 + m)]) nl
    refine ⟨l, _, rfl, SqT.of upd_same, rfl, _, _, rfl, _, _, rfl, rfl, ?_⟩
    have R3 := R2.same s3
    have b3 : But r H (upd H2 l (.tup [.int p, .int (1 + m)])) := ((Only.but o1).trans (Only.but o2)).trans (Same.but s3)
    generalize upd H2 l _ = H3 at R3 b3
    -- writes
    refine ⟨_, rfl, _, rfl, r, sc, ns, 3, rfl, R3, by decide, by decide, fun u H4 u0 u1 R4 o4 => ⟨_, _, rfl, rfl, 1 + u, rfl, by omega, by omega, fun D nD => ?_⟩⟩
    refine rows_lc R4 (by omega) (by omega) (by omega) (by omega) nD (fun _ => rfl) (fun _ => ⟨rfl, rfl, rfl⟩) hn fun ws W H5 b5 R5 hws hW hWl hWx => ?_
    -- sights
    refine ⟨_, rfl, _, rfl, r, sc, ns, 3, rfl, R5, by decide, by decide, fun z H6 z0 z1 R6 o6 => ⟨_, _, rfl, rfl, 1 + z, rfl, by omega, by omega, fun D2 nD2 => ?_⟩⟩
    refine rows_lc R6 (by omega) (by omega) (by omega) (by omega) nD2 (fun _ => rfl) (fun _ => ⟨rfl, rfl, rfl⟩) hn fun gs G H7 b7 R7 hgs hG hGl hGx => ?_
    have nrD : D ≠ r := (R4.ne nD).symm
    have nrD2 : D2 ≠ r := (R6.ne nD2).symm
    have hws6 : H6 D = some (.lst ws) := (o6 D nrD).trans hws
    have hws7 : H7 D = some (.lst ws) := b7 _ _ nrD hws6
    have tk67 : Tk H5 H7 := ((Only.but o6).tk R5.tup).trans (b7.tk R6.tup)
    -- the machine
    refine ⟨_, rfl, _, rfl, _, rfl, _, rfl, r, sc, ns, p, n, (by show [V.ref r, V.int p, V.int (1 + m)] = _; rw [hn]), R7, hp, n1, n4, fun st S H8 R8 b8 hS hSl hSg => ?_⟩
    have tk8 : Tk H7 H8 := b8.tk R7.tup
    refine ⟨_, rfl, D, ws, rfl, .inl ⟨SqL.of (b8 _ _ nrD hws7), fun wr nwr => ?_⟩⟩
    have s9 := same_upd (o := .tup ws) nwr
    refine ⟨_, rfl, D2, gs, rfl, .inl ⟨SqL.of (s9 _ _ (b8 _ _ nrD2 hgs)), fun si nsi => ?_⟩⟩
    have s10 := same_upd (o := .tup gs) nsi
    refine ⟨by show 4 ≤ sizeLine; decide, fun mc nmc => ?_⟩
    have s11 := same_upd (o := .tup [.int p, .ref st, .ref wr, .ref si]) nmc
    have S8 := (s9.trans s10).trans s11
    refine k mc st wr si p S W G _ (R8.same S8) ((((b3.trans (Only.but o4)).trans b5).trans (Only.but o6)).trans ((b7.trans b8).trans (Same.but S8))) ⟨upd_same, hS.tk (Same.tk S8), ⟨ws, s11 _ _ (s10 _ _ upd_same), paired_tk ((tk67.trans tk8).trans (Same.tk S8)) hW⟩, ⟨gs, s11 _ _ upd_same, paired_tk (tk8.trans (Same.tk S8)) hG⟩⟩ ?_
    exact { pr := hp, s1 := by omega, s4 := by omega, sg := by rw [hSl]; exact hSg, w1 := by omega, w4 := by omega, wg := by rw [hSl]; exact hWx, g1 := by omega, g4 := by omega, gg := by rw [hSl]; exact hGx }
end
end Dr
set_option maxRecDepth 100000
set_option maxHeartbeats 4000000
namespace Dr
open PySem PySem.Spec PyProof.Rows L2 DrG DrL NdefX
/-! ### the law's lambdas -/
def noE : Expr := .Constant .none 0 ⟨0, 0, 0, 0⟩
def lawSt (i : Nat) : Stmt := (defBody sLaw).getD i (.Pass ⟨0, 0, 0, 0⟩)
def lamE : Nat → Expr
  | 0 => match lawSt 5 with
    | .Assign _ (.List (a :: _) _) _ => a
    | _ => noE
  | 1 => match lawSt 5 with
    | .Assign _ (.List (_ :: a :: _) _) _ => a
    | _ => noE
  | 2 => match lawSt 6 with
    | .Expr (.Call _ (a :: _) _ _) _ => a
    | _ => noE
  | _ => match lawSt 7 with
    | .For _ (.BinOp _ _ (.List (a :: _) _) _) _ _ _ => a
    | _ => noE
def lP : Expr → Arguments
  | .Lambda p _ _ _ => p
  | _ => defArgs sLaw
def lB : Expr → Expr
  | .Lambda _ b _ _ => b
  | _ => noE
def lS : Expr → Scope
  | .Lambda _ _ s _ => s
  | _ => defScope sLaw
/-- the m-th lambda, by the cells of law's frame -/
def lmk (q : Str) (cells : List (Str × Addr)) (m : Nat) (c' : Addr) (dV : Value) : LF := ⟨⟨"<lambda>", q, lP (lamE m), [], lS (lamE m), cloFrom cells (lS (lamE m)).names [], c'⟩, lB (lamE m), dV⟩
def ldf : Nat → Option Int
  | 0 => none
  | _ => some 0
def lps : Nat → List Str
  | 0 => []
  | 1 => ["_law_a"]
  | 2 => ["_law_b"]
  | _ => ["_law_c"]
def lfr : Nat → List Str
  | 0 => ["_law_machine_here", "_law_store"]
  | 1 => ["_law_store"]
  | 2 => ["_law_machine_here", "_law_store"]
  | _ => ["_law_prime", "_law_row_here", "_law_store"]
def lws (m : Nat) (mc r s : Addr) (p : Int) : List (Option V) := match m with
  | 0 => [some (.ref mc), some (.ref s)]
  | 1 => [some (.ref s)]
  | 2 => [some (.ref mc), some (.ref s)]
  | _ => [some (.int p), some (.ref r), some (.ref s)]
def spL (K : PySem.W.Frag) (C B : Addr) (m : Nat) : List (Option V) → Hp → VK → XK → Prop := fun ws H Q E => ∃ (s mc st wr si : Addr) (p : Int) (S W G : List (List Int)) (me : Addr) (y : List Int) (h t : Int) (r sc : Addr) (ns : List Int),
  SO C H s mc st wr si p S W G me y h t ∧ RowAt K H r sc ns ∧ ws = lws m mc r s p ∧ ∀ H', RowAt K H' r sc ns → But r H H' → E (.ref B) none H'
theorem SO.but {K : PySem.W.Frag} {C : Addr} {H H' : Hp} {s mc st wr si : Addr} {p : Int} {S W G : List (List Int)} {me : Addr} {y : List Int} {h t : Int} {r sc : Addr} {ns : List Int} (o : SO C H s mc st wr si p S W G me y h t) (R : RowAt K H r sc ns) (b : But r H H') : SO C H' s mc st wr si p S W G me y h t := by
  obtain ⟨dx, z⟩ := o.ob
  obtain ⟨a, b', c, hr, _⟩ := R.ob
  have nsr : s ≠ r := fun e => by rw [e, hr] at z; cases z
  have tk : Tk H H' := b.tk R.tup
  exact ⟨⟨dx, b _ _ nsr z⟩, o.m.tk tk, o.ok, tk _ _ o.me, o.st⟩
section
variable {P : Program} {w : World} {K : PySem.W.Frag} {mg : Str → Option Value} {base : Heap}
theorem numB_over (n : Nat) : numB 0 ((n : Int) - 1) (.int (n : Nat)) = false := by
  show (decide (0 ≤ (n : Int)) && decide ((n : Int) ≤ (n : Int) - 1)) = false
  rw [decide_eq_false (show ¬ (n : Int) ≤ (n : Int) - 1 by omega), Bool.and_false]
theorem lok0 {C B : Addr} {q : Str} {cells : List (Str × Addr)} {f c' : Addr} {dV : Value} {fS : Addr} {fdS : FuncData} {psS : List Str} (T : TX mg) (X : SX K C) (mS : Meth K C "see" fS) (bS : Binds K fdS psS []) (GS : FnOk P w K mg base (L2.CX P w) 6 fS fdS psS (spSee C B)) :
    LOk P w K mg base (L2.CX P w) 7 f (lmk q cells 0 c' dV) (ldf 0) (lfr 0) (spL K C B 0) := by
  refine lok_of (N := ["_law_machine_here", "_law_store"]) (ps := lps 0) (nscope_by (sc := lS (lamE 0)) (by decide +kernel)) rfl (fun _ _ _ => rfl) (fun i e => nomatch e) (fun A outer s0 H ws Q E hr hl h => ?_)
  obtain ⟨s, mc, st, wr, si, p, S, W, G, me, y, h, t, r, sc, ns, O, R, rfl, k⟩ := h
  obtain ⟨dx, hs⟩ := O.ob
  obtain ⟨gs, hg, hG⟩ := O.m.g
  refine ⟨_, pe_meth (pv 1) X.cl mS GS hr bS .nil (passes_call (takes_of rfl rfl rfl rfl) (fun _ _ _ _ h => h)) (pa_cons (pe_callB call_len_seq (by rfl) T.len PySem.boot_len (pa_cons (pe_ix ix_tup (pv 0) pe_int (fun _ _ => rfl)) pa_nil)) pa_nil), ?_⟩
  refine ⟨_, rfl, s, dx, _, rfl, hs, fl_no (by decide +kernel) (by decide +kernel) (by decide +kernel) (by decide +kernel), _, rfl, mc, _, _, _, rfl, rfl, SqT.of O.m.ob, rfl, si, _, rfl, .inr (SqT.of hg), ?_⟩
  exact ⟨s, mc, st, wr, si, p, S, W, G, me, y, h, t, _, rfl, O, .inr (.inr ⟨_, rfl⟩), .inr ⟨by rw [← plen hG]; exact numB_over _, k H R But.refl⟩⟩
theorem lok1 {C B : Addr} {q : Str} {cells : List (Str × Addr)} {f c' : Addr} {dV : Value} {fS : Addr} {fdS : FuncData} {psS : List Str} {ds : List Value} (X : SX K C) (mS : Meth K C "join" fS) (bS : Binds K fdS psS ds) (vS : Vals [.bl false] ds) (GS : FnOk P w K mg base (L2.CX P w) 6 fS fdS psS (spJoin C B)) :
    LOk P w K mg base (L2.CX P w) 7 f (lmk q cells 1 c' dV) (ldf 1) (lfr 1) (spL K C B 1) := by
  refine lok_of (N := ["_law_a", "_law_store"]) (ps := lps 1) (nscope_by (sc := lS (lamE 1)) (by decide +kernel)) rfl (fun e => nomatch e) (fun i _ T pm ctv => ⟨_, rfl, fun its hl => match its, hl with | [_], _ => rfl⟩) (fun A outer s0 H ws Q E hr hl h => ?_)
  obtain ⟨s, mc, st, wr, si, p, S, W, G, me, y, h, t, r, sc, ns, O, R, rfl, k⟩ := h
  obtain ⟨dx, hs⟩ := O.ob
  refine ⟨_, pe_meth (pv 1) X.cl mS GS hr bS vS (passes_call (takes_of rfl rfl rfl rfl) (fun _ _ _ _ h => h)) (pa_cons pe_non pa_nil), ?_⟩
  refine ⟨_, rfl, s, dx, _, rfl, hs, fl_no (by decide +kernel) (by decide +kernel) (by decide +kernel) (by decide +kernel), ?_⟩
  exact ⟨s, mc, st, wr, si, p, S, W, G, me, y, h, t, .non, false, rfl, O, .inl rfl, .inr ⟨rfl, k H R But.refl⟩⟩
theorem lok2 {C B : Addr} {q : Str} {cells : List (Str × Addr)} {f c' : Addr} {dV : Value} {fS : Addr} {fdS : FuncData} {psS : List Str} (T : TX mg) (X : SX K C) (mS : Meth K C "write" fS) (bS : Binds K fdS psS []) (GS : FnOk P w K mg base (L2.CX P w) 6 fS fdS psS (spWrite C B)) :
    LOk P w K mg base (L2.CX P w) 7 f (lmk q cells 2 c' dV) (ldf 2) (lfr 2) (spL K C B 2) := by
  refine lok_of (N := ["_law_b", "_law_machine_here", "_law_store"]) (ps := lps 2) (nscope_by (sc := lS (lamE 2)) (by decide +kernel)) rfl (fun e => nomatch e) (fun i _ T pm ctv => ⟨_, rfl, fun its hl => match its, hl with | [_], _ => rfl⟩) (fun A outer s0 H ws Q E hr hl h => ?_)
  obtain ⟨s, mc, st, wr, si, p, S, W, G, me, y, h, t, r, sc, ns, O, R, rfl, k⟩ := h
  obtain ⟨dx, hs⟩ := O.ob
  obtain ⟨gs, hg, hG⟩ := O.m.w
  refine ⟨_, pe_meth (pv 2) X.cl mS GS hr bS .nil (passes_call (takes_of rfl rfl rfl rfl) (fun _ _ _ _ h => h)) (pa_cons (pe_callB call_len_seq (by rfl) T.len PySem.boot_len (pa_cons (pe_ix ix_tup (pv 1) pe_int (fun _ _ => rfl)) pa_nil)) (pa_cons pe_bl pa_nil)), ?_⟩
  refine ⟨_, rfl, s, dx, _, rfl, hs, fl_no (by decide +kernel) (by decide +kernel) (by decide +kernel) (by decide +kernel), _, rfl, mc, _, _, _, rfl, rfl, SqT.of O.m.ob, rfl, wr, _, rfl, .inr (SqT.of hg), ?_⟩
  exact ⟨s, mc, st, wr, si, p, S, W, G, me, y, h, t, _, true, rfl, O, .inr (.inr ⟨_, rfl⟩), .inr ⟨by rw [← plen hG]; exact numB_over _, k H R But.refl⟩⟩
theorem lok3 {C B : Addr} {q : Str} {cells : List (Str × Addr)} {f c' : Addr} {dV : Value} {fS fP : Addr} {fdS fdP : FuncData} {psS psP : List Str} (X : SX K C) (mS : Meth K C "put" fS) (bS : Binds K fdS psS []) (GS : FnOk P w K mg base (L2.CX P w) 6 fS fdS psS (spPut C B))
    (CP : Cd K mg "_law_pick" fP fdP psP) (GP : FnOk P w K mg base CX0 2 fP fdP psP (spPick K)) : LOk P w K mg base (L2.CX P w) 7 f (lmk q cells 3 c' dV) (ldf 3) (lfr 3) (spL K C B 3) := by
  refine lok_of (N := ["_law_c", "_law_prime", "_law_row_here", "_law_store"]) (ps := lps 3) (nscope_by (sc := lS (lamE 3)) (by decide +kernel)) rfl (fun e => nomatch e) (fun i _ T pm ctv => ⟨_, rfl, fun its hl => match its, hl with | [_], _ => rfl⟩) (fun A outer s0 H ws Q E hr hl h => ?_)
  obtain ⟨s, mc, st, wr, si, p, S, W, G, me, y, h, t, r, sc, ns, O, R, rfl, k⟩ := h
  obtain ⟨dx, hs⟩ := O.ob
  refine ⟨_, pe_meth (pv 3) X.cl mS GS hr bS .nil (passes_call (takes_of rfl rfl rfl rfl) (fun _ _ _ _ h => h)) (pa_cons (pe_call GP (hr.mono (by decide)) (by rfl) CP.m CP.k CP.b .nil pass0 (pa_cons (pv 2) (pa_cons (pe_lst (pa_cons (pv 1) (pa_cons (pe_op op_sub pe_int pe_int) (pa_cons pe_non (pa_cons pe_bl pa_nil))))) pa_nil))) pa_nil), ?_⟩
  refine ⟨_, rfl, s, dx, _, rfl, hs, fl_no (by decide +kernel) (by decide +kernel) (by decide +kernel) (by decide +kernel), _, rfl, _, rfl, _, _, rfl, rfl, by show 4 ≤ sizeLine; decide, fun l nl => ?_⟩
  have s1 := same_upd (o := .lst [.int p, .int (0 - 1), .non, .bl true]) nl
  refine ⟨r, sc, l, ns, _, rfl, R.same s1, upd_same, (R.ne nl).symm, by show 1 ≤ 4; decide, by show 4 ≤ 1000; decide, fun v H2 hv R2 o2 => ?_⟩
  have b2 : But r H H2 := (Same.but s1).trans (Only.but o2)
  have O2 := O.but R b2
  have hv2 : Flat v ∧ numB 0 (p - 1) v = false := by
    simp only [List.mem_cons, List.not_mem_nil, or_false] at hv
    rcases hv with rfl | rfl | rfl | rfl
    · refine ⟨.inr (.inr ⟨_, rfl⟩), ?_⟩
      show (decide (0 ≤ p) && decide (p ≤ p - 1)) = false
      rw [decide_eq_false (show ¬ p ≤ p - 1 by omega), Bool.and_false]
    · exact ⟨.inr (.inr ⟨_, rfl⟩), rfl⟩
    · exact ⟨.inl rfl, rfl⟩
    · exact ⟨.inr (.inl ⟨_, rfl⟩), rfl⟩
  exact ⟨s, mc, st, wr, si, p, S, W, G, me, y, h, t, v, rfl, O2, hv2.1, .inr ⟨hv2.2, k H2 R2 b2⟩⟩
end
end Dr
set_option maxRecDepth 100000
set_option maxHeartbeats 4000000
namespace Dr
open PySem PySem.Spec PyProof.Rows L2 DrG DrL NdefX
/-! ### what the law's loop keeps -/
theorem RowAt.nr {K : PySem.W.Frag} {H : Hp} {r sc : Addr} {ns : List Int} (R : RowAt K H r sc ns) {a : Addr} {o : HO} (h : H a = some o) (n : ∀ xs, o ≠ .lst xs) : a ≠ r := fun e => by
  obtain ⟨x, y, z, q, _⟩ := R.ob
  rw [e, q] at h
  exact n _ (Option.some.inj h).symm
/-- rows stay where all but a thing that is no list stays -/
theorem RowAt.but' {K : PySem.W.Frag} {H H' : Hp} {r sc s : Addr} {ns : List Int} (R : RowAt K H r sc ns) (b : But s H H') (n : ∀ o, H s = some o → ∀ xs, o ≠ .lst xs ∧ ∀ q, o ≠ .frz q (.lst xs)) : RowAt K H' r sc ns := by
  obtain ⟨x, y, z, q, e⟩ := R.ob
  refine ⟨⟨x, y, z, b _ _ (fun ee => (n _ (ee ▸ q) _).1 rfl) q, e⟩, ?_⟩
  rcases R.sq with (z | ⟨o, z⟩) | z
  · exact .inl (.inl (b _ _ (fun ee => (n _ (ee ▸ z) _).1 rfl) z))
  · exact .inl (.inr ⟨o, b _ _ (fun ee => (n _ (ee ▸ z) _).2 _ rfl) z⟩)
  · exact .inr z
structure LV (K : PySem.W.Frag) (C r sc : Addr) (ns : List Int) (PL s mc st wr si : Addr) (p : Int) (S W G : List (List Int)) (H : Hp) (lm me : Addr) (y : List Int) (h t : Int) : Prop where
  so : SO C H s mc st wr si p S W G me y h t
  lm : IT H lm y
  R : RowAt K H r sc ns
  tb : H PL = some (.tbl #[])
section
variable {K : PySem.W.Frag} {C r sc : Addr} {ns : List Int} {PL s mc st wr si : Addr} {p : Int} {S W G : List (List Int)} {H H' : Hp} {lm me : Addr} {y : List Int} {h t : Int}
theorem LV.but (L : LV K C r sc ns PL s mc st wr si p S W G H lm me y h t) (b : But r H H') (R : RowAt K H' r sc ns) : LV K C r sc ns PL s mc st wr si p S W G H' lm me y h t :=
  ⟨L.so.but L.R b, b.tk L.R.tup _ _ L.lm, R, b _ _ (L.R.nr L.tb (fun _ e => nomatch e)) L.tb⟩
theorem LV.same (L : LV K C r sc ns PL s mc st wr si p S W G H lm me y h t) (e : Same H H') : LV K C r sc ns PL s mc st wr si p S W G H' lm me y h t := L.but (Same.but e) (L.R.same e)
theorem LV.after (L : LV K C r sc ns PL s mc st wr si p S W G H lm me y h t) {b me' : Addr} {y' : List Int} {h' t' : Int} (hb : IT H b y') (e : But s H H') (O : SO C H' s mc st wr si p S W G me' y' h' t') : LV K C r sc ns PL s mc st wr si p S W G H' b me' y' h' t' := by
  obtain ⟨dx, hs⟩ := L.so.ob
  have tk : Tk H H' := e.tk L.so.nt
  refine ⟨O, tk _ _ hb, L.R.but' e (fun o z xs => ?_), e _ _ (fun z => ?_) L.tb⟩
  · rw [hs] at z
    obtain rfl := Option.some.inj z
    exact ⟨fun e => (nomatch e), fun q e => (nomatch e)⟩
  · have q := L.tb
    rw [z, hs] at q; cases q
end
/-! ### the end of a turn -/
theorem lk0 : ∀ y : List Int, ∀ H : Hp, Paired (Lk 0 H) (y.map V.int) (y.map V.int)
  | [], _ => .nil
  | n :: y, H => .cons ⟨n, rfl, rfl⟩ (lk0 y H)
abbrev tProps (C : Addr) : TA := tCons (tProp C (getSp C "ticks") [] E0 (tVar 16)) (tCons (tProp C (getSp C "cells") [] E0 (tVar 16)) (tCons (tProp C (getSp C "finger") [] E0 (tVar 16)) tNil))
theorem turn_end {K : PySem.W.Frag} {C r sc : Addr} {ns : List Int} {PL s mc st wr si : Addr} {p : Int} {S W G : List (List Int)} {H : Hp} {lm me : Addr} {y : List Int} {h t u : Int} {σ : L2.St} {D : Ends} (L : LV K C r sc ns PL s mc st wr si p S W G H lm me y h t) (h4 : S.length ≤ 4)
    (e16 : σ[16]? = some (some (.ref s))) (e3 : σ[3]? = some (some (.int u))) (e1 : σ[1]? = some (some (.ref lm))) (e2 : σ[2]? = some (some (.int h))) (ht : t = u + 1) (k : ∀ H', Same H H' → D.nx σ H') :
    tIfS (tNot (tB (tCall (spAlike 2) [] E0 (tCons (tLst (tProps C)) (tCons (tLst (tCons (tOp rAdd (tVar 3) (tC (.int 1))) (tCons (tVar 1) (tCons (tVar 2) tNil)))) tNil))))) (tRet (tC (.bl false))) tNext D σ H := by
  subst ht
  obtain ⟨dx, hs⟩ := L.so.ob
  refine ⟨_, e16, s, dx, _, rfl, hs, s, dx, _, _, rfl, hs, fl_t, _, e16, s, dx, _, rfl, hs, s, dx, _, _, rfl, hs, fl_c, _, e16, s, dx, _, rfl, hs, s, dx, _, _, rfl, hs, fl_f, by show 3 ≤ sizeLine; decide, fun a na => ?_⟩
  refine ⟨_, e3, _, _, rfl, rfl, _, e1, _, e2, by show 3 ≤ sizeLine; decide, fun b nb => ?_⟩
  have s1 := same_upd (o := .lst [.int (u + 1), .ref me, .int h]) na
  have s2 := same_upd (o := .lst [.int (u + 1), .ref lm, .int h]) nb
  have s12 := s1.trans s2
  refine ⟨.ref a, .ref b, rfl, .inr ⟨a, b, [.int (u + 1), .ref me, .int h], [.int (u + 1), .ref lm, .int h], rfl, rfl, .inr ⟨s2 _ _ upd_same, upd_same⟩, by show 3 ≤ 1000; decide, ?_⟩, fun H' s3 => ⟨true, rfl, iteF (k H' (s12.trans s3))⟩⟩
  refine .cons (.inl ⟨_, rfl, rfl⟩) (.cons (.inr ⟨me, lm, _, _, rfl, rfl, .inl ⟨s12 _ _ L.so.me, s12 _ _ L.lm⟩, ?_, lk0 y _⟩) (.cons (.inl ⟨_, rfl, rfl⟩) .nil))
  rw [List.length_map, L.so.st.l]; omega
end Dr
set_option maxRecDepth 100000
set_option maxHeartbeats 8000000
namespace Dr
open PySem PySem.Spec PyProof.Rows L2 DrG DrL NdefX
/-- what the law's walk asks of the rest of the program -/
structure LawX (P : Program) (w : World) (K : PySem.W.Frag) (mg : Str → Option Value) (base : Heap) (C B p1 p2 : Addr) : Prop where
  tx : TX mg
  taken : ∃ f fd ps, Cd K mg "_law_taken" f fd ps ∧ FnOk P w K mg base CX0 1 f fd ps (spTaken K)
  pick : ∃ f fd ps, Cd K mg "_law_pick" f fd ps ∧ FnOk P w K mg base CX0 2 f fd ps (spPick K)
  mach : ∃ f fd ps, Cd K mg "_law_machine" f fd ps ∧ FnOk P w K mg base CX0 3 f fd ps (spLMach K)
  deed : ∃ f fd ps, Cd K mg "_law_deed" f fd ps ∧ FnOk P w K mg base CX0 3 f fd ps spDone
  alike : ∃ f fd ps, Cd K mg "_law_alike" f fd ps ∧ FnOk P w K mg base CX0 3 f fd ps (spAlike 2)
  gC : mg "Store" = some (.ref C)
  make : ∃ f fd ps, Mk K C f ∧ Binds K fd ps [] ∧ FnOk P w K mg base CX0 7 f fd ps (spInit p1 p2 C)
  sx : SX K C
  bx : BX K mg B
  te : PySem.W.exmOne K (.ref B) (.ref B) = some true
  see : ∃ f fd ps, Meth K C "see" f ∧ Binds K fd ps [] ∧ FnOk P w K mg base (L2.CX P w) 6 f fd ps (spSee C B)
  join : ∃ f fd ps ds, Meth K C "join" f ∧ Binds K fd ps [] ∧ Binds K fd ps ds ∧ Vals [.bl false] ds ∧ FnOk P w K mg base (L2.CX P w) 6 f fd ps (spJoin C B)
  write : ∃ f fd ps, Meth K C "write" f ∧ Binds K fd ps [] ∧ FnOk P w K mg base (L2.CX P w) 6 f fd ps (spWrite C B)
  put : ∃ f fd ps, Meth K C "put" f ∧ Binds K fd ps [] ∧ FnOk P w K mg base (L2.CX P w) 6 f fd ps (spPut C B)
  wait : ∃ f fd ps, Meth K C "wait" f ∧ Binds K fd ps [] ∧ FnOk P w K mg base CX0 6 f fd ps (spWait C)
  tick : ∃ a f fd ps, PropOf K C "tick" a f ∧ Binds K fd ps [] ∧ FnOk P w K mg base CX0 1 f fd ps (getSp C "ticks")
  held : ∃ a f fd ps, PropOf K C "held" a f ∧ Binds K fd ps [] ∧ FnOk P w K mg base CX0 1 f fd ps (getSp C "cells")
  own : ∃ a f fd ps, PropOf K C "own" a f ∧ Binds K fd ps [] ∧ FnOk P w K mg base CX0 1 f fd ps (getSp C "finger")
theorem passF {P : Program} {w : World} {X : Cx} : Passes (L2.CX P w) X (fun _ _ _ => False) := fun _ _ _ _ _ _ _ ⟨_, _, _, _, _, _, _, _, _, _, _, _, z⟩ => z.elim
theorem ok_codeN {P : Program} {w : World} {K : PySem.W.Frag} {mg : Str → Option Value} {base : Heap} {x qual : Str} {st : Stmt} {f : Addr} {fd : FuncData} {N ps : List Str} {k : Nat} {sp : Sp} (F : Fun K x qual st f fd) (S : FnScope N ps (defScope st)) (len : ∀ vs H Q E, sp vs H Q E → vs.length = ps.length)
    (hbody : ∀ (cdv : Value) (_ : fd.code = cdv) (A : Around) (outer : List Env) (s : Shared) (H : Hp) (vs : List V) (Q : VK) (E : XK), Room k (A.deeper (envOfC qual (defScope st) s.heap.objs.size f cdv)) → sp vs H Q E →
      ∃ t, PSs (cxOf CX0 P w K mg base N qual (defScope st) f cdv A outer s H E).nox (defBody st) t ∧ t { nx := fun _ H' => Q .non H', rt := Q } (start N vs) H) : FnOk P w K mg base CX0 (k + 1) f fd ps sp := by
  refine ok_code F S len fun cdv hc A outer s H vs Q E hr hsp => ?_
  obtain ⟨t, h, q⟩ := hbody cdv hc A outer s H vs Q E hr hsp
  exact ⟨t, h.nox, q⟩
def spLaw (K : PySem.W.Frag) (PL p1 p2 : Addr) : Sp := fun vs H Q _ => ∃ (sc : Addr) (ns : List Int), vs = [.ref sc] ∧ SqL K H sc (ns.map V.int) ∧ H PL = some (.tbl #[]) ∧ H p1 = some (.tbl #[]) ∧ H p2 = some (.tbl #[]) ∧ ∀ H', Q (.bl true) H'
abbrev nLaw : List Str := ["_law_script", "_law_memory", "_law_hand", "_law_turn", "_law_way", "_law_plug", "_law_sight", "_law_number", "_law_deeds", "_law_words", "_law_works", "_law_work", "e", "_law_machine_here", "_law_prime", "_law_row_here", "_law_store"]
abbrev qL : Str := Str.ofString "law" ++ ".<locals>." ++ "<lambda>"
theorem lfree : ∀ m, m < 4 → ∀ y ∈ (lS (lamE m)).names, y.2 = .free → (defScope sLaw).names.lookup y.1 = some .cell ∨ (defScope sLaw).names.lookup y.1 = some .free := by decide +kernel
theorem lfrok : ∀ m, m < 4 → ∀ y ∈ lfr m, (y, NameKind.free) ∈ (lS (lamE m)).names := by decide +kernel
def ljs : Nat → List Nat
  | 0 => [13, 16]
  | 1 => [16]
  | 2 => [13, 16]
  | _ => [14, 15, 16]
theorem ljsok : ∀ m, m < 4 → (ljs m).map (fun j => nLaw[j]?) = (lfr m).map some := by decide +kernel
section
variable {P : Program} {w : World} {K : PySem.W.Frag} {mg : Str → Option Value} {base : Heap}
theorem scLaw : FnScope nLaw ["_law_script"] (defScope sLaw) := ⟨rfl, rfl, rfl, by decide +kernel, rfl, by decide +kernel, by decide +kernel⟩
theorem RowAt.st {K : PySem.W.Frag} {H H' : Hp} {r sc : Addr} {ns : List Int} (R : RowAt K H r sc ns) (k : ∀ b xs, H b = some (.lst xs) → H' b = some (.lst xs)) (k2 : ∀ b o xs, H b = some (.frz o (.lst xs)) → H' b = some (.frz o (.lst xs))) : RowAt K H' r sc ns := by
  obtain ⟨x, y, z, q, e⟩ := R.ob
  refine ⟨⟨x, y, z, k _ _ q, e⟩, ?_⟩
  rcases R.sq with (z | ⟨o, z⟩) | z
  · exact .inl (.inl (k _ _ z))
  · exact .inl (.inr ⟨o, k2 _ _ _ z⟩)
  · exact .inr z
theorem SO.at_ {C : Addr} {H H' : Hp} {s mc st wr si : Addr} {p : Int} {S W G : List (List Int)} {me : Addr} {y : List Int} {h t : Int} (o : SO C H s mc st wr si p S W G me y h t) (e : ∀ u, H s = some u → H' s = some u) (tk : Tk H H') : SO C H' s mc st wr si p S W G me y h t :=
  ⟨let ⟨dx, z⟩ := o.ob; ⟨dx, e _ z⟩, o.m.tk tk, o.ok, tk _ _ o.me, o.st⟩

/-! ### behind the turns: what stands of the heap at their end -/
def BN (r : Addr) (Hb H : Hp) : Prop := ∀ b o, b ≠ r → Hb b = some o → (∀ ps, o ≠ .tbl ps) → H b = some o
theorem RowAt.reN {K : PySem.W.Frag} {H H1 H' : Hp} {r sc : Addr} {ns : List Int} (R : RowAt K H r sc ns) (b : BN r H H') (R1 : RowAt K H1 r sc ns) (e : H' r = H1 r) : RowAt K H' r sc ns := by
  obtain ⟨a0, b0, c0, h0, _⟩ := R.ob
  obtain ⟨a1, b1, c1, h1, q1⟩ := R1.ob
  refine ⟨⟨a1, b1, c1, e.trans h1, q1⟩, ?_⟩
  rcases R.sq with (z | ⟨o, z⟩) | z
  · refine .inl (.inl (b sc _ (fun ee => ?_) z (fun _ q => nomatch q)))
    rw [ee, h0] at z
    have z' : [V.ref sc, .int a0, .int b0, .int c0] = ns.map V.int := HO.lst.inj (Option.some.inj z)
    cases ns with
    | nil => cases z'
    | cons n ns => injection z' with z1 _; cases z1
  · refine .inl (.inr ⟨o, b sc _ (fun ee => ?_) z (fun _ q => nomatch q)⟩)
    rw [ee, h0] at z
    cases z
  · exact .inr z
structure LW (K : PySem.W.Frag) (r sc : Addr) (ns : List Int) (Hb H : Hp) : Prop where
  bn : BN r Hb H
  fr : ∀ b, H b = none → Hb b = none
  R : RowAt K H r sc ns
/-- all but lists and tables stay -/
def KL (H H' : Hp) : Prop := ∀ b o, H b = some o → (∀ xs, o ≠ .lst xs) → (∀ ps, o ≠ .tbl ps) → H' b = some o
theorem KL.trans {H H1 H2 : Hp} (a : KL H H1) (b : KL H1 H2) : KL H H2 := fun c o h n m => b c o (a c o h n m) n m
theorem KL.same {H H1 : Hp} (s : Same H H1) : KL H H1 := fun c o h _ _ => s c o h
theorem KL.ext {H H1 : Hp} (s : LamX.ExtN H H1) : KL H H1 := fun c o h _ m => s c o h m
theorem KL.set {H : Hp} {l : Addr} {xs : List V} {o : HO} (h : H l = some (.lst xs)) : KL H (upd H l o) := fun c u e n _ => (upd_ne (fun z => by rw [z, h] at e; exact n _ (Option.some.inj e).symm)).trans e
section
variable {K : PySem.W.Frag} {r sc : Addr} {ns : List Int} {Hb H H1 : Hp}
theorem LW.set (R0 : RowAt K Hb r sc ns) (L : LW K r sc ns Hb H) {l : Addr} {o : HO} (n : Hb l = none) : LW K r sc ns Hb (upd H l o) := by
  have bn : BN r Hb (upd H l o) := fun b u nb e t => (upd_ne (ne_of_none e n)).trans (L.bn b u nb e t)
  exact ⟨bn, fun b e => L.fr b (NdefX.upd_none e), R0.reN bn L.R (upd_ne (R0.ne n))⟩
theorem LW.new (R0 : RowAt K Hb r sc ns) (L : LW K r sc ns Hb H) {l : Addr} {o : HO} (n : H l = none) : LW K r sc ns Hb (upd H l o) := L.set R0 (L.fr _ n)
theorem LW.ext (L : LW K r sc ns Hb H) (e : LamX.ExtN H H1) (m : ∀ b, H1 b = none → H b = none) : LW K r sc ns Hb H1 :=
  ⟨fun b u nb h t => e _ _ (L.bn b u nb h t) t, fun b h => L.fr b (m b h), L.R.st (fun b xs h => e _ _ h (fun _ z => nomatch z)) (fun b o xs h => e _ _ h (fun _ z => nomatch z))⟩
theorem LW.but (L : LW K r sc ns Hb H) (b : But r H H1) (R : RowAt K H1 r sc ns) : LW K r sc ns Hb H1 :=
  ⟨fun c u nb h t => b _ _ nb (L.bn c u nb h t), fun c h => L.fr c (b.free (fun z => by obtain ⟨x, y, w, q, _⟩ := R.ob; rw [z, q] at h; cases h) h), R⟩
theorem KL.but (R : RowAt K H r sc ns) (b : But r H H1) : KL H H1 := fun c o h n _ => b c o (R.nr h n) h
theorem LW.so (R0 : RowAt K Hb r sc ns) (L : LW K r sc ns Hb H) {C s mc st wr si : Addr} {p : Int} {S W G : List (List Int)} {me : Addr} {y : List Int} {h t : Int} (o : SO C Hb s mc st wr si p S W G me y h t) : SO C H s mc st wr si p S W G me y h t := by
  obtain ⟨dx, z⟩ := o.ob
  have tk : Tk Hb H := fun b xs e => L.bn b _ (R0.nr e (fun _ q => nomatch q)) e (fun _ q => nomatch q)
  exact ⟨⟨dx, L.bn _ _ (R0.nr z (fun _ q => nomatch q)) z (fun _ q => nomatch q)⟩, o.m.tk tk, o.ok, tk _ _ o.me, o.st⟩
end
theorem tabs_upl {T : List (Addr × Str)} {H : Hp} {l : Addr} {xs : List V} {o : HO} (t : LamX.Tabs T H) (h : H l = some (.lst xs)) : LamX.Tabs T (upd H l o) := fun q hq => by
  obtain ⟨ps, e1, e2, e3⟩ := t q hq
  have ne : ∀ {a : Addr} {u : HO}, H a = some u → (∀ xs, u ≠ .lst xs) → upd H l o a = some u := fun {a u} e n => (upd_ne (fun z => by rw [z, h] at e; exact n _ (Option.some.inj e).symm)).trans e
  refine ⟨ps, ne e1 (fun _ z => nomatch z), e2, fun pos cv hc => ?_⟩
  obtain ⟨c, h1, h2⟩ := e3 pos cv hc
  exact ⟨c, h1, ne h2 (fun _ z => by unfold LamX.CodeO at z; cases z)⟩
def LamAt (cells : List (Str × Addr)) (H : Hp) (m : Nat) (f : Addr) : Prop := ∃ (c' : Addr) (dV : Value), H f = some (LamO f (lmk qL cells m c' dV)) ∧ H c' = some (LamX.CodeO c' qL) ∧ DvAt H dV (ldf m)
theorem LamAt.kl {cells : List (Str × Addr)} {H H1 : Hp} {m : Nat} {f : Addr} (L : LamAt cells H m f) (k : KL H H1) : LamAt cells H1 m f := by
  obtain ⟨c, dV, e1, e2, e3⟩ := L
  refine ⟨c, dV, k _ _ e1 (fun _ z => by unfold LamO at z; cases z) (fun _ => lamO_ne _), k _ _ e2 (fun _ z => by unfold LamX.CodeO at z; cases z) (fun _ z => by unfold LamX.CodeO at z; cases z), e3.ext fun b xs e => k _ _ e (fun _ z => nomatch z) (fun _ z => nomatch z)⟩
theorem canLay_ints : ∀ y : List Int, PyData.canLayAll0 (y.map PyData.int) = true
  | [] => rfl
  | _ :: r => by simp [PyData.canLayAll0, PyData.canLay0, canLay_ints r]
theorem depth_ints : ∀ y : List Int, PyData.depthAll (y.map PyData.int) = 0
  | [] => rfl
  | _ :: r => by simp [PyData.depthAll, PyData.depth, depth_ints r]
theorem shaped_ints (y : List Int) : SeqAt.shaped (.tuple (y.map PyData.int)) = true := by
  simp [SeqAt.shaped, PyData.canLay0, PyData.depth, canLay_ints, depth_ints]
theorem dp_ints {K : PySem.W.Frag} {H : Hp} : ∀ y : List Int, DpAll K H (y.map V.int) (y.map PyData.int)
  | [] => .nil
  | n :: y => .cons (.int n) (dp_ints y)
theorem eqv_ints : ∀ y : List Int, PyData.eqvAll (y.map PyData.int) (y.map PyData.int) = true
  | [] => rfl
  | n :: y => by simp [PyData.eqvAll, PyData.eqv, eqv_ints y]
theorem ok_law {C B PL p1 p2 : Addr} {f : Addr} {fd : FuncData} (F : Fun K "law" "law" sLaw f fd) (LX : LawX P w K mg base C B p1 p2) (HT : HasTab base mg fd PL) (n1 : PL ≠ p1) (n2 : PL ≠ p2) : FnOk P w K mg base CX0 9 f fd ["_law_script"] (spLaw K PL p1 p2) := by
  obtain ⟨cL, hcd, TBG⟩ := HT.ex
  have TBL : LamX.TabB base mg cL PL := ⟨TBG.code, TBG.bm, TBG.gP⟩
  have T := LX.tx
  have X := LX.sx
  obtain ⟨fT, fdT, psT, CT, GT⟩ := LX.taken
  obtain ⟨fPk, fdPk, psPk, CPk, GPk⟩ := LX.pick
  obtain ⟨fM, fdM, psM, CM, GM⟩ := LX.mach
  obtain ⟨fD, fdD, psD, CD, GD⟩ := LX.deed
  obtain ⟨fA, fdA, psA, CA, GA⟩ := LX.alike
  obtain ⟨fI, fdI, psI, MK, bI, GI⟩ := LX.make
  obtain ⟨fS, fdS, psS, mSee, bSee, GSee⟩ := LX.see
  obtain ⟨fJ, fdJ, psJ, dsJ, mJ, bJ, bJ2, vJ, GJ⟩ := LX.join
  obtain ⟨fW, fdW, psW, mW, bW, GW⟩ := LX.write
  obtain ⟨fP, fdP, psP, mP, bP, GP⟩ := LX.put
  obtain ⟨fWt, fdWt, psWt, mWt, bWt, GWt⟩ := LX.wait
  obtain ⟨aT, fTk, fdTk, psTk, mT, bT, GTk⟩ := LX.tick
  obtain ⟨aH, fH, fdH, psH, mH, bH, GH⟩ := LX.held
  obtain ⟨aO, fO, fdO, psO, mO, bO, GO⟩ := LX.own
  refine ok_codeN F scLaw (fun vs H Q E h => ?_) (fun cdv hcv A outer s0 H vs Q E hr h => ?_)
  · obtain ⟨sc, ns, rfl, _⟩ := h; rfl
  · obtain ⟨sc, ns, rfl, hS, hPL, hp1, hp2, k⟩ := h
    have hcc : cdv = .ref cL := hcv.symm.trans hcd
    let cells := cellsFrom (s0.heap.objs.size + 1) (defScope sLaw).names []
    have LO : ∀ m f c' dV, m < 4 → LOk P w K mg base (L2.CX P w) 7 f (lmk qL cells m c' dV) (ldf m) (lfr m) (spL K C B m) := fun m f c' dV hm => match m, hm with
      | 0, _ => lok0 T X mSee bSee GSee
      | 1, _ => lok1 X mJ bJ2 vJ GJ
      | 2, _ => lok2 T X mW bW GW
      | 3, _ => lok3 X mP bP GP CPk GPk
    refine ⟨_, (pss_cons (ps_set (i := 15) scLaw.nd rfl (.inr rfl) (pe_lst (pa_cons (pv 0) (pa_cons pe_int (pa_cons pe_int (pa_cons pe_int pa_nil))))))
          (pss_cons (ps_set (i := 13) scLaw.nd rfl (.inr rfl) (pe_call GM (hr.mono (by decide)) (by rfl) CM.m CM.k CM.b .nil pass0 (pa_cons (pv 15) (pa_cons (pe_lst (pa_cons pe_int (pa_cons pe_int (pa_cons pe_int (pa_cons pe_int pa_nil))))) (pa_cons pe_int (pa_cons pe_int pa_nil))))))
          (pss_cons (ps_asg (pe_tup (pa_cons (pe_ix ix_tup (pv 13) pe_int (fun _ _ => rfl)) (pa_cons (pe_make MK GI hr (by rfl) LX.gC bI .nil pass0 (pa_cons (pv 13) pa_nil)) (pa_cons (pe_op op_repK (pe_tup (pa_cons pe_int pa_nil)) (pe_callB call_len_seq (by rfl) T.len PySem.boot_len (pa_cons (pe_ix ix_tup (pv 13) pe_int (fun _ _ => rfl)) pa_nil))) (pa_cons pe_int pa_nil))))) (pg_tup rfl (pgs_cons (pg_name (i := 14) scLaw.nd rfl (.inr rfl)) (pgs_cons (pg_name (i := 16) scLaw.nd rfl (.inr rfl)) (pgs_cons (pg_name (i := 1) scLaw.nd rfl (.inl rfl)) (pgs_cons (pg_name (i := 2) scLaw.nd rfl (.inl rfl)) pgs_nil))))))
          (pss_cons (ps_for PassesOwn.never rfl (pi_range1 (by rfl) T.range (pa_cons (pe_call GT (hr.mono (by decide)) (by rfl) CT.m CT.k CT.b .nil pass0 (pa_cons (pv 15) (pa_cons pe_int pa_nil))) pa_nil)) (pg_name (i := 3) scLaw.nd rfl (.inl rfl))
        (pss_cons (ps_par (i := 4) (j := 5) rfl scLaw.nd rfl rfl (by decide) rfl rfl (pa_cons (pe_call GT (hr.mono (by decide)) (by rfl) CT.m CT.k CT.b .nil pass0 (pa_cons (pv 15) (pa_cons pe_int pa_nil))) (pa_cons (pe_call GT (hr.mono (by decide)) (by rfl) CT.m CT.k CT.b .nil pass0 (pa_cons (pv 15) (pa_cons (pe_callB call_len_seq (by rfl) T.len PySem.boot_len (pa_cons (pe_ix ix_tup (pv 13) pe_int (fun _ _ => rfl)) pa_nil)) pa_nil))) pa_nil)) rfl)
          (pss_cons (ps_par (i := 6) (j := 7) rfl scLaw.nd rfl rfl (by decide) rfl rfl (pa_cons (pe_call GT (hr.mono (by decide)) (by rfl) CT.m CT.k CT.b .nil pass0 (pa_cons (pv 15) (pa_cons (pe_callB call_len_seq (by rfl) T.len PySem.boot_len (pa_cons (pe_ix ix_tup (pv 13) pe_int (fun _ _ => rfl)) pa_nil)) pa_nil))) (pa_cons (pe_call GT (hr.mono (by decide)) (by rfl) CT.m CT.k CT.b .nil pass0 (pa_cons (pv 15) (pa_cons (pv 14) pa_nil))) pa_nil)) rfl)
          (pss_cons (ps_set (i := 8) scLaw.nd rfl (.inl rfl) (pe_lst (pa_cons (pe_tup (pa_cons pe_str (pa_cons (pv 6) pa_nil))) (pa_cons (pe_tup (pa_cons pe_str (pa_cons (pv 6) pa_nil))) (pa_cons (pe_tup (pa_cons pe_str (pa_cons (pv 6) pa_nil))) (pa_cons (pe_tup (pa_cons pe_str (pa_cons (pv 5) pa_nil))) (pa_cons (pe_tup (pa_cons pe_str (pa_cons (pv 5) pa_nil))) pa_nil)))))))
          (pss_cons (ps_set (i := 8) scLaw.nd rfl (.inl rfl) (pe_op op_cat (pv 8) (pe_lst (pa_cons (pe_tup (pa_cons pe_str (pa_cons (pv 7) pa_nil))) (pa_cons (pe_tup (pa_cons pe_str pa_nil)) pa_nil)))))
          (pss_cons (ps_asg (pe_call GD (hr.mono (by decide)) (by rfl) CD.m CD.k CD.b .nil pass0 (pa_cons (pv 13) (pa_cons (pv 1) (pa_cons (pv 2) (pa_cons (pe_ix ix_list (pv 8) (pv 4) (fun _ _ => rfl)) pa_nil))))) (pg_tup rfl (pgs_cons (pg_name (i := 1) scLaw.nd rfl (.inl rfl)) (pgs_cons (pg_name (i := 2) scLaw.nd rfl (.inl rfl)) pgs_nil))))
          (pss_cons (ps_if (pw_and (pt_cmpR op_eq (pv 4) pe_int (nomark _)) (pw_and1 (pt_not (pt_val (pe_call GA (hr.mono (by decide)) (by rfl) CA.m CA.k CA.b .nil pass0 (pa_cons (pe_meth (pv 16) X.cl mSee GSee (hr.mono (by decide)) bSee .nil passF (pa_cons (pv 6) pa_nil)) (pa_cons (pv 2) pa_nil))))))).pt (pss_one (ps_ret pe_bl)) pss_nil)
          (pss_cons (ps_if (pt_cmpR op_in_seq (pv 4) (pe_lst (pa_cons pe_int (pa_cons pe_int pa_nil))) rfl) (pss_one (ps_expr (pe_meth (pv 16) X.cl mJ GJ (hr.mono (by decide)) bJ .nil passF (pa_cons (pv 6) (pa_cons (pe_cmpR op_eq (pv 4) pe_int (nomark _)) pa_nil))))) pss_nil)
          (pss_cons (ps_if (pt_cmpR op_in_seq (pv 4) (pe_lst (pa_cons pe_int (pa_cons pe_int pa_nil))) rfl) (pss_one (ps_expr (pe_meth (pv 16) X.cl mW GW (hr.mono (by decide)) bW .nil passF (pa_cons (pv 5) (pa_cons (pe_cmpR op_eq (pv 4) pe_int (nomark _)) pa_nil))))) pss_nil)
          (pss_cons (ps_if (pt_cmpR op_eq (pv 4) pe_int (nomark _)) (pss_one (ps_expr (pe_meth (pv 16) X.cl mP GP (hr.mono (by decide)) bP .nil passF (pa_cons (pv 7) pa_nil)))) pss_nil)
          (pss_cons (ps_if (pt_cmpR op_eq (pv 4) pe_int (nomark _)) (pss_one (ps_expr (pe_meth0 (pv 16) X.cl mWt GWt (hr.mono (by decide)) bWt .nil pass0))) pss_nil)
          (pss_one (ps_if (pt_not (pt_val (pe_call GA (hr.mono (by decide)) (by rfl) CA.m CA.k CA.b .nil pass0 (pa_cons (pe_lst (pa_cons (pe_prop (pv 16) X.cl mT GTk (hr.mono (by decide)) bT .nil pass0 rfl) (pa_cons (pe_prop (pv 16) X.cl mH GH (hr.mono (by decide)) bH .nil pass0 rfl) (pa_cons (pe_prop (pv 16) X.cl mO GO (hr.mono (by decide)) bO .nil pass0 rfl) pa_nil)))) (pa_cons (pe_lst (pa_cons (pe_op op_add (pv 3) pe_int) (pa_cons (pv 1) (pa_cons (pv 2) pa_nil)))) pa_nil))))) (pss_one (ps_ret pe_bl)) pss_nil)))))))))))))
          (pss_cons (ps_set (i := 9) scLaw.nd rfl (.inl rfl) (pe_lst pa_nil))
          (pss_cons (ps_set (i := 10) scLaw.nd rfl (.inl rfl) (pe_lst (pa_cons (pe_lam0 (T := [(PL, qL)]) TBL hcc (List.mem_singleton.mpr rfl) (fun q hq _ => congrArg Prod.snd (List.mem_singleton.mp hq)) (lfree 0 (by decide)) rfl) (pa_cons (pe_lam1 (T := [(PL, qL)]) (i := 0) TBL hcc (List.mem_singleton.mpr rfl) (fun q hq _ => congrArg Prod.snd (List.mem_singleton.mp hq)) (lfree 1 (by decide)) rfl) pa_nil))))
          (pss_cons (ps_expr (pe_bm PySem.F.plainAttrs_list PySem.F.slot_list_append PySem.F.type_list_append mt_append (pv 10) (pa_cons (pe_lam1 (T := [(PL, qL)]) (i := 0) TBL hcc (List.mem_singleton.mpr rfl) (fun q hq _ => congrArg Prod.snd (List.mem_singleton.mp hq)) (lfree 2 (by decide)) rfl) pa_nil)))
          (pss_cons (ps_for PassesOwn.never rfl (pi_list (pe_op op_cat (pv 10) (pe_lst (pa_cons (pe_lam1 (T := [(PL, qL)]) (i := 0) TBL hcc (List.mem_singleton.mpr rfl) (fun q hq _ => congrArg Prod.snd (List.mem_singleton.mp hq)) (lfree 3 (by decide)) rfl) pa_nil)))) (pg_name (i := 11) scLaw.nd rfl (.inl rfl))
        (pss_one (ps_try_as (i := 12) (tb := fun W => tDrop (tCallV 4 (lmk qL cells) ldf 11 ljs (spL K C B) (WE W)))
          (ts := fun _ _ _ => tDrop (tBM K "list" rAppend (tVar 9) (tCons (tC (.str "number")) tNil))) (Wout := fun _ _ _ _ => False) rfl rfl scLaw.nd rfl rfl ⟨rfl, by decide, Or.inl LX.bx.g⟩ takes0
          (fun W pn xe tk _ => pss_one (ps_expr (by exact pe_callV LO (cl := fun m => cloFrom cells (lS (lamE m)).names []) (fun _ _ _ _ => rfl) (fun m hm ok => Caps.made ok (lfree m hm) (lfrok m hm) (ljsok m hm)) hr (by decide) (fun σ => passAt tk σ) rfl (.inl rfl))))
          (fun a oe cls d pn hz hf => pss_one (ps_expr (by exact pe_bm PySem.F.plainAttrs_list PySem.F.slot_list_append PySem.F.type_list_append mt_append (pv 9) (pa_cons pe_str pa_nil)))))))
          (pss_one (ps_ret (pe_and (pe_cmpR (op_eqD (show _ < cLine from hr.units)) (pv 9) (pe_op op_rep (pe_lst (pa_cons pe_str pa_nil)) pe_int) (nomark _)) (pe_one (pe_cmpR (op_eqD (show _ < cLine from hr.units)) (pe_prop (pv 16) X.cl mH GH (hr.mono (by decide)) bH .nil pass0 rfl) (pv 1) (nomark _)))))))))))))), ?_⟩
    -- the row, the machine
    refine ⟨_, rfl, by show 4 ≤ sizeLine; decide, fun r nr => ?_⟩
    have s1 := same_upd (o := .lst [.ref sc, .int 0, .int 7612, .int 0]) nr
    have R1 : RowAt K (upd H r (.lst [.ref sc, .int 0, .int 7612, .int 0])) r sc ns := ⟨⟨0, 7612, 0, upd_same, by decide, by decide, by decide⟩, s1.seq hS⟩
    refine ⟨_, rfl, by show 4 ≤ sizeLine; decide, fun t nt => ?_⟩
    have s2 := same_upd (o := .lst [.int 2, .int 3, .int 5, .int 7]) nt
    refine ⟨r, sc, t, ns, rfl, R1.same s2, upd_same, fun mc st wr si p S W G H3 R3 b3 M3 O3 => ?_⟩
    have tab3 : ∀ q, H q = some (.tbl #[]) → H3 q = some (.tbl #[]) := fun q e => b3 _ _ ((R1.same s2).nr (s2 _ _ (s1 _ _ e)) (fun _ e => nomatch e)) (s2 _ _ (s1 _ _ e))
    have hO4 := O3.s4
    have hO1 := O3.s1
    -- Store(machine)
    refine ⟨_, rfl, mc, _, _, _, rfl, rfl, SqT.of M3.ob, rfl, _, rfl, fun s dx nS nD nne => ?_⟩
    have s4 : Same H3 (upd (upd H3 dx (.own s)) s (.ins C dx [])) := same_upd2 (same_upd nD) nS
    have hs4 : upd (upd H3 dx (.own s)) s (.ins C dx []) s = some (.ins C dx []) := upd_same
    generalize upd (upd H3 dx (.own s)) s (.ins C dx []) = H4 at s4 hs4
    have tab4 : ∀ q, H q = some (.tbl #[]) → H4 q = some (.tbl #[]) := fun q e => s4 _ _ (tab3 q e)
    refine ⟨s, dx, mc, st, wr, si, p, S, W, G, rfl, hs4, M3.tk (Same.tk s4), O3, ⟨⟨#[], tab4 _ hp1, trivial⟩, ⟨#[], tab4 _ hp2, trivial⟩⟩, fun me H5 t5 k5 so5 => ⟨rfl, ?_⟩⟩
    have kk5 : ∀ b o, (∀ ps, o ≠ .tbl ps) → (∀ c d x, o ≠ .ins c d x) → H4 b = some o → H5 b = some o := fun b o e1 e2 e => k5 b o
      (fun z => by rw [z, tab4 _ hp1] at e; exact e1 _ (Option.some.inj e).symm) (fun z => by rw [z, tab4 _ hp2] at e; exact e1 _ (Option.some.inj e).symm) (fun z => by rw [z, hs4] at e; exact e2 _ _ _ (Option.some.inj e).symm) e
    have R5 : RowAt K H5 r sc ns := (R3.same s4).st (fun b xs e => kk5 b _ (fun _ z => nomatch z) (fun _ _ _ z => nomatch z) e) (fun b o xs e => kk5 b _ (fun _ z => nomatch z) (fun _ _ _ z => nomatch z) e)
    have tb5 : H5 PL = some (.tbl #[]) := k5 PL _ n1 n2 (fun z => by have q := tab4 _ hPL; rw [z, hs4] at q; cases q) (tab4 _ hPL)
    -- (0,) * n
    refine ⟨by show 1 ≤ sizeLine; decide, fun z nz => ?_⟩
    have s6 := same_upd (o := .tup [.int 0]) nz
    obtain ⟨sv, hsv, hSP⟩ := id so5.m.s
    have hsl : sv.length = S.length := plen hSP
    refine ⟨_, rfl, mc, _, _, _, rfl, rfl, SqT.of (s6 _ _ so5.m.ob), rfl, st, _, rfl, .inr (SqT.of (s6 _ _ hsv)), ?_⟩
    refine ⟨z, sv.length, .int 0, rfl, rfl, upd_same, by omega, by omega, fun lm H7 k7 hlm => ?_⟩
    refine ⟨by show 4 ≤ sizeLine; decide, fun q nq => ?_⟩
    have s8 := same_upd (o := .tup [.int p, .ref s, .ref lm, .int 0]) nq
    have S8 : Same H5 (upd H7 q (.tup [.int p, .ref s, .ref lm, .int 0])) := (s6.trans k7).trans s8
    have hlm8 : upd H7 q (.tup [.int p, .ref s, .ref lm, .int 0]) lm = some (.tup (List.replicate sv.length (.int 0))) := s8 _ _ hlm
    refine ⟨q, _, rfl, SqT.of upd_same, rfl, _, _, rfl, _, _, rfl, _, _, rfl, _, _, rfl, rfl, ?_⟩
    generalize upd H7 q _ = H8 at S8 hlm8
    have L8 : LV K C r sc ns PL s mc st wr si p S W G H8 lm me (List.replicate S.length 0) 0 0 := ⟨so5.same S8, by show H8 lm = _; rw [hlm8, hsl, List.map_replicate], R5.same S8, S8 _ _ tb5⟩
    -- the turns
    refine ⟨_, rfl, r, sc, ns, 25, rfl, L8.R, by decide, by decide, fun v H9 v0 v1 R9 o9 => ⟨v, rfl, by omega, by omega, ?_⟩⟩
    have L9 := L8.but (Only.but o9) R9
    have hp7 := O3.pr.pos
    let Pv : Nat → L2.St → Hp → Prop := fun i σ H' => ∃ lm me y h o3 o4 o5 o6 o7 o8, σ = [some (.ref sc), some (.ref lm), some (.int h), o3, o4, o5, o6, o7, o8, none, none, none, none, some (.ref mc), some (.int p), some (.ref r), some (.ref s)] ∧ LV K C r sc ns PL s mc st wr si p S W G H' lm me y h (i : Nat)
    refine for_range (lo := 0) Pv ⟨lm, me, _, 0, _, _, _, _, _, _, rfl, L9⟩ ?_ ?_
    · rintro i σ H hi ⟨lm, me, y, h, o3, o4, o5, o6, o7, o8, rfl, L⟩
      -- way, plug
      obtain ⟨wv, hwv, hWP⟩ := id L.so.m.w
      obtain ⟨gv, hgv, hGP⟩ := id L.so.m.g
      have hwl : wv.length = W.length := plen hWP
      have hgl : gv.length = G.length := plen hGP
      have hw1 := O3.w1
      have hw4 := O3.w4
      have hg1 := O3.g1
      have hg4 := O3.g4
      refine ⟨_, rfl, r, sc, ns, 7, rfl, L.R, by decide, by decide, fun way H1 w0 w1 R1 o1 => ?_⟩
      have L1 := L.but (Only.but o1) R1
      have tk1 : Tk H H1 := (Only.but o1).tk L.R.tup
      refine ⟨_, rfl, _, rfl, mc, _, _, _, rfl, rfl, SqT.of L1.so.m.ob, rfl, wr, _, rfl, .inr (SqT.of (tk1 _ _ hwv)), r, sc, ns, (wv.length : Int), rfl, R1, by omega, by omega, fun plug H2 q0 q1 R2 o2 => ⟨_, _, rfl, ?_⟩⟩
      have L2 := L1.but (Only.but o2) R2
      have tk2 : Tk H H2 := tk1.trans ((Only.but o2).tk R1.tup)
      -- sight, number
      refine ⟨_, rfl, _, rfl, mc, _, _, _, rfl, rfl, SqT.of L2.so.m.ob, rfl, si, _, rfl, .inr (SqT.of (tk2 _ _ hgv)), r, sc, ns, (gv.length : Int), rfl, R2, by omega, by omega, fun sight H3 g0 g1 R3 o3' => ?_⟩
      have L3 := L2.but (Only.but o3') R3
      refine ⟨_, rfl, _, rfl, r, sc, ns, p, rfl, R3, by omega, by omega, fun num H4 m0 m1 R4 o4' => ⟨_, _, rfl, ?_⟩⟩
      have L4 := L3.but (Only.but o4') R4
      obtain ⟨plug, rfl⟩ : ∃ n : Nat, plug = (n : Int) := ⟨plug.toNat, by omega⟩
      obtain ⟨sight, rfl⟩ : ∃ n : Nat, sight = (n : Int) := ⟨sight.toNat, by omega⟩
      -- the deeds
      refine ⟨_, rfl, by show 2 ≤ sizeLine; decide, fun t0 a0 => ⟨_, rfl, by show 2 ≤ sizeLine; decide, fun t1 a1 => ⟨_, rfl, by show 2 ≤ sizeLine; decide, fun t2 a2 => ⟨_, rfl, by show 2 ≤ sizeLine; decide, fun t3 a3 => ⟨_, rfl, by show 2 ≤ sizeLine; decide, fun t4 a4 => ⟨by show 5 ≤ sizeLine; decide, fun l5 a5 => ?_⟩⟩⟩⟩⟩⟩
      refine ⟨_, rfl, _, rfl, by show 2 ≤ sizeLine; decide, fun t5 a6 => ⟨by show 1 ≤ sizeLine; decide, fun t6 a7 => ⟨by show 2 ≤ sizeLine; decide, fun l6 a8 => ?_⟩⟩⟩
      have e0 := same_upd (o := .tup [.str "get", .int (sight : Nat)]) a0
      have e1 := same_upd (o := .tup [.str "plus", .int (sight : Nat)]) a1
      have e2 := same_upd (o := .tup [.str "minus", .int (sight : Nat)]) a2
      have e3 := same_upd (o := .tup [.str "add", .int (plug : Nat)]) a3
      have e4 := same_upd (o := .tup [.str "take", .int (plug : Nat)]) a4
      have e5 := same_upd (o := .lst [.ref t0, .ref t1, .ref t2, .ref t3, .ref t4]) a5
      have e6 := same_upd (o := .tup [.str "put", .int num]) a6
      have e7 := same_upd (o := .tup [.str "wait"]) a7
      have e8 := same_upd (o := .lst [.ref t5, .ref t6]) a8
      refine ⟨l5, l6, _, _, rfl, rfl, e8 _ _ (e7 _ _ (e6 _ _ upd_same)), upd_same, by show 7 ≤ sizeLine; decide, fun l7 a9 => ?_⟩
      have e9 := same_upd (o := .lst [.ref t0, .ref t1, .ref t2, .ref t3, .ref t4, .ref t5, .ref t6]) a9
      have L5 := L4.same (((((((((e0.trans e1).trans e2).trans e3).trans e4).trans e5).trans e6).trans e7).trans e8).trans e9)
      have z7 := e8.trans e9
      have z6 := e7.trans z7
      have z5 := e6.trans z6
      have z4 := e5.trans z5
      have z3 := e4.trans z4
      have z2 := e3.trans z3
      have z1 := e2.trans z2
      have z0 := e1.trans z1
      have d0 := z0 _ _ (upd_same (H := H4) (o := .tup [.str "get", .int (sight : Nat)]) (a := t0))
      have d1 := z1 _ _ (upd_same (o := .tup [.str "plus", .int (sight : Nat)]) (a := t1))
      have d2 := z2 _ _ (upd_same (o := .tup [.str "minus", .int (sight : Nat)]) (a := t2))
      have d3 := z3 _ _ (upd_same (o := .tup [.str "add", .int (plug : Nat)]) (a := t3))
      have d4 := z4 _ _ (upd_same (o := .tup [.str "take", .int (plug : Nat)]) (a := t4))
      have d5 := z6 _ _ (upd_same (o := .tup [.str "put", .int num]) (a := t5))
      have d6 := z7 _ _ (upd_same (o := .tup [.str "wait"]) (a := t6))
      generalize hgn : upd _ l7 _ = H5
      have L5 : LV K C r sc ns PL s mc st wr si p S W G H5 lm me y h (i : Nat) := by rw [← hgn]; exact L5
      have d0 : H5 t0 = some (.tup [.str "get", .int (sight : Nat)]) := by rw [← hgn]; exact d0
      have d1 : H5 t1 = some (.tup [.str "plus", .int (sight : Nat)]) := by rw [← hgn]; exact d1
      have d2 : H5 t2 = some (.tup [.str "minus", .int (sight : Nat)]) := by rw [← hgn]; exact d2
      have d3 : H5 t3 = some (.tup [.str "add", .int (plug : Nat)]) := by rw [← hgn]; exact d3
      have d4 : H5 t4 = some (.tup [.str "take", .int (plug : Nat)]) := by rw [← hgn]; exact d4
      have d5 : H5 t5 = some (.tup [.str "put", .int num]) := by rw [← hgn]; exact d5
      have d6 : H5 t6 = some (.tup [.str "wait"]) := by rw [← hgn]; exact d6
      have hl7 : H5 l7 = some (.lst [.ref t0, .ref t1, .ref t2, .ref t3, .ref t4, .ref t5, .ref t6]) := by rw [← hgn]; exact upd_same
      clear hgn z0 z1 z2 z3 z4 z5 z6 z7 e0 e1 e2 e3 e4 e5 e6 e7 e8 e9
      have ways : way = 0 ∨ way = 1 ∨ way = 2 ∨ way = 3 ∨ way = 4 ∨ way = 5 ∨ way = 6 := by omega
      rcases ways with rfl | rfl | rfl | rfl | rfl | rfl | rfl
      · -- get sight
        refine ⟨_, rfl, _, rfl, _, rfl, _, rfl, _, rfl, l7, _, _, .ref t0, rfl, rfl, SqL.of hl7, atI_nat (j := 0) rfl, ?_⟩
        refine ⟨mc, st, wr, si, p, S, W, G, lm, t0, y, h, .get sight, rfl, L5.so.m, L5.so.ok, L5.lm, L5.so.st, d0, (show sight < G.length by omega), fun rr b H6 s6 hr6 hb6 => ?_⟩
        have L6 := L5.same s6
        refine ⟨rr, _, rfl, SqT.of hr6, rfl, _, _, rfl, _, _, rfl, rfl, ?_⟩
        refine ⟨_, rfl, rfl, _, rfl, iteD (decide_eq_true rfl) ?_⟩
        obtain ⟨dx, hs⟩ := L6.so.ob
        refine ⟨_, rfl, s, dx, _, rfl, hs, fl_no (by decide +kernel) (by decide +kernel) (by decide +kernel) (by decide +kernel), _, rfl, s, mc, st, wr, si, p, S, W, G, me, y, h, _, .int (sight : Nat), rfl, L6.so, .inr (.inr ⟨_, rfl⟩), .inl ⟨sight, rfl, (show sight < G.length by omega), fun me7 H7 b7 O7 => ?_⟩⟩
        have L7 := L6.after hb6 b7 O7
        refine ⟨_, rfl, _, _, rfl, .inl ⟨_, rfl, rfl⟩, fun H8 s8 => ⟨true, rfl, iteF ?_⟩⟩
        have L8 := L7.same s8
        refine ⟨_, rfl, by show 2 ≤ sizeLine; decide, fun x9 c9 => ⟨x9, _, rfl, .inl (SqL.of upd_same), rfl, rfl, _, rfl, iteDF (show inV (.int 0) [.int 1, .int 2] = false by rfl) ?_⟩⟩
        have L9 := L8.same (same_upd (o := .lst [.int 1, .int 2]) c9)
        refine ⟨_, rfl, by show 2 ≤ sizeLine; decide, fun x10 c10 => ⟨x10, _, rfl, .inl (SqL.of upd_same), rfl, rfl, _, rfl, iteDF (show inV (.int 0) [.int 3, .int 4] = false by rfl) ?_⟩⟩
        have L10 := L9.same (same_upd (o := .lst [.int 3, .int 4]) c10)
        refine ⟨_, rfl, rfl, _, rfl, iteDF (decide_eq_false fun e => absurd (V.int.inj e) (by decide)) ?_⟩
        refine ⟨_, rfl, rfl, _, rfl, iteDF (decide_eq_false fun e => absurd (V.int.inj e) (by decide)) ?_⟩
        exact turn_end L10 O3.s4 rfl rfl rfl rfl (by omega) fun H' s' => ⟨_, _, _, _, _, _, _, _, _, _, rfl, L10.same s'⟩
      · -- plus sight
        refine ⟨_, rfl, _, rfl, _, rfl, _, rfl, _, rfl, l7, _, _, .ref t1, rfl, rfl, SqL.of hl7, atI_nat (j := 1) rfl, ?_⟩
        refine ⟨mc, st, wr, si, p, S, W, G, lm, t1, y, h, .plus sight, rfl, L5.so.m, L5.so.ok, L5.lm, L5.so.st, d1, (show sight < G.length by omega), fun rr b H6 s6 hr6 hb6 => ?_⟩
        have L6 := L5.same s6
        refine ⟨rr, _, rfl, SqT.of hr6, rfl, _, _, rfl, _, _, rfl, rfl, ?_⟩
        refine ⟨_, rfl, rfl, _, rfl, iteDF (decide_eq_false fun e => absurd (V.int.inj e) (by decide)) (iteF ?_)⟩
        refine ⟨_, rfl, by show 2 ≤ sizeLine; decide, fun x9 c9 => ⟨x9, _, rfl, .inl (SqL.of upd_same), rfl, rfl, _, rfl, iteD (show inV (.int 1) [.int 1, .int 2] = true by rfl) ?_⟩⟩
        have L9 := L6.same (same_upd (o := .lst [.int 1, .int 2]) c9)
        have hb9 := same_upd (o := .lst [.int 1, .int 2]) c9 _ _ hb6
        obtain ⟨dx, hs⟩ := L9.so.ob
        refine ⟨_, rfl, s, dx, _, rfl, hs, fl_no (by decide +kernel) (by decide +kernel) (by decide +kernel) (by decide +kernel), _, rfl, _, rfl, rfl, s, mc, st, wr, si, p, S, W, G, me, y, h, _, .int (sight : Nat), false, rfl, L9.so, .inr (.inr ⟨_, rfl⟩), .inl ⟨sight, rfl, (show sight < G.length by omega), fun me10 H10 b10 O10 => ?_⟩⟩
        have L10 := L9.after hb9 b10 O10
        refine ⟨_, rfl, by show 2 ≤ sizeLine; decide, fun x11 c11 => ⟨x11, _, rfl, .inl (SqL.of upd_same), rfl, rfl, _, rfl, iteDF (show inV (.int 1) [.int 3, .int 4] = false by rfl) ?_⟩⟩
        have L11 := L10.same (same_upd (o := .lst [.int 3, .int 4]) c11)
        refine ⟨_, rfl, rfl, _, rfl, iteDF (decide_eq_false fun e => absurd (V.int.inj e) (by decide)) ?_⟩
        refine ⟨_, rfl, rfl, _, rfl, iteDF (decide_eq_false fun e => absurd (V.int.inj e) (by decide)) ?_⟩
        exact turn_end L11 O3.s4 rfl rfl rfl rfl (by omega) fun H' s' => ⟨_, _, _, _, _, _, _, _, _, _, rfl, L11.same s'⟩
      · -- minus sight
        refine ⟨_, rfl, _, rfl, _, rfl, _, rfl, _, rfl, l7, _, _, .ref t2, rfl, rfl, SqL.of hl7, atI_nat (j := 2) rfl, ?_⟩
        refine ⟨mc, st, wr, si, p, S, W, G, lm, t2, y, h, .minus sight, rfl, L5.so.m, L5.so.ok, L5.lm, L5.so.st, d2, (show sight < G.length by omega), fun rr b H6 s6 hr6 hb6 => ?_⟩
        have L6 := L5.same s6
        refine ⟨rr, _, rfl, SqT.of hr6, rfl, _, _, rfl, _, _, rfl, rfl, ?_⟩
        refine ⟨_, rfl, rfl, _, rfl, iteDF (decide_eq_false fun e => absurd (V.int.inj e) (by decide)) (iteF ?_)⟩
        refine ⟨_, rfl, by show 2 ≤ sizeLine; decide, fun x9 c9 => ⟨x9, _, rfl, .inl (SqL.of upd_same), rfl, rfl, _, rfl, iteD (show inV (.int 2) [.int 1, .int 2] = true by rfl) ?_⟩⟩
        have L9 := L6.same (same_upd (o := .lst [.int 1, .int 2]) c9)
        have hb9 := same_upd (o := .lst [.int 1, .int 2]) c9 _ _ hb6
        obtain ⟨dx, hs⟩ := L9.so.ob
        refine ⟨_, rfl, s, dx, _, rfl, hs, fl_no (by decide +kernel) (by decide +kernel) (by decide +kernel) (by decide +kernel), _, rfl, _, rfl, rfl, s, mc, st, wr, si, p, S, W, G, me, y, h, _, .int (sight : Nat), true, rfl, L9.so, .inr (.inr ⟨_, rfl⟩), .inl ⟨sight, rfl, (show sight < G.length by omega), fun me10 H10 b10 O10 => ?_⟩⟩
        have L10 := L9.after hb9 b10 O10
        refine ⟨_, rfl, by show 2 ≤ sizeLine; decide, fun x11 c11 => ⟨x11, _, rfl, .inl (SqL.of upd_same), rfl, rfl, _, rfl, iteDF (show inV (.int 2) [.int 3, .int 4] = false by rfl) ?_⟩⟩
        have L11 := L10.same (same_upd (o := .lst [.int 3, .int 4]) c11)
        refine ⟨_, rfl, rfl, _, rfl, iteDF (decide_eq_false fun e => absurd (V.int.inj e) (by decide)) ?_⟩
        refine ⟨_, rfl, rfl, _, rfl, iteDF (decide_eq_false fun e => absurd (V.int.inj e) (by decide)) ?_⟩
        exact turn_end L11 O3.s4 rfl rfl rfl rfl (by omega) fun H' s' => ⟨_, _, _, _, _, _, _, _, _, _, rfl, L11.same s'⟩
      · -- add plug
        refine ⟨_, rfl, _, rfl, _, rfl, _, rfl, _, rfl, l7, _, _, .ref t3, rfl, rfl, SqL.of hl7, atI_nat (j := 3) rfl, ?_⟩
        refine ⟨mc, st, wr, si, p, S, W, G, lm, t3, y, h, .add plug, rfl, L5.so.m, L5.so.ok, L5.lm, L5.so.st, d3, (show plug < W.length by omega), fun rr b H6 s6 hr6 hb6 => ?_⟩
        have L6 := L5.same s6
        refine ⟨rr, _, rfl, SqT.of hr6, rfl, _, _, rfl, _, _, rfl, rfl, ?_⟩
        refine ⟨_, rfl, rfl, _, rfl, iteDF (decide_eq_false fun e => absurd (V.int.inj e) (by decide)) (iteF ?_)⟩
        refine ⟨_, rfl, by show 2 ≤ sizeLine; decide, fun x9 c9 => ⟨x9, _, rfl, .inl (SqL.of upd_same), rfl, rfl, _, rfl, iteDF (show inV (.int 3) [.int 1, .int 2] = false by rfl) ?_⟩⟩
        have L9 := L6.same (same_upd (o := .lst [.int 1, .int 2]) c9)
        have hb9 := same_upd (o := .lst [.int 1, .int 2]) c9 _ _ hb6
        refine ⟨_, rfl, by show 2 ≤ sizeLine; decide, fun x10 c10 => ⟨x10, _, rfl, .inl (SqL.of upd_same), rfl, rfl, _, rfl, iteD (show inV (.int 3) [.int 3, .int 4] = true by rfl) ?_⟩⟩
        have L10 := L9.same (same_upd (o := .lst [.int 3, .int 4]) c10)
        have hb10 := same_upd (o := .lst [.int 3, .int 4]) c10 _ _ hb9
        obtain ⟨dx, hs⟩ := L10.so.ob
        refine ⟨_, rfl, s, dx, _, rfl, hs, fl_no (by decide +kernel) (by decide +kernel) (by decide +kernel) (by decide +kernel), _, rfl, _, rfl, rfl, s, mc, st, wr, si, p, S, W, G, me, y, h, _, .int (plug : Nat), false, rfl, L10.so, .inr (.inr ⟨_, rfl⟩), .inl ⟨plug, rfl, (show plug < W.length by omega), fun me11 H11 b11 O11 => ?_⟩⟩
        have L11 := L10.after hb10 b11 O11
        refine ⟨_, rfl, rfl, _, rfl, iteDF (decide_eq_false fun e => absurd (V.int.inj e) (by decide)) ?_⟩
        refine ⟨_, rfl, rfl, _, rfl, iteDF (decide_eq_false fun e => absurd (V.int.inj e) (by decide)) ?_⟩
        exact turn_end L11 O3.s4 rfl rfl rfl rfl (by omega) fun H' s' => ⟨_, _, _, _, _, _, _, _, _, _, rfl, L11.same s'⟩
      · -- take plug
        refine ⟨_, rfl, _, rfl, _, rfl, _, rfl, _, rfl, l7, _, _, .ref t4, rfl, rfl, SqL.of hl7, atI_nat (j := 4) rfl, ?_⟩
        refine ⟨mc, st, wr, si, p, S, W, G, lm, t4, y, h, .take plug, rfl, L5.so.m, L5.so.ok, L5.lm, L5.so.st, d4, (show plug < W.length by omega), fun rr b H6 s6 hr6 hb6 => ?_⟩
        have L6 := L5.same s6
        refine ⟨rr, _, rfl, SqT.of hr6, rfl, _, _, rfl, _, _, rfl, rfl, ?_⟩
        refine ⟨_, rfl, rfl, _, rfl, iteDF (decide_eq_false fun e => absurd (V.int.inj e) (by decide)) (iteF ?_)⟩
        refine ⟨_, rfl, by show 2 ≤ sizeLine; decide, fun x9 c9 => ⟨x9, _, rfl, .inl (SqL.of upd_same), rfl, rfl, _, rfl, iteDF (show inV (.int 4) [.int 1, .int 2] = false by rfl) ?_⟩⟩
        have L9 := L6.same (same_upd (o := .lst [.int 1, .int 2]) c9)
        have hb9 := same_upd (o := .lst [.int 1, .int 2]) c9 _ _ hb6
        refine ⟨_, rfl, by show 2 ≤ sizeLine; decide, fun x10 c10 => ⟨x10, _, rfl, .inl (SqL.of upd_same), rfl, rfl, _, rfl, iteD (show inV (.int 4) [.int 3, .int 4] = true by rfl) ?_⟩⟩
        have L10 := L9.same (same_upd (o := .lst [.int 3, .int 4]) c10)
        have hb10 := same_upd (o := .lst [.int 3, .int 4]) c10 _ _ hb9
        obtain ⟨dx, hs⟩ := L10.so.ob
        refine ⟨_, rfl, s, dx, _, rfl, hs, fl_no (by decide +kernel) (by decide +kernel) (by decide +kernel) (by decide +kernel), _, rfl, _, rfl, rfl, s, mc, st, wr, si, p, S, W, G, me, y, h, _, .int (plug : Nat), true, rfl, L10.so, .inr (.inr ⟨_, rfl⟩), .inl ⟨plug, rfl, (show plug < W.length by omega), fun me11 H11 b11 O11 => ?_⟩⟩
        have L11 := L10.after hb10 b11 O11
        refine ⟨_, rfl, rfl, _, rfl, iteDF (decide_eq_false fun e => absurd (V.int.inj e) (by decide)) ?_⟩
        refine ⟨_, rfl, rfl, _, rfl, iteDF (decide_eq_false fun e => absurd (V.int.inj e) (by decide)) ?_⟩
        exact turn_end L11 O3.s4 rfl rfl rfl rfl (by omega) fun H' s' => ⟨_, _, _, _, _, _, _, _, _, _, rfl, L11.same s'⟩
      · -- put num
        refine ⟨_, rfl, _, rfl, _, rfl, _, rfl, _, rfl, l7, _, _, .ref t5, rfl, rfl, SqL.of hl7, atI_nat (j := 5) rfl, ?_⟩
        refine ⟨mc, st, wr, si, p, S, W, G, lm, t5, y, h, .put num, rfl, L5.so.m, L5.so.ok, L5.lm, L5.so.st, d5, ⟨m0, m1⟩, fun rr b H6 s6 hr6 hb6 => ?_⟩
        have L6 := L5.same s6
        refine ⟨rr, _, rfl, SqT.of hr6, rfl, _, _, rfl, _, _, rfl, rfl, ?_⟩
        refine ⟨_, rfl, rfl, _, rfl, iteDF (decide_eq_false fun e => absurd (V.int.inj e) (by decide)) (iteF ?_)⟩
        refine ⟨_, rfl, by show 2 ≤ sizeLine; decide, fun x9 c9 => ⟨x9, _, rfl, .inl (SqL.of upd_same), rfl, rfl, _, rfl, iteDF (show inV (.int 5) [.int 1, .int 2] = false by rfl) ?_⟩⟩
        have L9 := L6.same (same_upd (o := .lst [.int 1, .int 2]) c9)
        have hb9 := same_upd (o := .lst [.int 1, .int 2]) c9 _ _ hb6
        refine ⟨_, rfl, by show 2 ≤ sizeLine; decide, fun x10 c10 => ⟨x10, _, rfl, .inl (SqL.of upd_same), rfl, rfl, _, rfl, iteDF (show inV (.int 5) [.int 3, .int 4] = false by rfl) ?_⟩⟩
        have L10 := L9.same (same_upd (o := .lst [.int 3, .int 4]) c10)
        have hb10 := same_upd (o := .lst [.int 3, .int 4]) c10 _ _ hb9
        refine ⟨_, rfl, rfl, _, rfl, iteD (decide_eq_true rfl) ?_⟩
        obtain ⟨dx, hs⟩ := L10.so.ob
        refine ⟨_, rfl, s, dx, _, rfl, hs, fl_no (by decide +kernel) (by decide +kernel) (by decide +kernel) (by decide +kernel), _, rfl, s, mc, st, wr, si, p, S, W, G, me, y, h, _, .int num, rfl, L10.so, .inr (.inr ⟨_, rfl⟩), .inl ⟨num, rfl, m0, m1, fun me11 H11 b11 O11 => ?_⟩⟩
        have L11 := L10.after hb10 b11 O11
        refine ⟨_, rfl, rfl, _, rfl, iteDF (decide_eq_false fun e => absurd (V.int.inj e) (by decide)) ?_⟩
        exact turn_end L11 O3.s4 rfl rfl rfl rfl (by omega) fun H' s' => ⟨_, _, _, _, _, _, _, _, _, _, rfl, L11.same s'⟩
      · -- wait
        refine ⟨_, rfl, _, rfl, _, rfl, _, rfl, _, rfl, l7, _, _, .ref t6, rfl, rfl, SqL.of hl7, atI_nat (j := 6) rfl, ?_⟩
        refine ⟨mc, st, wr, si, p, S, W, G, lm, t6, y, h, .wait, rfl, L5.so.m, L5.so.ok, L5.lm, L5.so.st, d6, trivial, fun rr b H6 s6 hr6 hb6 => ?_⟩
        have L6 := L5.same s6
        refine ⟨rr, _, rfl, SqT.of hr6, rfl, _, _, rfl, _, _, rfl, rfl, ?_⟩
        refine ⟨_, rfl, rfl, _, rfl, iteDF (decide_eq_false fun e => absurd (V.int.inj e) (by decide)) (iteF ?_)⟩
        refine ⟨_, rfl, by show 2 ≤ sizeLine; decide, fun x9 c9 => ⟨x9, _, rfl, .inl (SqL.of upd_same), rfl, rfl, _, rfl, iteDF (show inV (.int 6) [.int 1, .int 2] = false by rfl) ?_⟩⟩
        have L9 := L6.same (same_upd (o := .lst [.int 1, .int 2]) c9)
        have hb9 := same_upd (o := .lst [.int 1, .int 2]) c9 _ _ hb6
        refine ⟨_, rfl, by show 2 ≤ sizeLine; decide, fun x10 c10 => ⟨x10, _, rfl, .inl (SqL.of upd_same), rfl, rfl, _, rfl, iteDF (show inV (.int 6) [.int 3, .int 4] = false by rfl) ?_⟩⟩
        have L10 := L9.same (same_upd (o := .lst [.int 3, .int 4]) c10)
        have hb10 := same_upd (o := .lst [.int 3, .int 4]) c10 _ _ hb9
        refine ⟨_, rfl, rfl, _, rfl, iteDF (decide_eq_false fun e => absurd (V.int.inj e) (by decide)) ?_⟩
        refine ⟨_, rfl, rfl, _, rfl, iteD (decide_eq_true rfl) ?_⟩
        obtain ⟨dx, hs⟩ := L10.so.ob
        refine ⟨_, rfl, s, dx, _, rfl, hs, fl_no (by decide +kernel) (by decide +kernel) (by decide +kernel) (by decide +kernel), s, mc, st, wr, si, p, S, W, G, me, y, h, _, rfl, L10.so, fun me11 H11 b11 O11 => ?_⟩
        have L11 := L10.after hb10 b11 O11
        exact turn_end L11 O3.s4 rfl rfl rfl rfl (by omega) fun H' s' => ⟨_, _, _, _, _, _, _, _, _, _, rfl, L11.same s'⟩
    · rintro σ H ⟨lm, me, y, h, o3, o4, o5, o6, o7, o8, rfl, L⟩
      have R0 := L.R
      refine ⟨by show 0 ≤ sizeLine; decide, fun wd nw => ?_⟩
      have W0 : LW K r sc ns H H := ⟨fun _ _ _ e _ => e, fun _ e => e, R0⟩
      have W1 := W0.new R0 (o := .lst []) nw
      have Tb1 : LamX.Tabs [(PL, qL)] (upd H wd (.lst [])) := fun q hq => by
        obtain rfl := List.mem_singleton.mp hq
        exact LamX.TabS.nil (same_upd nw _ _ L.tb)
      have wd1 : upd H wd (.lst []) wd = some (.lst []) := upd_same
      generalize upd H wd (.lst []) = h1 at W1 Tb1 wd1
      -- works = [lambda .., lambda ..]
      refine ⟨Tb1, fun f0 c0 dv0 H1 x1 m1 T1 nf0 lf0 cf0 df0 => ⟨T1, fun f1 c1 dv1 H2 x2 m2 T2 nf1 lf1 cf1 df1 => ⟨by show 2 ≤ sizeLine; decide, fun wk nk => ?_⟩⟩⟩
      have A0 : LamAt cells H1 0 f0 := ⟨c0, dv0, lf0, cf0, df0⟩
      have A1 : LamAt cells H2 1 f1 := ⟨c1, dv1, lf1, cf1, df1⟩
      have W2 := ((W1.ext x1 m1).ext x2 m2).new R0 (o := .lst [.ref f0, .ref f1]) nk
      have nwkb : H wk = none := ((W1.ext x1 m1).ext x2 m2).fr _ nk
      have s3 := same_upd (o := .lst [.ref f0, .ref f1]) nk
      have wd3 : upd H2 wk (.lst [.ref f0, .ref f1]) wd = some (.lst []) := s3 _ _ (x2 _ _ (x1 _ _ wd1 (fun _ z => nomatch z)) (fun _ z => nomatch z))
      have wk3 : upd H2 wk (.lst [.ref f0, .ref f1]) wk = some (.lst [.ref f0, .ref f1]) := upd_same
      have A0 := A0.kl ((KL.ext x2).trans (KL.same s3))
      have A1 := A1.kl (KL.same s3)
      have T3 := T2.ext s3
      generalize upd H2 wk (.lst [.ref f0, .ref f1]) = h3 at W2 wd3 wk3 A0 A1 T3
      -- works.append(lambda ..)
      refine ⟨_, rfl, .inl ⟨rfl, _, SqL.of wk3⟩, T3, fun f2 c2 dv2 H4 x4 m4 T4 nf2 lf2 cf2 df2 => ?_⟩
      have A2 : LamAt cells H4 2 f2 := ⟨c2, dv2, lf2, cf2, df2⟩
      have wk4 : H4 wk = some (.lst [.ref f0, .ref f1]) := x4 _ _ wk3 (fun _ z => nomatch z)
      have wd4 : H4 wd = some (.lst []) := x4 _ _ wd3 (fun _ z => nomatch z)
      refine ⟨wk, [.ref f0, .ref f1], .ref f2, rfl, rfl, wk4, by show 2 < sizeLine; decide, ?_⟩
      have W5 := (W2.ext x4 m4).set R0 (o := .lst [.ref f0, .ref f1, .ref f2]) nwkb
      have T5 := tabs_upl (o := .lst [.ref f0, .ref f1, .ref f2]) T4 wk4
      have k5 := KL.set (o := .lst [.ref f0, .ref f1, .ref f2]) wk4
      have A0 := A0.kl ((KL.ext x4).trans k5)
      have A1 := A1.kl ((KL.ext x4).trans k5)
      have A2 := A2.kl k5
      have nwdk : wd ≠ wk := fun e => by rw [e, wk4] at wd4; cases wd4
      have wd5 : upd H4 wk (.lst [.ref f0, .ref f1, .ref f2]) wd = some (.lst []) := (upd_ne nwdk).trans wd4
      -- works + [lambda ..]
      refine ⟨_, rfl, T5, fun f3 c3 dv3 H6 x6 m6 T6 nf3 lf3 cf3 df3 => ⟨by show 1 ≤ sizeLine; decide, fun l3 n3 => ?_⟩⟩
      have A3 : LamAt cells H6 3 f3 := ⟨c3, dv3, lf3, cf3, df3⟩
      have wk6 : H6 wk = some (.lst [.ref f0, .ref f1, .ref f2]) := x6 _ _ upd_same (fun _ z => nomatch z)
      have s7 := same_upd (o := .lst [.ref f3]) n3
      refine ⟨wk, l3, _, _, rfl, rfl, s7 _ _ wk6, upd_same, by show 4 ≤ sizeLine; decide, fun l4 n4 => ?_⟩
      have s8 := same_upd (o := .lst [.ref f0, .ref f1, .ref f2, .ref f3]) n4
      have W8 := ((W5.ext x6 m6).new R0 (o := .lst [.ref f3]) n3).new R0 (o := .lst [.ref f0, .ref f1, .ref f2, .ref f3]) n4
      have k8 := (KL.same s7).trans (KL.same s8)
      have A0 := A0.kl ((KL.ext x6).trans k8)
      have A1 := A1.kl ((KL.ext x6).trans k8)
      have A2 := A2.kl ((KL.ext x6).trans k8)
      have A3 := A3.kl k8
      have wd8 := s8 _ _ (s7 _ _ (x6 _ _ wd5 (fun _ z => nomatch z)))
      have nl4b : H l4 = none := ((W5.ext x6 m6).new R0 (o := .lst [.ref f3]) n3).fr _ n4
      generalize hgn : upd (upd H6 l3 _) l4 _ = h8
      have l48 : h8 l4 = some (.lst [.ref f0, .ref f1, .ref f2, .ref f3]) := by rw [← hgn]; exact upd_same
      have W8 : LW K r sc ns H h8 := by rw [← hgn]; exact W8
      have wd8 : h8 wd = some (.lst []) := by rw [← hgn]; exact wd8
      have A0 : LamAt cells h8 0 f0 := by rw [← hgn]; exact A0
      have A1 : LamAt cells h8 1 f1 := by rw [← hgn]; exact A1
      have A2 : LamAt cells h8 2 f2 := by rw [← hgn]; exact A2
      have A3 : LamAt cells h8 3 f3 := by rw [← hgn]; exact A3
      clear hgn s7 s8 k8 k5 T5 W5
      have nr4 : l4 ≠ r := (R0.ne nl4b).symm
      have nrd : wd ≠ r := (R0.ne nw).symm
      have nd4 : l4 ≠ wd := fun e => by rw [e, wd8] at l48; cases l48
      refine ⟨l4, rfl, ⟨_, SqL.of l48⟩, ?_⟩
      let Pw : Nat → L2.St → Hp → Prop := fun i σ H' => (∃ o11, σ = [some (.ref sc), some (.ref lm), some (.int h), o3, o4, o5, o6, o7, o8, some (.ref wd), some (.ref wk), o11, none, some (.ref mc), some (.int p), some (.ref r), some (.ref s)]) ∧ LW K r sc ns H H' ∧ H' wd = some (.lst (List.replicate i (.str "number"))) ∧
        H' l4 = some (.lst [.ref f0, .ref f1, .ref f2, .ref f3]) ∧ LamAt cells H' 0 f0 ∧ LamAt cells H' 1 f1 ∧ LamAt cells H' 2 f2 ∧ LamAt cells H' 3 f3
      refine for_list (K := K) (a := l4) (xs := [.ref f0, .ref f1, .ref f2, .ref f3]) (tb := fun D σ H => tDrop (tCallV 4 (lmk qL cells) ldf 11 ljs (spL K C B) (WE (wAs K (.ref B) 12 (fun _ _ _ => tDrop (tBM K "list" rAppend (tVar 9) (tCons (tC (.str "number")) tNil))) (fun _ _ _ _ => False) D))) D σ H) Pw ?_ (fun i σ H' _ q => SqL.of q.2.2.2.1) ?_ ?_
      · exact ⟨⟨_, rfl⟩, W8, wd8, l48, A0, A1, A2, A3⟩
      · rintro i v σ H' hv ⟨⟨o11, rfl⟩, W', wd', l4', B0, B1, B2, B3⟩
        have hi : i < 4 := (List.getElem?_eq_some_iff.mp hv).1
        have fin : ∀ (D : Ends) (σ : L2.St) (f : Addr), D.nx = Pw (i + 1) → (σ = [some (.ref sc), some (.ref lm), some (.int h), o3, o4, o5, o6, o7, o8, some (.ref wd), some (.ref wk), some (.ref f), none, some (.ref mc), some (.int p), some (.ref r), some (.ref s)]) → ∀ H2, RowAt K H2 r sc ns → But r H' H2 →
            wAs K (.ref B) 12 (fun _ _ _ => tDrop (tBM K "list" rAppend (tVar 9) (tCons (tC (.str "number")) tNil))) (fun _ _ _ _ => False) D (.ref B) none σ H2 := by
          intro D σ f hD hσ H2 R2 b2
          subst hσ
          have wd2 : H2 wd = some (.lst (List.replicate i (.str "number"))) := b2 _ _ nrd wd'
          refine ⟨true, LX.te, fun _ a na => ?_, fun e => nomatch e⟩
          refine ⟨_, rfl, .inl ⟨rfl, _, SqL.of wd2⟩, wd, _, _, rfl, rfl, wd2, small1000 (by rw [List.length_replicate]; omega), ?_⟩
          show D.nx _ _
          rw [hD]
          have k2 := (KL.but W'.R b2).trans (KL.set (o := .lst (List.replicate i (.str "number") ++ [.str "number"])) wd2)
          exact ⟨⟨_, rfl⟩, (W'.but b2 R2).set R0 nw, by rw [upd_same, List.replicate_succ'], (upd_ne nd4).trans (b2 _ _ nr4 l4'), B0.kl k2, B1.kl k2, B2.kl k2, B3.kl k2⟩
        have O' := W'.so R0 L.so
        have hi4 : i = 0 ∨ i = 1 ∨ i = 2 ∨ i = 3 := by omega
        rcases hi4 with rfl | rfl | rfl | rfl
        · obtain rfl : V.ref f0 = v := Option.some.inj hv
          obtain ⟨c, dv, l1, l2, l3⟩ := id B0
          exact ⟨0, f0, c, dv, by omega, rfl, l1, l2, l3, s, mc, st, wr, si, p, S, W, G, me, y, h, _, r, sc, ns, O', W'.R, rfl, fun H2 R2 b2 => fin _ _ f0 rfl rfl H2 R2 b2⟩
        · obtain rfl : V.ref f1 = v := Option.some.inj hv
          obtain ⟨c, dv, l1, l2, l3⟩ := id B1
          exact ⟨1, f1, c, dv, by omega, rfl, l1, l2, l3, s, mc, st, wr, si, p, S, W, G, me, y, h, _, r, sc, ns, O', W'.R, rfl, fun H2 R2 b2 => fin _ _ f1 rfl rfl H2 R2 b2⟩
        · obtain rfl : V.ref f2 = v := Option.some.inj hv
          obtain ⟨c, dv, l1, l2, l3⟩ := id B2
          exact ⟨2, f2, c, dv, by omega, rfl, l1, l2, l3, s, mc, st, wr, si, p, S, W, G, me, y, h, _, r, sc, ns, O', W'.R, rfl, fun H2 R2 b2 => fin _ _ f2 rfl rfl H2 R2 b2⟩
        · obtain rfl : V.ref f3 = v := Option.some.inj hv
          obtain ⟨c, dv, l1, l2, l3⟩ := id B3
          exact ⟨3, f3, c, dv, by omega, rfl, l1, l2, l3, s, mc, st, wr, si, p, S, W, G, me, y, h, _, r, sc, ns, O', W'.R, rfl, fun H2 R2 b2 => fin _ _ f3 rfl rfl H2 R2 b2⟩
      · rintro σ H' ⟨⟨o11, rfl⟩, W', wd', l4', _⟩
        have O' := W'.so R0 L.so
        have lm' : IT H' lm y := W'.bn _ _ (R0.nr L.lm (fun _ q => nomatch q)) L.lm (fun _ q => nomatch q)
        obtain ⟨dx, hs⟩ := O'.ob
        refine ⟨_, rfl, by show 1 ≤ sizeLine; decide, fun a na => ⟨a, 4, [.str "number"], rfl, rfl, upd_same, by decide, by decide, by show 4 ≤ sizeLine; decide, fun b nb => ?_⟩⟩
        have s1 := same_upd (o := .lst [.str "number"]) na
        have s2 := same_upd (o := .lst [.str "number", .str "number", .str "number", .str "number"]) nb
        have s12 := s1.trans s2
        refine ⟨.list [.str "number", .str "number", .str "number", .str "number"], .list [.str "number", .str "number", .str "number", .str "number"], .lst (SqL.of (xs := [.str "number", .str "number", .str "number", .str "number"]) (s12 _ _ wd')) (.cons (.str _) (.cons (.str _) (.cons (.str _) (.cons (.str _) .nil)))), .lst (SqL.of (xs := [.str "number", .str "number", .str "number", .str "number"]) upd_same) (.cons (.str _) (.cons (.str _) (.cons (.str _) (.cons (.str _) .nil)))), by decide +kernel, by decide +kernel, true, congrArg V.bl (by decide +kernel), iteT ?_⟩
        refine ⟨_, rfl, s, dx, _, rfl, s12 _ _ hs, s, dx, _, _, rfl, s12 _ _ hs, fl_c, _, rfl, .tuple (y.map PyData.int), .tuple (y.map PyData.int), .tup (SqT.of (s12 _ _ O'.me)) (dp_ints y), .tup (SqT.of (s12 _ _ lm')) (dp_ints y), shaped_ints y, shaped_ints y, ?_⟩
        have e : PyData.eqv (.tuple (y.map PyData.int)) (.tuple (y.map PyData.int)) = true := by simp [PyData.eqv, eqv_ints]
        rw [e]
        exact k _

end
end Dr
set_option maxRecDepth 100000
set_option maxHeartbeats 0
/-! The head: what the top leaves, by names; properties too. -/
namespace Dr
open PySem PySem.Spec PyProof.Rows L2
/-! ### the defs and the facts that are looked at -/
def q0 : He.DefD := ⟨("is_number", none), "is_number", "is_number", defArgs sNum, defBody sNum, defScope sNum, [], []⟩
def q1 : He.DefD := ⟨("is_row", none), "is_row", "is_row", defArgs sIsRow, defBody sIsRow, defScope sIsRow, [], []⟩
def q2 : He.DefD := ⟨("inverse", none), "inverse", "inverse", defArgs sInv, defBody sInv, defScope sInv, [], []⟩
def q3 : He.DefD := ⟨("added", none), "added", "added", defArgs sAdded, defBody sAdded, defScope sAdded, [.int 1], []⟩
def q4 : He.DefD := ⟨("scaled", none), "scaled", "scaled", defArgs sScaled, defBody sScaled, defScope sScaled, [], []⟩
def q5 : He.DefD := ⟨("met", none), "met", "met", defArgs sMet, defBody sMet, defScope sMet, [], []⟩
def q6 : He.DefD := ⟨("times", none), "times", "times", defArgs sTimes, defBody sTimes, defScope sTimes, [], []⟩
def q7 : He.DefD := ⟨("lead", none), "lead", "lead", defArgs sLead, defBody sLead, defScope sLead, [], []⟩
def q8 : He.DefD := ⟨("reduced", none), "reduced", "reduced", defArgs sReduced, defBody sReduced, defScope sReduced, [], []⟩
def q9 : He.DefD := ⟨("are_rows", none), "are_rows", "are_rows", defArgs sAreRows, defBody sAreRows, defScope sAreRows, [], []⟩
def q10 : He.DefD := ⟨("need_machine", none), "need_machine", "need_machine", defArgs sNeed, defBody sNeed, defScope sNeed, [], []⟩
def q11 : He.DefD := ⟨("stirred", none), "stirred", "stirred", defArgs sStirred, defBody sStirred, defScope sStirred, [], []⟩
def q12 : He.DefD := ⟨("deed_done", none), "deed_done", "deed_done", defArgs sDone, defBody sDone, defScope sDone, [], []⟩
def q13 : He.DefD := ⟨("_law_taken", none), "_law_taken", "_law_taken", defArgs sTaken, defBody sTaken, defScope sTaken, [], []⟩
def q14 : He.DefD := ⟨("_law_pick", none), "_law_pick", "_law_pick", defArgs sPick, defBody sPick, defScope sPick, [], []⟩
def q15 : He.DefD := ⟨("_law_alike", none), "_law_alike", "_law_alike", defArgs sAlike, defBody sAlike, defScope sAlike, [], []⟩
def q16 : He.DefD := ⟨("_law_row", none), "_law_row", "_law_row", defArgs sRow, defBody sRow, defScope sRow, [], []⟩
def q17 : He.DefD := ⟨("_law_stir", none), "_law_stir", "_law_stir", defArgs sStir, defBody sStir, defScope sStir, [], []⟩
def q18 : He.DefD := ⟨("_law_machine", none), "_law_machine", "_law_machine", defArgs sMach, defBody sMach, defScope sMach, [], []⟩
def q19 : He.DefD := ⟨("_law_met", none), "_law_met", "_law_met", defArgs sLMet, defBody sLMet, defScope sLMet, [], []⟩
def q20 : He.DefD := ⟨("_law_added", none), "_law_added", "_law_added", defArgs sLAdded, defBody sLAdded, defScope sLAdded, [], []⟩
def q21 : He.DefD := ⟨("_law_stirred", none), "_law_stirred", "_law_stirred", defArgs sLStirred, defBody sLStirred, defScope sLStirred, [], []⟩
def q22 : He.DefD := ⟨("_law_deed", none), "_law_deed", "_law_deed", defArgs sLDeed, defBody sLDeed, defScope sLDeed, [], []⟩
def q23 : He.DefD := ⟨("law", none), "law", "law", defArgs sLaw, defBody sLaw, defScope sLaw, [], []⟩
def q24 : He.DefD := ⟨("Store", some "__init__"), "__init__", "Store.__init__", defArgs sInit, defBody sInit, defScope sInit, [], []⟩
def q25 : He.DefD := ⟨("Store", some "do"), "do", "Store.do", defArgs sDo, defBody sDo, defScope sDo, [], []⟩
def q26 : He.DefD := ⟨("Store", some "need_plug"), "need_plug", "Store.need_plug", defArgs sPlug, defBody sPlug, defScope sPlug, [], []⟩
def q27 : He.DefD := ⟨("Store", some "see"), "see", "Store.see", defArgs sSee, defBody sSee, defScope sSee, [], []⟩
def q28 : He.DefD := ⟨("Store", some "join"), "join", "Store.join", defArgs sJoin, defBody sJoin, defScope sJoin, [.bl false], []⟩
def q29 : He.DefD := ⟨("Store", some "write"), "write", "Store.write", defArgs sWrite, defBody sWrite, defScope sWrite, [.bl false], []⟩
def q30 : He.DefD := ⟨("Store", some "put"), "put", "Store.put", defArgs sPut, defBody sPut, defScope sPut, [], []⟩
def q31 : He.DefD := ⟨("Store", some "wait"), "wait", "Store.wait", defArgs sWait, defBody sWait, defScope sWait, [], []⟩
def fnL : List He.DefD := [q0, q1, q2, q3, q4, q5, q6, q7, q8, q9, q10, q11, q12, q13, q14, q15, q16, q17, q18, q19, q20, q21, q22, q23, q24, q25, q26, q27, q28, q29, q30, q31]
def faL : List He.Fa := [.glo "is_number", .glo "is_row", .glo "inverse", .glo "added", .glo "scaled", .glo "met", .glo "times", .glo "lead", .glo "reduced", .glo "are_rows", .glo "need_machine", .glo "stirred", .glo "deed_done", .glo "_law_taken", .glo "_law_pick", .glo "_law_alike", .glo "_law_row", .glo "_law_stir", .glo "_law_machine", .glo "_law_met", .glo "_law_added", .glo "_law_stirred", .glo "_law_deed", .glo "law", .glo "Store", .glo "BadNumber", .glo "PRIMES", .int "MOST_CELLS" 4, .int "MOST_PLUGS" 4, .free "len", .free "isinstance", .free "int", .free "bool", .free "tuple", .free "list", .free "str", .free "range", .free "zip", .free "sum", .free "sorted", .free "enumerate", .free "all", .cls "Store", .noat "Store" "machine", .noat "Store" "cells", .noat "Store" "finger", .noat "Store" "ticks", .mkr "Store", .meth "Store" "do", .meth "Store" "need_plug", .meth "Store" "see", .meth "Store" "join", .meth "Store" "write", .meth "Store" "put", .meth "Store" "wait", .exc "BadNumber", .exm "BadNumber" "BadNumber" true]
def tfL : List He.Defn := [("law", none), ("is_row", none), ("are_rows", none)]
/-! ### properties -/
/-- a property of Store: its name, its getter's qualified name, the getter's statement -/
structure PrD where
  m : Str
  qual : Str
  st : Stmt
def prA (K : PySem.W.Frag) (m : Str) : Addr := He.ma K (He.ga K "Store") m
def prG (K : PySem.W.Frag) (m : Str) : Addr := match PySem.W.recIn K (prA K m) "property" with
  | some (.ref g :: _) => g
  | _ => 0
def prF (K : PySem.W.Frag) (m : Str) : He.FnW := match K.lookup (prG K m) with
  | some ⟨_, _, .func fd, _⟩ => some (fd.name, fd.qualname, fd.params, fd.body, fd.scope, fd.globals, fd.closure, fd.builtins)
  | _ => none
def PrD.val (d : PrD) : He.FnW := some (d.m, d.qual, defArgs d.st, .stmts (defBody d.st), defScope d.st, mainGlobals, [], builtinsNs)
def prR (K : PySem.W.Frag) (m : Str) : Bool := match PySem.W.recIn K (prA K m) "property" with
  | some (.ref _ :: _) => true
  | _ => false
def prC (K : PySem.W.Frag) (d : PrD) : Bool := match K.lookup (prG K d.m) with
  | some ⟨_, _, .func fd, _⟩ => PySem.W.codeIn K fd.code d.qual && He.dflB K fd.defaults []
  | _ => false
def prB (K : PySem.W.Frag) (d : PrD) : Bool := He.eqO (PySem.W.findIn K (.ref (He.ga K "Store")) d.m) (some (some (.ref (prA K d.m)))) && (He.eqO (PySem.W.specialIn K (.ref (prA K d.m)) "__get__") (some (some (.builtin "property.__get__"))) &&
  (decide (PySem.W.takesIn K (.ref (prA K d.m)) = some true) && (prR K d.m && (PySem.W.keepIn K (.ref (prG K d.m)) && prC K d))))
theorem prop_ok {K : PySem.W.Frag} {d : PrD} (h : prB K d = true) (e : prF K d.m = d.val) : PropOf K (He.ga K "Store") d.m (prA K d.m) (prG K d.m) ∧ ∃ fd, Fun K d.m d.qual d.st (prG K d.m) fd := by
  obtain ⟨h1, h⟩ := He.ba h
  obtain ⟨h2, h⟩ := He.ba h
  obtain ⟨h3, h⟩ := He.ba h
  obtain ⟨h4, h⟩ := He.ba h
  obtain ⟨h5, h6⟩ := He.ba h
  refine ⟨⟨He.eqO_ok h1, He.eqO_ok h2, of_decide_eq_true h3, ?_⟩, ?_⟩
  · unfold prR at h4
    unfold prG
    split at h4
    · rename_i g rest hg
      rw [hg]
      exact ⟨rest, rfl⟩
    · cases h4
  · unfold prC at h6
    unfold prF at e
    split at h6
    · rename_i oc od fd osl hl
      rw [hl] at e
      obtain ⟨k1, k2⟩ := He.ba h6
      obtain ⟨n1, n2, n3, n4, n5, n6, n7, n8, n9, n10, n11, n12, n13, n14, n15⟩ := fd
      have e2 : (some (n1, n2, n3, n4, n5, n6, n7, n15) : He.FnW) = some (d.m, d.qual, defArgs d.st, .stmts (defBody d.st), defScope d.st, mainGlobals, [], builtinsNs) := e
      simp only [Option.some.injEq, Prod.mk.injEq] at e2
      obtain ⟨w1, w2, w3, w4, w5, w6, w7, w8⟩ := e2
      subst w1 w2 w3 w4 w5 w6 w7 w8
      have hd := He.dflB_ok k2
      rcases hd with ⟨_, hdv⟩ | ⟨z, _⟩
      · have hdv : n8 = .none := hdv
        subst hdv
        exact ⟨_, ⟨oc, od, n9, n10, n11, n12, n13, n14, osl, rfl, hl, k1⟩, h5⟩
      · exact absurd rfl z
    · cases h6
def prL : List PrD := [⟨"tick", "Store.tick", sTick⟩, ⟨"held", "Store.held", sHeld⟩, ⟨"own", "Store.own", sOwn⟩]
/-- the Bool: PRIMES, the properties, three tables -/
def exB (K : PySem.W.Frag) : Bool := He.tupB K "PRIMES" [.int 2, .int 3, .int 5, .int 7] && ((prL.all fun d => prB K d) && (!decide ((He.cT K ("law", none)).2 = (He.cT K ("is_row", none)).2) && !decide ((He.cT K ("law", none)).2 = (He.cT K ("are_rows", none)).2)))
/-! ### the Hook: the library's, and the getters -/
abbrev AlP : Type := He.AlX × List He.FnW
def obsP (g : Addr → Option Obj) : AlP := (He.obsX 5 faL fnL [] tfL exB g, prL.map fun d => prF (He.frT g (He.asD g 5)) d.m)
def valP (w : World) : AlP := (He.valX fnL [] w, prL.map PrD.val)
def hookP : PySem.W.Hook where
  α := AlP
  obs := fun s => obsP s.heap.get?
  val := valP
  says := fun w h => ∃ K : PySem.W.Frag, K.In h ∧ (He.SaysX faL fnL [] tfL exB w h K ∧ (prL.map fun d => prF K d.m) = prL.map PrD.val)
  of := fun _ _ e => ⟨_, He.frT_in, He.saysX_of (congrArg (fun z : AlP => z.1) e), congrArg (fun z : AlP => z.2) e⟩
  keeps := fun _ _ _ ⟨K, hK, c, e⟩ k => ⟨K, PySem.W.Frag.In.keeps hK k, ⟨c.t, c.more, c.hd, c.out, fun p hp => k _ _ (c.empty p hp)⟩, e⟩
theorem obsP_eq {g : Addr → Option Obj} {s : Shared} (h : ∀ a, g a = s.heap.get? a) : obsP g = hookP.obs s := by
  have e : g = s.heap.get? := funext h
  subst e; rfl
abbrev rowR : PySem.W.OpenRow := PySem.W.OpenLaw.row PySem.Challenge.rw_driftstore_k12_whole_benches
def obP (s : PySem.W.SharedT) : AlP := obsP (HandSHeadRun.getT s)
theorem obP_eq (s : PySem.W.SharedT) : obP s = hookP.obs s.abs := obsP_eq (HandSHeadRun.getT_eq s)
def looseN : List Str := ["StoreError", "BadMachine", "BadNumber", "PRIMES", "is_number", "is_row", "inverse", "added", "scaled", "met", "times", "lead", "reduced", "MOST_CELLS", "MOST_PLUGS", "are_rows", "need_machine", "stirred", "deed_done", "Store",
  "_law_taken", "_law_pick", "_law_alike", "_law_row", "_law_stir", "_law_machine", "_law_met", "_law_added", "_law_stirred", "_law_deed"]
theorem runP (w : World) : HandSHeadRun.RunEq rowR (PySem.W.view rowR.prog [35]) hookP obP 4000 looseN w := by
  intro os
  kernel_rfl
end Dr
set_option maxRecDepth 100000
set_option maxHeartbeats 4000000
namespace Dr
open PySem PySem.Spec PyProof.Rows L2 DrG DrL
theorem fun_of {K : PySem.W.Frag} {x q : Str} {st : Stmt} {f : Addr} {fd : FuncData} (F : FunD K x q (defArgs st) (defBody st) (defScope st) [] [] f fd) : Fun K x q st f fd := by
  obtain ⟨oc, od, dV, kV, doc, pm, an, cdv, ct, osl, rfl, lk, hcd, hD, hK⟩ := F.ex
  rcases hD with ⟨_, rfl⟩ | ⟨e, _⟩
  · exact ⟨⟨oc, od, kV, doc, pm, an, cdv, ct, osl, rfl, lk, hcd⟩, F.kp⟩
  · exact absurd rfl e
/-- the def's code object, as cT tells it -/
theorem code_of {K : PySem.W.Frag} {p : He.Defn} {x q : Str} {st : Stmt} {fd : FuncData} (F : Fun K x q st (He.fAd K p) fd) : fd.code = .ref (He.cT K p).1 := by
  obtain ⟨oc, od, kV, doc, pm, an, cdv, ct, osl, rfl, lk, hcd⟩ := F.ex
  obtain ⟨c, rfl⟩ := He.codeIn_ref hcd
  have e := He.codeOf_eq lk (c := c) rfl
  show Value.ref c = .ref (He.codeOf K p)
  rw [e]
theorem hasTab_of {K : PySem.W.Frag} {base : Heap} {mg : Str → Option Value} {p : He.Defn} {x q : Str} {st : Stmt} {fd : FuncData} (F : Fun K x q st (He.fAd K p) fd) (t : LamX.TabB base mg (He.cT K p).1 (He.cT K p).2) : HasTab base mg fd (He.cT K p).2 :=
  ⟨_, code_of F, ⟨t.code, t.bm, t.gP⟩⟩
theorem facts {P : Program} {w : World} {K : PySem.W.Frag} {h : Heap} {mg : Str → Option Value} {fa : Addr} (X : K.In h) (G : h.Ns mainGlobals mg) (hfa : mg ("law" : Str) = some (.ref fa)) (c : He.SaysX faL fnL [] tfL exB w h K) (cp : (prL.map fun d => prF K d.m) = prL.map PrD.val) :
    ∃ fd : FuncData, (∀ (s : Shared) (v : Value), BindsTo s fd ⟨[v], []⟩ [("_law_script", v)]) ∧ ∀ base : Heap, K.In base → base.Ns mainGlobals mg → (∀ p ∈ tfL.map (He.cT K), LamX.TabB base mg p.1 p.2) →
      FnOk P w K mg base CX0 9 fa fd ["_law_script"] (spLaw K (He.cT K ("law", none)).2 (He.cT K ("is_row", none)).2 (He.cT K ("are_rows", none)).2) := by
  have cd := c.t.d
  have fact : ∀ (i : Nat) {f : He.Fa}, faL[i]? = some f → f.ok K = true := fun i {f} e => cd.fact i e
  obtain ⟨d0, D0⟩ := cd.def_ 0 (d := q0) rfl
  obtain ⟨d1, D1⟩ := cd.def_ 1 (d := q1) rfl
  obtain ⟨d2, D2⟩ := cd.def_ 2 (d := q2) rfl
  obtain ⟨d3, D3⟩ := cd.def_ 3 (d := q3) rfl
  obtain ⟨d4, D4⟩ := cd.def_ 4 (d := q4) rfl
  obtain ⟨d5, D5⟩ := cd.def_ 5 (d := q5) rfl
  obtain ⟨d6, D6⟩ := cd.def_ 6 (d := q6) rfl
  obtain ⟨d7, D7⟩ := cd.def_ 7 (d := q7) rfl
  obtain ⟨d8, D8⟩ := cd.def_ 8 (d := q8) rfl
  obtain ⟨d9, D9⟩ := cd.def_ 9 (d := q9) rfl
  obtain ⟨d10, D10⟩ := cd.def_ 10 (d := q10) rfl
  obtain ⟨d11, D11⟩ := cd.def_ 11 (d := q11) rfl
  obtain ⟨d12, D12⟩ := cd.def_ 12 (d := q12) rfl
  obtain ⟨d13, D13⟩ := cd.def_ 13 (d := q13) rfl
  obtain ⟨d14, D14⟩ := cd.def_ 14 (d := q14) rfl
  obtain ⟨d15, D15⟩ := cd.def_ 15 (d := q15) rfl
  obtain ⟨d16, D16⟩ := cd.def_ 16 (d := q16) rfl
  obtain ⟨d17, D17⟩ := cd.def_ 17 (d := q17) rfl
  obtain ⟨d18, D18⟩ := cd.def_ 18 (d := q18) rfl
  obtain ⟨d19, D19⟩ := cd.def_ 19 (d := q19) rfl
  obtain ⟨d20, D20⟩ := cd.def_ 20 (d := q20) rfl
  obtain ⟨d21, D21⟩ := cd.def_ 21 (d := q21) rfl
  obtain ⟨d22, D22⟩ := cd.def_ 22 (d := q22) rfl
  obtain ⟨d23, D23⟩ := cd.def_ 23 (d := q23) rfl
  obtain ⟨d24, D24⟩ := cd.def_ 24 (d := q24) rfl
  obtain ⟨d25, D25⟩ := cd.def_ 25 (d := q25) rfl
  obtain ⟨d26, D26⟩ := cd.def_ 26 (d := q26) rfl
  obtain ⟨d27, D27⟩ := cd.def_ 27 (d := q27) rfl
  obtain ⟨d28, D28⟩ := cd.def_ 28 (d := q28) rfl
  obtain ⟨d29, D29⟩ := cd.def_ 29 (d := q29) rfl
  obtain ⟨d30, D30⟩ := cd.def_ 30 (d := q30) rfl
  obtain ⟨d31, D31⟩ := cd.def_ 31 (d := q31) rfl
  have F0 : Fun K "is_number" "is_number" sNum (He.fAd K ("is_number", none)) d0 := fun_of D0
  have F1 : Fun K "is_row" "is_row" sIsRow (He.fAd K ("is_row", none)) d1 := fun_of D1
  have F2 : Fun K "inverse" "inverse" sInv (He.fAd K ("inverse", none)) d2 := fun_of D2
  have F3 : FunD K "added" "added" (defArgs sAdded) (defBody sAdded) (defScope sAdded) [.int 1] [] (He.fAd K ("added", none)) d3 := D3
  have F4 : Fun K "scaled" "scaled" sScaled (He.fAd K ("scaled", none)) d4 := fun_of D4
  have F5 : Fun K "met" "met" sMet (He.fAd K ("met", none)) d5 := fun_of D5
  have F6 : Fun K "times" "times" sTimes (He.fAd K ("times", none)) d6 := fun_of D6
  have F7 : Fun K "lead" "lead" sLead (He.fAd K ("lead", none)) d7 := fun_of D7
  have F8 : Fun K "reduced" "reduced" sReduced (He.fAd K ("reduced", none)) d8 := fun_of D8
  have F9 : Fun K "are_rows" "are_rows" sAreRows (He.fAd K ("are_rows", none)) d9 := fun_of D9
  have F10 : Fun K "need_machine" "need_machine" sNeed (He.fAd K ("need_machine", none)) d10 := fun_of D10
  have F11 : Fun K "stirred" "stirred" sStirred (He.fAd K ("stirred", none)) d11 := fun_of D11
  have F12 : Fun K "deed_done" "deed_done" sDone (He.fAd K ("deed_done", none)) d12 := fun_of D12
  have F13 : Fun K "_law_taken" "_law_taken" sTaken (He.fAd K ("_law_taken", none)) d13 := fun_of D13
  have F14 : Fun K "_law_pick" "_law_pick" sPick (He.fAd K ("_law_pick", none)) d14 := fun_of D14
  have F15 : Fun K "_law_alike" "_law_alike" sAlike (He.fAd K ("_law_alike", none)) d15 := fun_of D15
  have F16 : Fun K "_law_row" "_law_row" sRow (He.fAd K ("_law_row", none)) d16 := fun_of D16
  have F17 : Fun K "_law_stir" "_law_stir" sStir (He.fAd K ("_law_stir", none)) d17 := fun_of D17
  have F18 : Fun K "_law_machine" "_law_machine" sMach (He.fAd K ("_law_machine", none)) d18 := fun_of D18
  have F19 : Fun K "_law_met" "_law_met" sLMet (He.fAd K ("_law_met", none)) d19 := fun_of D19
  have F20 : Fun K "_law_added" "_law_added" sLAdded (He.fAd K ("_law_added", none)) d20 := fun_of D20
  have F21 : Fun K "_law_stirred" "_law_stirred" sLStirred (He.fAd K ("_law_stirred", none)) d21 := fun_of D21
  have F22 : Fun K "_law_deed" "_law_deed" sLDeed (He.fAd K ("_law_deed", none)) d22 := fun_of D22
  have F23 : Fun K "law" "law" sLaw (He.fAd K ("law", none)) d23 := fun_of D23
  have F24 : Fun K "__init__" "Store.__init__" sInit (He.fAd K ("Store", some "__init__")) d24 := fun_of D24
  have F25 : Fun K "do" "Store.do" sDo (He.fAd K ("Store", some "do")) d25 := fun_of D25
  have F26 : Fun K "need_plug" "Store.need_plug" sPlug (He.fAd K ("Store", some "need_plug")) d26 := fun_of D26
  have F27 : Fun K "see" "Store.see" sSee (He.fAd K ("Store", some "see")) d27 := fun_of D27
  have F28 : FunD K "join" "Store.join" (defArgs sJoin) (defBody sJoin) (defScope sJoin) [.bl false] [] (He.fAd K ("Store", some "join")) d28 := D28
  have F29 : FunD K "write" "Store.write" (defArgs sWrite) (defBody sWrite) (defScope sWrite) [.bl false] [] (He.fAd K ("Store", some "write")) d29 := D29
  have F30 : Fun K "put" "Store.put" sPut (He.fAd K ("Store", some "put")) d30 := fun_of D30
  have F31 : Fun K "wait" "Store.wait" sWait (He.fAd K ("Store", some "wait")) d31 := fun_of D31
  have B0 : Binds K d0 ["value", "low", "high"] [] := F0.binds fun _ _ _ _ _ _ us hl => match us, hl with | [_, _, _], _ => rfl
  have B1 : Binds K d1 ["prime", "value", "many"] [] := F1.binds fun _ _ _ _ _ _ us hl => match us, hl with | [_, _, _], _ => rfl
  have B2 : Binds K d2 ["prime", "number"] [] := F2.binds fun _ _ _ _ _ _ us hl => match us, hl with | [_, _], _ => rfl
  have B3 : Binds K d3 ["prime", "one", "other", "factor"] [] := by
    obtain ⟨ds, hv, hb⟩ := F3.binds1 (ps := ["prime", "one", "other", "factor"]) 4 1 (by simp) rfl fun T kV doc pm an cdv ct us its hl hi => match us, hl, its, hi with | [_, _, _, _], _, [_], _ => ⟨_, rfl, rfl⟩
    cases hv
    exact hb
  have B4 : Binds K d4 ["prime", "row", "factor"] [] := F4.binds fun _ _ _ _ _ _ us hl => match us, hl with | [_, _, _], _ => rfl
  have B5 : Binds K d5 ["prime", "one", "other"] [] := F5.binds fun _ _ _ _ _ _ us hl => match us, hl with | [_, _, _], _ => rfl
  have B6 : Binds K d6 ["prime", "table", "column"] [] := F6.binds fun _ _ _ _ _ _ us hl => match us, hl with | [_, _, _], _ => rfl
  have B7 : Binds K d7 ["row"] [] := F7.binds fun _ _ _ _ _ _ us hl => match us, hl with | [_], _ => rfl
  have B8 : Binds K d8 ["prime", "rows"] [] := F8.binds fun _ _ _ _ _ _ us hl => match us, hl with | [_, _], _ => rfl
  have B9 : Binds K d9 ["prime", "value", "low", "high", "many"] [] := F9.binds fun _ _ _ _ _ _ us hl => match us, hl with | [_, _, _, _, _], _ => rfl
  have B10 : Binds K d10 ["value"] [] := F10.binds fun _ _ _ _ _ _ us hl => match us, hl with | [_], _ => rfl
  have B11 : Binds K d11 ["machine", "memory"] [] := F11.binds fun _ _ _ _ _ _ us hl => match us, hl with | [_, _], _ => rfl
  have B12 : Binds K d12 ["machine", "memory", "hand", "deed"] [] := F12.binds fun _ _ _ _ _ _ us hl => match us, hl with | [_, _, _, _], _ => rfl
  have B13 : Binds K d13 ["_law_row_here", "_law_many"] [] := F13.binds fun _ _ _ _ _ _ us hl => match us, hl with | [_, _], _ => rfl
  have B14 : Binds K d14 ["_law_row_here", "_law_things"] [] := F14.binds fun _ _ _ _ _ _ us hl => match us, hl with | [_, _], _ => rfl
  have B15 : Binds K d15 ["_law_found", "_law_due"] [] := F15.binds fun _ _ _ _ _ _ us hl => match us, hl with | [_, _], _ => rfl
  have B16 : Binds K d16 ["_law_row_here", "_law_prime", "_law_many"] [] := F16.binds fun _ _ _ _ _ _ us hl => match us, hl with | [_, _, _], _ => rfl
  have B17 : Binds K d17 ["_law_row_here", "_law_prime", "_law_many"] [] := F17.binds fun _ _ _ _ _ _ us hl => match us, hl with | [_, _, _], _ => rfl
  have B18 : Binds K d18 ["_law_row_here", "_law_primes", "_law_cells", "_law_plugs"] [] := F18.binds fun _ _ _ _ _ _ us hl => match us, hl with | [_, _, _, _], _ => rfl
  have B19 : Binds K d19 ["_law_prime", "_law_one", "_law_other"] [] := F19.binds fun _ _ _ _ _ _ us hl => match us, hl with | [_, _, _], _ => rfl
  have B20 : Binds K d20 ["_law_prime", "_law_one", "_law_other", "_law_factor"] [] := F20.binds fun _ _ _ _ _ _ us hl => match us, hl with | [_, _, _, _], _ => rfl
  have B21 : Binds K d21 ["_law_machine_here", "_law_memory"] [] := F21.binds fun _ _ _ _ _ _ us hl => match us, hl with | [_, _], _ => rfl
  have B22 : Binds K d22 ["_law_machine_here", "_law_memory", "_law_hand", "_law_one"] [] := F22.binds fun _ _ _ _ _ _ us hl => match us, hl with | [_, _, _, _], _ => rfl
  have B23 : Binds K d23 ["_law_script"] [] := F23.binds fun _ _ _ _ _ _ us hl => match us, hl with | [_], _ => rfl
  have B24 : Binds K d24 ["self", "machine"] [] := F24.binds fun _ _ _ _ _ _ us hl => match us, hl with | [_, _], _ => rfl
  have B25 : Binds K d25 ["self", "deed"] [] := F25.binds fun _ _ _ _ _ _ us hl => match us, hl with | [_, _], _ => rfl
  have B26 : Binds K d26 ["self", "value", "rows"] [] := F26.binds fun _ _ _ _ _ _ us hl => match us, hl with | [_, _, _], _ => rfl
  have B27 : Binds K d27 ["self", "sight"] [] := F27.binds fun _ _ _ _ _ _ us hl => match us, hl with | [_, _], _ => rfl
  have B28 : Binds K d28 ["self", "sight", "is_taken"] [] := by
    obtain ⟨ds, hv, hb⟩ := F28.binds1 (ps := ["self", "sight", "is_taken"]) 3 1 (by simp) rfl fun T kV doc pm an cdv ct us its hl hi => match us, hl, its, hi with | [_, _, _], _, [_], _ => ⟨_, rfl, rfl⟩
    cases hv
    exact hb
  have B29 : Binds K d29 ["self", "plug", "is_taken"] [] := by
    obtain ⟨ds, hv, hb⟩ := F29.binds1 (ps := ["self", "plug", "is_taken"]) 3 1 (by simp) rfl fun T kV doc pm an cdv ct us its hl hi => match us, hl, its, hi with | [_, _, _], _, [_], _ => ⟨_, rfl, rfl⟩
    cases hv
    exact hb
  have B30 : Binds K d30 ["self", "number"] [] := F30.binds fun _ _ _ _ _ _ us hl => match us, hl with | [_, _], _ => rfl
  have B31 : Binds K d31 ["self"] [] := F31.binds fun _ _ _ _ _ _ us hl => match us, hl with | [_], _ => rfl
  obtain ⟨dsJ, vJ, bJ⟩ := F28.binds1 (ps := ["self", "sight", "is_taken"]) 2 0 (by simp) rfl fun T kV doc pm an cdv ct us its hl hi => match us, hl, its, hi with | [_, _], _, [_], _ => ⟨_, rfl, rfl⟩
  have C0 : Cd K mg "is_number" (He.fAd K ("is_number", none)) d0 ["value", "low", "high"] := ⟨He.glo_ok X G (fact 0 (f := .glo "is_number") rfl), F0.kp, B0⟩
  have C1 : Cd K mg "is_row" (He.fAd K ("is_row", none)) d1 ["prime", "value", "many"] := ⟨He.glo_ok X G (fact 1 (f := .glo "is_row") rfl), F1.kp, B1⟩
  have C2 : Cd K mg "inverse" (He.fAd K ("inverse", none)) d2 ["prime", "number"] := ⟨He.glo_ok X G (fact 2 (f := .glo "inverse") rfl), F2.kp, B2⟩
  have C3 : Cd K mg "added" (He.fAd K ("added", none)) d3 ["prime", "one", "other", "factor"] := ⟨He.glo_ok X G (fact 3 (f := .glo "added") rfl), F3.kp, B3⟩
  have C4 : Cd K mg "scaled" (He.fAd K ("scaled", none)) d4 ["prime", "row", "factor"] := ⟨He.glo_ok X G (fact 4 (f := .glo "scaled") rfl), F4.kp, B4⟩
  have C5 : Cd K mg "met" (He.fAd K ("met", none)) d5 ["prime", "one", "other"] := ⟨He.glo_ok X G (fact 5 (f := .glo "met") rfl), F5.kp, B5⟩
  have C6 : Cd K mg "times" (He.fAd K ("times", none)) d6 ["prime", "table", "column"] := ⟨He.glo_ok X G (fact 6 (f := .glo "times") rfl), F6.kp, B6⟩
  have C7 : Cd K mg "lead" (He.fAd K ("lead", none)) d7 ["row"] := ⟨He.glo_ok X G (fact 7 (f := .glo "lead") rfl), F7.kp, B7⟩
  have C8 : Cd K mg "reduced" (He.fAd K ("reduced", none)) d8 ["prime", "rows"] := ⟨He.glo_ok X G (fact 8 (f := .glo "reduced") rfl), F8.kp, B8⟩
  have C9 : Cd K mg "are_rows" (He.fAd K ("are_rows", none)) d9 ["prime", "value", "low", "high", "many"] := ⟨He.glo_ok X G (fact 9 (f := .glo "are_rows") rfl), F9.kp, B9⟩
  have C10 : Cd K mg "need_machine" (He.fAd K ("need_machine", none)) d10 ["value"] := ⟨He.glo_ok X G (fact 10 (f := .glo "need_machine") rfl), F10.kp, B10⟩
  have C11 : Cd K mg "stirred" (He.fAd K ("stirred", none)) d11 ["machine", "memory"] := ⟨He.glo_ok X G (fact 11 (f := .glo "stirred") rfl), F11.kp, B11⟩
  have C12 : Cd K mg "deed_done" (He.fAd K ("deed_done", none)) d12 ["machine", "memory", "hand", "deed"] := ⟨He.glo_ok X G (fact 12 (f := .glo "deed_done") rfl), F12.kp, B12⟩
  have C13 : Cd K mg "_law_taken" (He.fAd K ("_law_taken", none)) d13 ["_law_row_here", "_law_many"] := ⟨He.glo_ok X G (fact 13 (f := .glo "_law_taken") rfl), F13.kp, B13⟩
  have C14 : Cd K mg "_law_pick" (He.fAd K ("_law_pick", none)) d14 ["_law_row_here", "_law_things"] := ⟨He.glo_ok X G (fact 14 (f := .glo "_law_pick") rfl), F14.kp, B14⟩
  have C15 : Cd K mg "_law_alike" (He.fAd K ("_law_alike", none)) d15 ["_law_found", "_law_due"] := ⟨He.glo_ok X G (fact 15 (f := .glo "_law_alike") rfl), F15.kp, B15⟩
  have C16 : Cd K mg "_law_row" (He.fAd K ("_law_row", none)) d16 ["_law_row_here", "_law_prime", "_law_many"] := ⟨He.glo_ok X G (fact 16 (f := .glo "_law_row") rfl), F16.kp, B16⟩
  have C17 : Cd K mg "_law_stir" (He.fAd K ("_law_stir", none)) d17 ["_law_row_here", "_law_prime", "_law_many"] := ⟨He.glo_ok X G (fact 17 (f := .glo "_law_stir") rfl), F17.kp, B17⟩
  have C18 : Cd K mg "_law_machine" (He.fAd K ("_law_machine", none)) d18 ["_law_row_here", "_law_primes", "_law_cells", "_law_plugs"] := ⟨He.glo_ok X G (fact 18 (f := .glo "_law_machine") rfl), F18.kp, B18⟩
  have C19 : Cd K mg "_law_met" (He.fAd K ("_law_met", none)) d19 ["_law_prime", "_law_one", "_law_other"] := ⟨He.glo_ok X G (fact 19 (f := .glo "_law_met") rfl), F19.kp, B19⟩
  have C20 : Cd K mg "_law_added" (He.fAd K ("_law_added", none)) d20 ["_law_prime", "_law_one", "_law_other", "_law_factor"] := ⟨He.glo_ok X G (fact 20 (f := .glo "_law_added") rfl), F20.kp, B20⟩
  have C21 : Cd K mg "_law_stirred" (He.fAd K ("_law_stirred", none)) d21 ["_law_machine_here", "_law_memory"] := ⟨He.glo_ok X G (fact 21 (f := .glo "_law_stirred") rfl), F21.kp, B21⟩
  have C22 : Cd K mg "_law_deed" (He.fAd K ("_law_deed", none)) d22 ["_law_machine_here", "_law_memory", "_law_hand", "_law_one"] := ⟨He.glo_ok X G (fact 22 (f := .glo "_law_deed") rfl), F22.kp, B22⟩
  have C23 : Cd K mg "law" (He.fAd K ("law", none)) d23 ["_law_script"] := ⟨He.glo_ok X G (fact 23 (f := .glo "law") rfl), F23.kp, B23⟩
  have T : TX mg := ⟨He.free_ok X G (fact 29 (f := .free "len") rfl), He.free_ok X G (fact 30 (f := .free "isinstance") rfl), He.free_ok X G (fact 31 (f := .free "int") rfl), He.free_ok X G (fact 32 (f := .free "bool") rfl), He.free_ok X G (fact 33 (f := .free "tuple") rfl), He.free_ok X G (fact 34 (f := .free "list") rfl), He.free_ok X G (fact 35 (f := .free "str") rfl), He.free_ok X G (fact 36 (f := .free "range") rfl), He.free_ok X G (fact 37 (f := .free "zip") rfl), He.free_ok X G (fact 38 (f := .free "sum") rfl), He.free_ok X G (fact 39 (f := .free "sorted") rfl), He.free_ok X G (fact 40 (f := .free "enumerate") rfl), He.free_ok X G (fact 41 (f := .free "all") rfl)⟩
  have gC := He.glo_ok X G (fact 24 (f := .glo "Store") rfl)
  have gB := He.glo_ok X G (fact 25 (f := .glo "BadNumber") rfl)
  have gP := He.glo_ok X G (fact 26 (f := .glo "PRIMES") rfl)
  have SXf : SX K (He.ga K "Store") := ⟨He.cls_ok (fact 42 (f := .cls "Store") rfl), He.noat_ok (fact 43 (f := .noat "Store" "machine") rfl), He.noat_ok (fact 44 (f := .noat "Store" "cells") rfl), He.noat_ok (fact 45 (f := .noat "Store" "finger") rfl), He.noat_ok (fact 46 (f := .noat "Store" "ticks") rfl)⟩
  obtain ⟨x1, x2, x3, x4⟩ := He.exc_ok (fact 55 (f := .exc "BadNumber") rfl)
  have BXf : BX K mg (He.ga K "BadNumber") := ⟨gB, x1, x2, x3, x4⟩
  have te := He.exm_ok (fact 56 (f := .exm "BadNumber" "BadNumber" true) rfl)
  have MK := He.mkr_ok (fact 47 (f := .mkr "Store") rfl)
  have M25 : Meth K (He.ga K "Store") "do" (He.fAd K ("Store", some "do")) := He.meth_ok (fact 48 (f := .meth "Store" "do") rfl)
  have M26 : Meth K (He.ga K "Store") "need_plug" (He.fAd K ("Store", some "need_plug")) := He.meth_ok (fact 49 (f := .meth "Store" "need_plug") rfl)
  have M27 : Meth K (He.ga K "Store") "see" (He.fAd K ("Store", some "see")) := He.meth_ok (fact 50 (f := .meth "Store" "see") rfl)
  have M28 : Meth K (He.ga K "Store") "join" (He.fAd K ("Store", some "join")) := He.meth_ok (fact 51 (f := .meth "Store" "join") rfl)
  have M29 : Meth K (He.ga K "Store") "write" (He.fAd K ("Store", some "write")) := He.meth_ok (fact 52 (f := .meth "Store" "write") rfl)
  have M30 : Meth K (He.ga K "Store") "put" (He.fAd K ("Store", some "put")) := He.meth_ok (fact 53 (f := .meth "Store" "put") rfl)
  have M31 : Meth K (He.ga K "Store") "wait" (He.fAd K ("Store", some "wait")) := He.meth_ok (fact 54 (f := .meth "Store" "wait") rfl)
  obtain ⟨e1, e2⟩ := He.ba c.more
  obtain ⟨e2, e3⟩ := He.ba e2
  obtain ⟨e3, e4⟩ := He.ba e3
  have CS : Cs K mg := ⟨⟨_, gP, fun H => He.tupB_ok e1 H⟩, He.int_ok X G (fact 27 (f := .int "MOST_CELLS" 4) rfl), He.int_ok X G (fact 28 (f := .int "MOST_PLUGS" 4) rfl)⟩
  have n1 : (He.cT K ("law", none)).2 ≠ (He.cT K ("is_row", none)).2 := fun e => by rw [decide_eq_true e] at e3; cases e3
  have n2 : (He.cT K ("law", none)).2 ≠ (He.cT K ("are_rows", none)).2 := fun e => by rw [decide_eq_true e] at e4; cases e4
  have pr : ∀ (i : Nat) {d : PrD}, prL[i]? = some d → PropOf K (He.ga K "Store") d.m (prA K d.m) (prG K d.m) ∧ ∃ fd, Fun K d.m d.qual d.st (prG K d.m) fd := fun i {d} hd => by
    refine prop_ok (List.all_eq_true.mp e2 d (List.mem_of_getElem? hd)) ?_
    have e5 := congrArg (fun l => l[i]?) cp
    simp only [List.getElem?_map, hd] at e5
    exact Option.some.inj e5
  obtain ⟨P0, p0, Q0⟩ := pr 0 (d := ⟨"tick", "Store.tick", sTick⟩) rfl
  have R0 : Binds K p0 ["self"] [] := Q0.binds fun _ _ _ _ _ _ us hl => match us, hl with | [_], _ => rfl
  obtain ⟨P1, p1, Q1⟩ := pr 1 (d := ⟨"held", "Store.held", sHeld⟩) rfl
  have R1 : Binds K p1 ["self"] [] := Q1.binds fun _ _ _ _ _ _ us hl => match us, hl with | [_], _ => rfl
  obtain ⟨P2, p2, Q2⟩ := pr 2 (d := ⟨"own", "Store.own", sOwn⟩) rfl
  have R2 : Binds K p2 ["self"] [] := Q2.binds fun _ _ _ _ _ _ us hl => match us, hl with | [_], _ => rfl
  have e := hfa.symm.trans (He.glo_ok X G (fact 23 (f := .glo "law") rfl))
  cases e
  refine ⟨d23, fun s v => .of_eq ?_, fun base KB GB TB => ?_⟩
  · obtain ⟨oc, od, kV, doc, pm, an, cdv, ct, osl, e, _⟩ := F23.ex
    subst e
    rfl
  have tb : ∀ p ∈ tfL, LamX.TabB base mg (He.cT K p).1 (He.cT K p).2 := fun p hp => TB _ (List.mem_map.mpr ⟨p, hp, rfl⟩)
  have HL := hasTab_of F23 (tb ("law", none) (List.mem_cons_self))
  have HR := hasTab_of F1 (tb ("is_row", none) (List.mem_cons_of_mem _ List.mem_cons_self))
  have HA := hasTab_of F9 (tb ("are_rows", none) (List.mem_cons_of_mem _ (List.mem_cons_of_mem _ List.mem_cons_self)))
  have GNum := ok_num (P := P) (w := w) (base := base) F0 T
  have GRow := ok_isrow (P := P) (w := w) (p2 := (He.cT K ("are_rows", none)).2) F1 T HR C0 GNum
  have GInv := ok_inv (P := P) (w := w) (base := base) F2 T
  have GAdd := ok_added (P := P) (w := w) (base := base) F3 T
  have GSc := ok_scaled (P := P) (w := w) (base := base) F4 T
  have GMet := ok_met (P := P) (w := w) (base := base) F5 T
  have GTi := ok_times (P := P) (w := w) (base := base) F6 T C5 GMet
  have GLe := ok_lead (P := P) (w := w) (base := base) F7 T
  have GRed := ok_reduced (P := P) (w := w) (base := base) F8 T C3 GAdd C7 GLe C4 GSc C2 GInv
  have GAre := ok_arerows (P := P) (w := w) F9 T HA C1 GRow
  have GNeed := ok_need (P := P) (w := w) (base := base) F10 T CS C0 GNum C9 GAre C8 GRed
  have GSt := ok_stirred (P := P) (w := w) (base := base) F11 C6 GTi
  have GDone := ok_done (P := P) (w := w) (base := base) F12 C11 GSt C5 GMet C3 GAdd
  have GTk := ok_taken (P := P) (w := w) (base := base) F13 T
  have GPk := ok_pick (P := P) (w := w) (base := base) F14 T C13 GTk
  have GAl := ok_alike (P := P) (w := w) (base := base) F15 T C15 2
  have GLR := ok_lrow (P := P) (w := w) (base := base) F16 T C13 GTk
  have GLS := ok_stir (P := P) (w := w) (base := base) F17 T C13 GTk
  have GLM := ok_lmach (P := P) (w := w) (base := base) F18 T C13 GTk C14 GPk C16 GLR C17 GLS
  have GLMet := ok_lmet (P := P) (w := w) (base := base) F19 T
  have GLAdd := ok_ladded (P := P) (w := w) (base := base) F20 T
  have GLSt := ok_lstirred (P := P) (w := w) (base := base) F21 T C19 GLMet
  have GLD := ok_ldeed (P := P) (w := w) (base := base) F22 C21 GLSt C19 GLMet C20 GLAdd
  have GI := ok_init (P := P) (w := w) (base := base) F24 T SXf C10 GNeed
  have GDo := ok_do (P := P) (w := w) (base := base) F25 SXf C12 GDone
  have GPl := ok_plug (P := P) (w := w) (base := base) F26 T BXf C0 GNum
  have Gsee := ok_see (P := P) (w := w) (base := base) F27 SXf M26 B26 GPl M25 B25 GDo
  have Gjoin := ok_join (P := P) (w := w) (base := base) F28 SXf M26 B26 GPl M25 B25 GDo
  have Gwrite := ok_write (P := P) (w := w) (base := base) F29 SXf M26 B26 GPl M25 B25 GDo
  have Gput := ok_put (P := P) (w := w) (base := base) F30 SXf BXf C0 GNum M25 B25 GDo
  have Gwait := ok_wait (P := P) (w := w) (base := base) F31 SXf M25 B25 GDo
  have Gtick := ok_tick (P := P) (w := w) (mg := mg) (base := base) Q0 SXf
  have Gheld := ok_held (P := P) (w := w) (mg := mg) (base := base) Q1 SXf
  have Gown := ok_own (P := P) (w := w) (mg := mg) (base := base) Q2 SXf
  refine ok_law (C := He.ga K "Store") (B := He.ga K "BadNumber") F23 ?_ HL n1 n2
  exact ⟨T, ⟨_, _, _, C13, GTk⟩, ⟨_, _, _, C14, GPk⟩, ⟨_, _, _, C18, GLM⟩, ⟨_, _, _, C22, GLD⟩, ⟨_, _, _, C15, GAl⟩, gC, ⟨_, _, _, MK, B24, GI⟩, SXf, BXf, te,
    ⟨_, _, _, M27, B27, Gsee⟩, ⟨_, _, _, dsJ, M28, B28, bJ, vJ, Gjoin⟩, ⟨_, _, _, M29, B29, Gwrite⟩, ⟨_, _, _, M30, B30, Gput⟩, ⟨_, _, _, M31, B31, Gwait⟩,
    ⟨_, _, _, _, P0, R0, Gtick⟩, ⟨_, _, _, _, P1, R1, Gheld⟩, ⟨_, _, _, _, P2, R2, Gown⟩⟩
end Dr
set_option maxRecDepth 100000
set_option maxHeartbeats 0
namespace Dr
open PySem PySem.Spec PyProof.Rows L2 DrG DrL
theorem lawAt {w : World} {mg : Str → Option Value} {fa : Addr} {h : Heap} (Y : hookP.says w h) (G : h.Ns mainGlobals mg) (hmg : mg ("law" : Str) = some (.ref fa)) : ∃ K : PySem.W.Frag, K.In h ∧ LamX.LawAtS PySem.Challenge.rw_driftstore_k12_whole_benches w K CX0 9 63 "_law_script" mg fa h := by
  obtain ⟨K, KX, c, cp⟩ := Y
  obtain ⟨fd, hb, hF⟩ := facts (P := (PySem.Challenge.rw_driftstore_k12_whole_benches).prog) (w := w) KX G hmg c cp
  refine ⟨K, KX, fd, tfL.map (He.cT K), spLaw K (He.cT K ("law", none)).2 (He.cT K ("is_row", none)).2 (He.cT K ("are_rows", none)).2, ?_, ?_, ?_, hb, ?_, hF⟩
  · intro p hp
    obtain ⟨d, hd, rfl⟩ := List.mem_map.mp hp
    exact c.empty d hd
  · intro p hp
    obtain ⟨d, hd, rfl⟩ := List.mem_map.mp hp
    exact c.out d hd
  · intro p hp
    obtain ⟨d, hd, rfl⟩ := List.mem_map.mp hp
    exact PySem.W.codeHd_of_K KX (c.hd d hd)
  · intro H a ns _ _ hT hS
    have t : ∀ d ∈ tfL, H (He.cT K d).2 = some (.tbl #[]) := fun d hd => hT _ (List.mem_map.mpr ⟨d, hd, rfl⟩)
    exact ⟨a, ns, rfl, hS, t _ List.mem_cons_self, t _ (List.mem_cons_of_mem _ List.mem_cons_self), t _ (List.mem_cons_of_mem _ (List.mem_cons_of_mem _ List.mem_cons_self)), fun _ => rfl⟩
end Dr
open PySem PySem.W PySem.Calls PyProof.Rows
theorem PySem.Challenge.cw_driftstore_k12_whole_benches_holds : PySem.Challenge.rw_driftstore_k12_whole_benches.Holds := by
  w_on; o_law
  refine HandSHeadRun.head_any (r := OpenLaw.row PySem.Challenge.rw_driftstore_k12_whole_benches) (q := view (OpenLaw.row PySem.Challenge.rw_driftstore_k12_whole_benches).prog [35]) (H := Dr.hookP) (ob := Dr.obP) (M := 4000) (loose := Dr.looseN) (d := HandSHeadRun.topDef (OpenLaw.row PySem.Challenge.rw_driftstore_k12_whole_benches).prog 35) (kwd := []) Dr.obP_eq
    (by kernel_rfl) (fun s => by kernel_rfl) Dr.runP (by kernel_rfl) (by kernel_rfl) (by kernel_rfl) (by rfl) (by first | assumption | decide +kernel) (by decide +kernel) ⟨rfl, rfl, rfl, rfl, rfl, by decide +kernel⟩ ?hw ?hc
  case hw => w_witness2
  case hc =>
    refine LamX.walk_ofTsE (l := PySem.Challenge.rw_driftstore_k12_whole_benches) (n := 63) (k := 9) (x := "_law_script") (CX := fun _ => L2.CX0) rfl (by decide) (by kernel_rfl) ⟨rfl, by decide, by decide⟩ ?F (fun _ _ _ _ _ z => z)
    intro w mg fa h Y G hmg0
    have hmg : mg ("law" : PySem.Str) = some (.ref fa) := by
      have e : (HandSHeadRun.topDef (OpenLaw.row PySem.Challenge.rw_driftstore_k12_whole_benches).prog 35).name = ("law" : PySem.Str) := by kernel_rfl
      rw [← e]
      exact hmg0
    exact Dr.lawAt Y G hmg
