import PyProof.Rows.All
import Wide.All
import OpenK.AllK
import Wide.FinOn
import HandS.ForMost
import HandS.Zip
import HandS.Gcd
import HandS.IsInst
import HandS.Wide
import HandS.TupAny
import HandS.SortRule
import HandS.SortInts
import HandS.Style
import HandS.Flow
import KE.DataEq
import KE.SortData
import KE.DataMinMax
import HandS.Conv
import KE.KDictZip
import HandS.Zip0
import HandS.More
import PySem.Challenge.RW_causeworth_k64_values_of_doors
import KE.GoesEnum
import HandS.MapObj
set_option Elab.async false
set_option linter.all false
set_option maxRecDepth 100000
/-! ## what is gone through: a list or a tuple; zip and enumerate over them, the pairs known to have no dict -/
namespace DL
open PySem PySem.Spec PyProof.Rows L2
inductive Kd where
  | l
  | t
namespace Kd
def Sq (K : PySem.W.Frag) : Kd → Hp → Addr → List V → Prop
  | .l => SqL K
  | .t => SqT K
/-- its walker w stands at the place i -/
def Wk : Kd → Heap → Addr → Addr → Nat → Prop
  | .l => fun h w a i => h.IsListIter w a i
  | .t => fun h w a i => h.IsTupleIter w a i
def Has : Kd → Heap → Addr → Array Value → Prop
  | .l => fun h a vs => h.IsList a vs
  | .t => fun h a vs => h.IsTuple a vs
/-- the walker's object when it begins -/
def obj0 (a : Addr) : Kd → Obj
  | .l => { cls := .type "list_iterator", data := .fields #[.ref a, .int 0 0] }
  | .t => { cls := .type "tuple_iterator", data := .fields #[.ref a, .int 0 0] }
theorem begins (k : Kd) (a : Addr) (vs : Array Value) : Begins (.ref a) (k.obj0 a) fun h => k.Has h a vs := match k with
  | .l => begins_list a vs
  | .t => begins_tuple a vs
theorem wk0 (k : Kd) {h : Heap} {w a : Addr} (e : h.get? w = some (k.obj0 a)) : k.Wk h w a 0 := match k, e with
  | .l, e => ⟨_, e, rfl, rfl⟩
  | .t, e => ⟨_, e, rfl, rfl⟩
theorem wk_at (k : Kd) {h h' : Heap} {w a : Addr} {i : Nat} (x : k.Wk h w a i) (m : ∀ o, h.get? w = some o → h'.get? w = some o) : k.Wk h' w a i := match k, x with
  | .l, ⟨o, e, r⟩ => ⟨o, m o e, r⟩
  | .t, ⟨o, e, r⟩ => ⟨o, m o e, r⟩
theorem wk_obj (k : Kd) {h : Heap} {w a : Addr} {i : Nat} (x : k.Wk h w a i) : ∃ o, h.get? w = some o ∧ ∀ v, o.data ≠ .cell v := match k, x with
  | .l, ⟨o, e, _, d⟩ => ⟨o, e, fun v z => by rw [d] at z; cases z⟩
  | .t, ⟨o, e, _, d⟩ => ⟨o, e, fun v z => by rw [d] at z; cases z⟩
theorem has_at (k : Kd) {h h' : Heap} {a : Addr} {vs : Array Value} (x : k.Has h a vs) (m : ∀ o, h.get? a = some o → h'.get? a = some o) : k.Has h' a vs := match k, x with
  | .l, ⟨o, e, r⟩ => ⟨o, m o e, r⟩
  | .t, ⟨o, e, r⟩ => ⟨o, m o e, r⟩
theorem has_lt (k : Kd) {h : Heap} {a : Addr} {vs : Array Value} (x : k.Has h a vs) : a < h.objs.size := match k, x with
  | .l, ⟨_, e, _⟩ => Heap.lt_size e
  | .t, ⟨_, e, _⟩ => Heap.lt_size e
/-- what the walker draws from the place m on -/
theorem draws (k : Kd) {P : Program} {w : World} {A : Around} (hh : A.handled = none) {it a : Addr} (ne : a ≠ it) (vs : Array Value) (m : Nat) :
    Draws P w A it [it, a] (max m vs.size) (fun i x => vs[i]? = some x) (fun i h => m ≤ i ∧ k.Wk h it a i ∧ k.Has h a vs) where
  live := fun i h st => (k.wk_obj st.2.1).imp fun o z => z.1
  frame := fun i h h' st mv => ⟨st.1, k.wk_at st.2.1 (mv it (by simp)), k.has_at st.2.2 (mv a (by simp))⟩
  item := fun i s Q E hi st next => by
    have hlt : i < vs.size := by have := st.1; omega
    have here : vs[i]? = some vs[i] := Array.getElem?_eq_getElem hlt
    cases k with
    | l => exact wpAny_nextOf_list_item st.2.1 st.2.2 here fun h' walker same => next vs[i] h' s.toks here ⟨Nat.le_succ_of_le st.1, walker, st.2.2.extBut same.extBut ne⟩ same
    | t => exact wpAny_nextOf_tuple_item st.2.1 st.2.2 here fun h' walker same => next vs[i] h' s.toks here ⟨Nat.le_succ_of_le st.1, walker, st.2.2.extBut same.extBut ne⟩ same
  done := fun s Q E st stop => by
    have gone : vs[max m vs.size]? = none := Array.getElem?_eq_none (Nat.le_max_right _ _)
    cases k with
    | l => exact wpAny_nextOf_list_end hh st.2.1 st.2.2 gone stop
    | t => exact wpAny_nextOf_tuple_end hh st.2.1 st.2.2 gone stop
section
variable {X : Cx} {pins : List (Addr × Obj)} {σ : L2.St} {H : Hp} {s : Shared} {a : Addr} {xs ys : List V}
theorem told (k : Kd) (I : Inv X pins σ H s) (q : k.Sq X.K H a xs) : ∃ us : List Value, Vals xs us ∧ k.Has s.heap a us.toArray := match k, q with
  | .l, q => let ⟨us, r, p, _⟩ := I.list q; ⟨us, r, p.isList⟩
  | .t, q => let ⟨us, r, p, _⟩ := I.tuple q; ⟨us, r, p⟩
theorem same (k : Kd) (I : Inv X pins σ H s) (q : k.Sq X.K H a xs) (q' : k.Sq X.K H a ys) : xs = ys := match k, q, q' with
  | .l, q, q' => I.list_inj q q'
  | .t, q, q' => I.tuple_inj q q'
end
end Kd
/-- a walker is not what it goes through: their classes differ -/
theorem k1_apart (k : Kd) {h : Heap} {it a : Addr} {i : Nat} {vs : Array Value} (p : k.Has h a vs) (x : k.Wk h it a i) : a ≠ it := by
  rintro rfl
  cases k with
  | l =>
    obtain ⟨o, e, c, _⟩ := p
    obtain ⟨o', e', c', _⟩ := x
    cases e.symm.trans e'
    exact absurd (c.symm.trans c') (by decide)
  | t =>
    obtain ⟨o, e, c, _⟩ := p
    obtain ⟨o', e', c', _⟩ := x
    cases e.symm.trans e'
    exact absurd (c.symm.trans c') (by decide)
abbrev pairObj (u v : Value) : Obj := { cls := .type "tuple", data := .seq #[u, v] }
section
variable {X : Cx} {pins : List (Addr × Obj)} {σ : L2.St} {H : Hp} {s : Shared}
/-- a turn has laid a new pair behind the heap's end -/
theorem pair_new {ch : List Addr} {h' : Heap} {tk : Nat} {x y : V} {u v : Value} (I : Inv X pins σ H s) (out : ∀ b ∈ ch, FpOk X pins H b) (mv : ∀ b o, b ∉ ch → s.heap.get? b = some o → h'.get? b = some o)
    (e : h'.get? s.heap.objs.size = some (pairObj u v)) (rx : RelV x u) (ry : RelV y v) : Inv X pins σ (upd H s.heap.objs.size (.frz (pairObj u v) (.tup [x, y]))) { s with heap := h', toks := tk } :=
  I.turnedNew mv out (Nat.le_refl _) ⟨e, (by decide : 2 ≤ sizeLine), [u, v], .cons rx (.cons ry .nil), pairObj u v, e, rfl, _, rfl⟩
theorem cells_none {ch : List Addr} {u : HO} (out : ∀ b ∈ ch, FpOk X pins H b) (there : ∀ b ∈ ch, ∃ o, s.heap.get? b = some o) (b : Addr) (hb : b ∈ ch) : upd H s.heap.objs.size u b = none := by
  obtain ⟨o, e⟩ := there b hb
  rw [upd_ne (Nat.ne_of_lt (Heap.lt_size e))]
  exact (out b hb).1
end
theorem refs2 {x y : V} {us : List Value} (r : Vals [x, y] us) : ∃ u v, us = [u, v] ∧ RelV x u ∧ RelV y v := match r with
  | .cons p (.cons q .nil) => ⟨_, _, rfl, p, q⟩
def ItzK (k1 k2 : Kd) (K : PySem.W.Frag) (a b : Addr) : It where
  go i H := ∃ (xs ys : List V) (x y : V), k1.Sq K H a xs ∧ k2.Sq K H b ys ∧ xs[i]? = some x ∧ ys[i]? = some y
  yld i H v H' := ∃ T o x y, v = .ref T ∧ H T = none ∧ o.dict = none ∧ H' = upd H T (.frz o (.tup [x, y])) ∧ (∀ xs, k1.Sq K H a xs → xs[i]? = some x) ∧ ∀ ys, k2.Sq K H b ys → ys[i]? = some y
  stop i H := ∃ xs ys : List V, k1.Sq K H a xs ∧ k2.Sq K H b ys ∧ (xs.length ≤ i ∨ ys.length ≤ i)
theorem vals_arr {xs : List V} {us : List Value} {i : Nat} {x : V} {u : Value} (r : Vals xs us) (hx : xs[i]? = some x) (hu : us.toArray[i]? = some u) : RelV x u := by
  obtain ⟨u', e, rl⟩ := r.get hx
  rw [List.getElem?_toArray, e] at hu
  cases hu
  exact rl
theorem vals_lt {xs : List V} {us : List Value} {i : Nat} {x : V} (r : Vals xs us) (hx : xs[i]? = some x) : i < us.toArray.size := by
  rw [List.size_toArray, ← r.length]
  exact (List.getElem?_eq_some_iff.mp hx).1
/-- what stands in the five cells of a zip ahead of the turn i -/
def ZipAt (k1 k2 : Kd) (z TI TO i1 i2 a b : Addr) (i : Nat) (h : Heap) : Prop :=
  IsZip h z TI TO .none ∧ IsTupOf2 h TI (.ref i1) (.ref i2) ∧ (∃ u v, IsTupOf2 h TO u v) ∧ k1.Wk h i1 a i ∧ k2.Wk h i2 b i
theorem ZipAt.there {k1 k2 : Kd} {z TI TO i1 i2 a b : Addr} {i : Nat} {h : Heap} (st : ZipAt k1 k2 z TI TO i1 i2 a b i h) (c : Addr) (hc : c ∈ [z, TI, TO, i1, i2]) : ∃ o, h.get? c = some o ∧ ∀ v, o.data ≠ .cell v := by
  obtain ⟨s1, s2, ⟨_, _, s3⟩, s4, s5⟩ := st
  simp only [List.mem_cons, List.not_mem_nil, or_false] at hc
  rcases hc with rfl | rfl | rfl | rfl | rfl
  · exact ⟨_, s1, nofun⟩
  · exact ⟨_, s2, nofun⟩
  · exact ⟨_, s3, nofun⟩
  · exact k1.wk_obj s4
  · exact k2.wk_obj s5
theorem turn_zipK (k1 k2 : Kd) {P : Program} {w : World} {K : PySem.W.Frag} {elts : List Expr} {kk : Nat} {tpos : Pos} {z TI TO i1 i2 a b : Addr} (S : ZipSep2 z TI TO i1 i2 [i1, a] [i2, b]) :
    Turn P w K (.Tuple elts kk tpos) (ItzK k1 k2 K a b) [z, TI, TO, i1, i2] z (ZipAt k1 k2 z TI TO i1 i2 a b) where
  mem := List.mem_cons_self
  obj := fun i h st => st.there
  keep := fun i h h' ⟨s1, s2, ⟨u, v, s3⟩, s4, s5⟩ mv => ⟨mv z (by simp) _ s1, mv TI (by simp) _ s2, ⟨u, v, mv TO (by simp) _ s3⟩, k1.wk_at s4 (mv i1 (by simp)), k2.wk_at s5 (mv i2 (by simp))⟩
  item := by
    rintro X rfl rfl rfl calm i pins s σ H E I out st ⟨xs, ys, x, y, qx, qy, hx, hy⟩
    have there := fun c hc => (st.there c hc).imp fun o z => z.1
    obtain ⟨s1, s2, ⟨u0, v0, s3⟩, s4, s5⟩ := st
    obtain ⟨us, rx, px⟩ := k1.told I qx
    obtain ⟨vs, ry, py⟩ := k2.told I qy
    have D1 := k1.draws (P := X.prog) (w := X.w) (A := X.A.in1) (I.ok.hd calm) (k1_apart k1 px s4) us.toArray i
    have D2 := k2.draws (P := X.prog) (w := X.w) (A := X.A.in1) (I.ok.hd calm) (k1_apart k2 py s5) vs.toArray i
    refine wpAny_pyNext_zipD2_item S D1 D2 s1 s2 s3 ⟨Nat.le_refl _, s4, px⟩ ⟨Nat.le_refl _, s5, py⟩
      (Nat.lt_of_lt_of_le (vals_lt rx hx) (Nat.le_max_right _ _)) (Nat.lt_of_lt_of_le (vals_lt ry hy) (Nat.le_max_right _ _)) ?_
    intro u v h1 tk hu hv z1 o1 w1 w2 pair _ mv
    refine ⟨_, rfl, wpAny_letOwnedTupleGo_zip (s := { s with heap := h1, toks := tk }) z1 fun h2 z2 only => ?_⟩
    have zlt : z < s.heap.objs.size := Heap.lt_size s1
    have back : ∀ c o, c ≠ z → h1.get? c = some o → h2.get? c = some o := fun c o n e => (only.2 c n).trans e
    have mv' : ∀ c o, c ∉ [z, TI, TO, i1, i2] → s.heap.get? c = some o → h2.get? c = some o := fun c o n e => by
      simp only [List.mem_cons, List.not_mem_nil, or_false, not_or] at n
      exact back c o n.1 (mv c o n.1 n.2.2.1 n.2.2.2.1 n.2.2.2.2 e)
    have TIold := mv TI _ S.TIz S.TITO S.TIi1 S.TIi2 s2
    exact ⟨.ref s.heap.objs.size, _, pair_new (s := s) I out mv' (back _ _ (Nat.ne_of_gt zlt) pair) (vals_arr rx hx hu) (vals_arr ry hy hv), rfl,
      ⟨_, _, x, y, rfl, I.hok.fresh (Nat.le_refl _), rfl, rfl, fun l q => (k1.same I q qx) ▸ hx, fun l q => (k2.same I q qy) ▸ hy⟩,
      ⟨z2, back _ _ S.TIz TIold, ⟨u, v, back _ _ S.TOz o1⟩, k1.wk_at w1.2.1 fun o => back i1 o S.zi1.symm, k2.wk_at w2.2.1 fun o => back i2 o S.zi2.symm⟩,
      cells_none (s := s) out there⟩
  done := by
    rintro X rfl rfl rfl calm i pins s σ H E I out ⟨s1, s2, ⟨u0, v0, s3⟩, s4, s5⟩ ⟨xs, ys, qx, qy, short⟩
    obtain ⟨us, rx, px⟩ := k1.told I qx
    obtain ⟨vs, ry, py⟩ := k2.told I qy
    have lx : us.toArray.size = xs.length := by rw [List.size_toArray, rx.length]
    have ly : vs.toArray.size = ys.length := by rw [List.size_toArray, ry.length]
    have D1 := k1.draws (P := X.prog) (w := X.w) (A := X.A.in1) (I.ok.hd calm) (k1_apart k1 px s4) us.toArray i
    have D2 := k2.draws (P := X.prog) (w := X.w) (A := X.A.in1) (I.ok.hd calm) (k1_apart k2 py s5) vs.toArray i
    refine wpAny_pyNext_zipD2_end S D1 D2 s1 s2 s3 ⟨Nat.le_refl _, s4, px⟩ ⟨Nat.le_refl _, s5, py⟩
      (Nat.le_max_left _ _) (Nat.le_max_left _ _) (by omega) fun h1 tk mv => ⟨rfl, I.turnedL (fun c o n e => ?_) out⟩
    simp only [List.mem_cons, List.not_mem_nil, or_false, not_or] at n
    exact mv c o n.1 n.2.2.1 n.2.2.2.1 n.2.2.2.2 e
  self := fun A i s Q E st => wpAny_pyIter_zip st.1
def IteK (k : Kd) (K : PySem.W.Frag) (a : Addr) : It where
  go i H := ∃ (xs : List V) (x : V), k.Sq K H a xs ∧ xs[i]? = some x
  yld i H v H' := ∃ T o x, v = .ref T ∧ H T = none ∧ o.dict = none ∧ H' = upd H T (.frz o (.tup [.int (i : Nat), x])) ∧ ∀ xs, k.Sq K H a xs → xs[i]? = some x
  stop i H := ∃ xs : List V, k.Sq K H a xs ∧ xs.length ≤ i
def EnumAt (k : Kd) (e it a : Addr) (i : Nat) (h : Heap) : Prop := (∃ old, IsEnum h e it ((i : Nat) : Int) old) ∧ k.Wk h it a i
theorem EnumAt.there {k : Kd} {e it a : Addr} {i : Nat} {h : Heap} (st : EnumAt k e it a i h) (c : Addr) (hc : c ∈ [e, it]) : ∃ o, h.get? c = some o ∧ ∀ v, o.data ≠ .cell v := by
  obtain ⟨⟨_, s1⟩, s2⟩ := st
  simp only [List.mem_cons, List.not_mem_nil, or_false] at hc
  rcases hc with rfl | rfl
  · exact ⟨_, s1, nofun⟩
  · exact k.wk_obj s2
theorem turn_enumK (k : Kd) {P : Program} {w : World} {K : PySem.W.Frag} {elts : List Expr} {kk : Nat} {tpos : Pos} {e it a : Addr} (ne : e ≠ it) (na : e ≠ a) :
    Turn P w K (.Tuple elts kk tpos) (IteK k K a) [e, it] e (EnumAt k e it a) where
  mem := List.mem_cons_self
  obj := fun i h st => st.there
  keep := fun i h h' ⟨⟨u, s1⟩, s2⟩ mv => ⟨⟨u, mv e (by simp) _ s1⟩, k.wk_at s2 (mv it (by simp))⟩
  item := by
    rintro X rfl rfl rfl calm i pins s σ H E I out st ⟨xs, x, qx, hx⟩
    have there := fun c hc => (st.there c hc).imp fun o z => z.1
    obtain ⟨⟨u0, s1⟩, s2⟩ := st
    obtain ⟨us, rx, px⟩ := k.told I qx
    have D1 := k.draws (P := X.prog) (w := X.w) (A := X.A.in1) (I.ok.hd calm) (k1_apart k px s2) us.toArray i
    refine wpAny_pyNext_enum_itemC D1 s1 ⟨Nat.le_refl _, s2, px⟩ (Nat.lt_of_lt_of_le (vals_lt rx hx) (Nat.le_max_right _ _)) ne (by simp [ne, na]) ?_
    intro u h1 tk hu e1 w1 pair _ mv
    refine ⟨_, rfl, wpAny_letOwnedTupleGo_enum (s := { s with heap := h1, toks := tk + 1 }) e1 fun h2 e2 only => ?_⟩
    have back : ∀ c o, c ≠ e → h1.get? c = some o → h2.get? c = some o := fun c o n z => (only.2 c n).trans z
    have mv' : ∀ c o, c ∉ [e, it] → s.heap.get? c = some o → h2.get? c = some o := fun c o n z => by
      simp only [List.mem_cons, List.not_mem_nil, or_false, not_or] at n
      exact back c o n.1 (mv c o n.1 n.2 z)
    exact ⟨.ref s.heap.objs.size, _, pair_new (s := s) I out mv' (back _ _ (Nat.ne_of_gt (Heap.lt_size s1)) pair) (x := .int (i : Nat)) ⟨tk, rfl⟩ (vals_arr rx hx hu), rfl,
      ⟨_, _, x, rfl, I.hok.fresh (Nat.le_refl _), rfl, rfl, fun l q => (k.same I q qx) ▸ hx⟩, ⟨⟨u, by rw [Int.natCast_add]; exact e2⟩, k.wk_at w1.2.1 fun o => back it o ne.symm⟩, cells_none (s := s) out there⟩
  done := by
    rintro X rfl rfl rfl calm i pins s σ H E I out ⟨⟨u0, s1⟩, s2⟩ ⟨xs, qx, short⟩
    obtain ⟨us, rx, px⟩ := k.told I qx
    have D1 := k.draws (P := X.prog) (w := X.w) (A := X.A.in1) (I.ok.hd calm) (k1_apart k px s2) us.toArray i
    have all : max i us.toArray.size = i := by
      rw [List.size_toArray, ← rx.length]
      omega
    rw [all] at D1
    exact wpAny_pyNext_enum_endD D1 s1 ⟨Nat.le_refl _, s2, px⟩ fun h1 only => ⟨rfl, I.turnedL (t' := s.toks) (fun c o n z => only c o (fun q => n (by simp [q])) z) out⟩
  self := fun A i s Q E st => wpAny_pyIter_enum st.1.choose_spec
section
variable {X : Cx} {pins : List (Addr × Obj)} {σ : L2.St} {H : Hp} {s : Shared} {a b : Addr} {xs ys : List V} {elts : List Expr} {kk : Nat} {tpos : Pos}
/-- enumerate(..) begun -/
theorem enum_begun (k : Kd) {R : It → Hp → Prop} {h' : Heap} {N : Nat} (I : Inv X pins σ H s) (old : ∀ b o, s.heap.get? b = some o → h'.get? b = some o) (up : s.heap.objs.size ≤ N) (low : a < N) (en : IsEnum h' (N + 1) N 0 .none) (wk : k.Wk h' N a 0) (hR : R (IteK k X.K a) H) :
    PIE X pins σ (.Tuple elts kk tpos) R (.ref (N + 1)) { s with heap := h' } := by
  refine ⟨_, [N + 1, N], _, _, H, rfl, I.kept (t' := s.toks) old, turn_enumK k (Nat.succ_ne_self N) (Nat.ne_of_gt (Nat.lt_succ_of_lt low)), ⟨⟨_, en⟩, wk⟩, fun c hc => ?_, hR⟩
  have le : s.heap.objs.size ≤ c := by
    simp only [List.mem_cons, List.not_mem_nil, or_false] at hc
    rcases hc with rfl | rfl
    · exact Nat.le_succ_of_le up
    · exact up
  exact I.fpOk le (I.hok.fresh le)
/-- zip(..) made and begun -/
theorem zip_made (k1 k2 : Kd) {R : It → Hp → Prop} (I : Inv X pins σ H s) (qx : k1.Sq X.K H a xs) (qy : k2.Sq X.K H b ys) (hR : R (ItzK k1 k2 X.K a b) H) :
    wpAny (model X.prog X.w) X.A (call (.type "zip") [.ref a, .ref b]) (fun v s1 => wpAny (model X.prog X.w) X.A (pyIter v) (PIE X pins σ (.Tuple elts kk tpos) R) X.xe s1) X.xe s := by
  obtain ⟨us, rx, px⟩ := k1.told I qx
  obtain ⟨vs, ry, py⟩ := k2.told I qy
  refine zip_begins2 (k1.begins a us.toArray) (k2.begins b vs.toArray) px py fun h' z p o w1 w2 _ old => wpAny_pyIter_zip z ?_
  refine ⟨_, [s.heap.objs.size + 4, s.heap.objs.size + 2, s.heap.objs.size + 3, s.heap.objs.size, s.heap.objs.size + 1], _, _, H, rfl, I.kept (t' := s.toks) old,
    turn_zipK k1 k2 (zip_sep2 (N := s.heap.objs.size) (fp1 := [a]) (fp2 := [b]) (fun c hc => ?_) (fun c hc => ?_)), ⟨z, p, ⟨_, _, o⟩, k1.wk0 w1, k2.wk0 w2⟩, fun c hc => ?_, hR⟩
  · rw [List.mem_singleton.mp hc]; exact k1.has_lt px
  · rw [List.mem_singleton.mp hc]; exact k2.has_lt py
  · have up : s.heap.objs.size ≤ c := by
      simp only [List.mem_cons, List.not_mem_nil, or_false] at hc
      rcases hc with rfl | rfl | rfl | rfl | rfl <;> first | exact Nat.le_add_right _ _ | exact Nat.le_refl _
    exact I.fpOk up (I.hok.fresh up)
end
end DL

set_option Elab.async false
set_option linter.all false
set_option maxRecDepth 100000
/-! New tuples are laid as objects that are known to have no dict of their own (frz): dict(t) asks that. -/
namespace DL
open PySem PySem.Spec PyProof.Rows L2
section
variable {X : Cx} {pos : Pos} {es : List Expr} {t : TA}
theorem frz_new {P : Program} {w : World} {H : Hp} {h : Heap} {p : Addr} {vs : List Value} {xs : List V} (e : h.get? p = some { cls := .type "tuple", data := .seq vs.toArray }) (z : xs.length ≤ sizeLine) (r : Vals xs vs) :
    ObjOk P w H h p (.frz { cls := .type "tuple", data := .seq vs.toArray } (.tup xs)) := ⟨e, z, vs, r, ⟨_, e, rfl, _, rfl⟩⟩
/-- THE END of every rule that lays a new tuple -/
theorem tup_end {pins : List (Addr × Obj)} {σ : L2.St} {H : Hp} {s : Shared} {xs : List V} {us : List Value} {Q : VK} (I : Inv X pins σ H s) (r : Vals xs us) (z : xs.length ≤ sizeLine)
    (q : ∀ (p : Addr) (o : Obj), H p = none → o.dict = none → Q (.ref p) (upd H p (.frz o (.tup xs)))) : EP X pins σ Q (.ref s.heap.objs.size) { s with heap := s.heap.push { cls := .type "tuple", data := .seq us.toArray } } :=
  ⟨.ref s.heap.objs.size, _, I.laid (t' := s.toks) (fun _ _ => Heap.get?_push_of_some _) (Nat.le_refl _) (frz_new (Heap.get?_push_size _ rfl) z r), rfl, q _ _ (I.hok.fresh (Nat.le_refl _)) rfl⟩
def tTupZ (t : TA) : TE := fun σ H Q => t σ H fun xs H1 => xs.length ≤ sizeLine ∧ ∀ (p : Addr) (o : Obj), H1 p = none → o.dict = none → Q (.ref p) (upd H1 p (.frz o (.tup xs)))
theorem pe_tupZ {x1} (h : PA X es t) : PE X (.Tuple es x1 pos) (tTupZ t) where
  run pins s σ H Q I w := wpAny_Tuple_spliced (thn (h.run pos pins s σ H _ I w) fun _ _ ⟨_, _, J, r, z, q⟩ => ⟨r.length ▸ z, tup_end J r z q⟩)
def rCatZ (K : PySem.W.Frag) : R2 := fun x y H Q => ∃ a b xs ys, x = .ref a ∧ y = .ref b ∧ SqT K H a xs ∧ SqT K H b ys ∧ xs.length + ys.length ≤ sizeLine ∧
  (xs = [] → Q (.ref b) H) ∧ (xs ≠ [] → ys = [] → Q (.ref a) H) ∧ (xs ≠ [] → ys ≠ [] → ∀ (p : Addr) (o : Obj), H p = none → o.dict = none → Q (.ref p) (upd H p (.frz o (.tup (xs ++ ys)))))
theorem op_catZ : OpR X (binaryOp .Add) (rCatZ X.K) := by
  rintro pins s σ H _ _ _ _ Q I e1 e2 ⟨a, b, xs, ys, rfl, rfl, ta, tb, z, q0, q1, q2⟩
  cases e1
  cases e2
  obtain ⟨us, ru, pu, _⟩ := I.tuple ta
  obtain ⟨ws, rw', pw, _⟩ := I.tuple tb
  by_cases n : us = []
  · subst n
    exact cat_tup0 pu pw ⟨.ref b, H, I, rfl, q0 (ru.nil_iff.mp rfl)⟩
  · exact HT.cat_tup pu pw n (fun e => ⟨.ref a, H, I, rfl, q1 (n ∘ ru.nil_iff.mpr) (rw'.nil_iff.mp e)⟩)
      (fun m => tup_end I (ru.append rw') (by rwa [List.length_append]) (q2 (n ∘ ru.nil_iff.mpr) (m ∘ rw'.nil_iff.mpr))) (by rwa [← ru.length, ← rw'.length])
def rSlZ (K : PySem.W.Frag) : V → Option Int → Option Int → Hp → VK → Prop := fun x lo hi H Q => ∃ a xs, x = .ref a ∧ SqT K H a xs ∧
  (HT.sIx xs.length 0 lo = 0 ∧ HT.sIx xs.length xs.length hi = xs.length → Q (.ref a) H) ∧ (¬ (HT.sIx xs.length 0 lo = 0 ∧ HT.sIx xs.length xs.length hi = xs.length) → ∀ (p : Addr) (o : Obj), H p = none → o.dict = none → Q (.ref p) (upd H p (.frz o (.tup (cutV xs lo hi)))))
theorem sl_tupZ : SlR X (rSlZ X.K) := by
  rintro pins s σ H _ _ vl vu lo hi sl Q I e isl pl pu ⟨a, xs, rfl, ta, q1, q2⟩
  cases e
  obtain ⟨us, r, p, z⟩ := I.tuple ta
  have n : us.toArray.size = xs.length := List.size_toArray.trans r.length.symm
  refine ⟨"tuple", _, PyProof.Rows.slot_tuple_getitem.lookup, p.typeIs, ?_⟩
  by_cases c : HT.sIx xs.length 0 lo = 0 ∧ HT.sIx xs.length xs.length hi = xs.length
  · exact getItem_tuple_whole p isl pl pu (n ▸ c) ⟨.ref a, H, I, rfl, q1 c⟩
  · refine HT.getItem_tuple_cut p isl pl pu (n ▸ c) ?_ (n ▸ z)
    rw [n]
    exact tup_end I ((r.drop _).take _) (Nat.le_trans (cutV_length xs lo hi) z) (q2 c)
def rTupleZ (K : PySem.W.Frag) : List V → Hp → VK → Prop := fun xs H Q => ∃ p ys, xs = [.ref p] ∧ ((SqL K H p ys ∧ ∀ (l : Addr) (o : Obj), H l = none → o.dict = none → Q (.ref l) (upd H l (.frz o (.tup ys)))) ∨ (SqT K H p ys ∧ Q (.ref p) H))
theorem call_tupleZ : CallR X (.type "tuple") (rTupleZ X.K) := by
  rintro pins s σ H _ us Q I r ⟨p, ys, rfl, w⟩
  obtain ⟨_, rfl, e⟩ := vals1 r
  cases e
  rcases w with ⟨c, q⟩ | ⟨c, q⟩
  · obtain ⟨its, ri, pl, z⟩ := I.list c
    exact call_tuple_list pl.isList (fun h' old => tup_end (I.kept (t' := s.toks) old) ri z q) (by rw [List.size_toArray, ← ri.length]; exact z)
  · obtain ⟨_, _, pt, _⟩ := I.tuple c
    exact call_tuple_same pt ⟨.ref p, H, I, rfl, q⟩
/-! zip, enumerate: DL1 -/
abbrev ItzTZ (K : PySem.W.Frag) (a b : Addr) : It := ItzK .t .t K a b
abbrev ItzLZ (K : PySem.W.Frag) (a b : Addr) : It := ItzK .l .l K a b
abbrev IteZ (K : PySem.W.Frag) (a : Addr) : It := IteK .l K a
end
def iZipZ (K : PySem.W.Frag) (ta : TA) : TI := fun σ H R => ta σ H fun vs H1 => ∃ a b xs ys, vs = [.ref a, .ref b] ∧ ((SqL K H1 a xs ∧ SqL K H1 b ys ∧ R (ItzLZ K a b) H1) ∨ (SqT K H1 a xs ∧ SqT K H1 b ys ∧ R (ItzTZ K a b) H1))
theorem pi_zipZ {X : Cx} {e e2 : Expr} {ta : TA} {p pos tpos : Pos} {elts : List Expr} {kk : Nat} (hg : Gl X "zip") (hm : X.mg "zip" = none) (ha : PA X [e, e2] ta)
    (hs : starEach [e, e2] X.env = (false, eval e X.env) :: starEach [e2] X.env := by rfl) (hpl : (backTo pos (starEach [e2] X.env)).any (·.1) = false := by rfl) :
    PI X (.Tuple elts kk tpos) (.Call (.Name "zip" p) [e, e2] [] pos) (iZipZ X.K ta) := by
  refine ⟨fun pins s σ H R I w => Call_ (ld_blt I hg hm PyProof.Rows.boot_zip (PyProof.Rows.callWith_type1 (thn (ha.run pos pins s σ H _ I w) ?_) hs hpl))⟩
  rintro us s1 ⟨_, H1, J, r, a, b, xs, ys, rfl, which⟩
  obtain ⟨_, _, rfl, e1, e2⟩ := refs2 r
  cases e1
  cases e2
  rcases which with ⟨qx, qy, q⟩ | ⟨qx, qy, q⟩
  · exact zip_made .l .l J qx qy q
  · exact zip_made .t .t J qx qy q
def iEnumZ (K : PySem.W.Frag) (ta : TA) : TI := fun σ H R => ta σ H fun vs H1 => ∃ a xs, vs = [.ref a] ∧ SqL K H1 a xs ∧ R (IteZ K a) H1
theorem pi_enumZ {X : Cx} {e : Expr} {ta : TA} {p pos tpos : Pos} {elts : List Expr} {kk : Nat} (hg : Gl X "enumerate") (hm : X.mg "enumerate" = none) (ha : PA X [e] ta) (hs : starEach [e] X.env = [(false, eval e X.env)] := by rfl) :
    PI X (.Tuple elts kk tpos) (.Call (.Name "enumerate" p) [e] [] pos) (iEnumZ X.K ta) := by
  refine ⟨fun pins s σ H R I w => Call_ (ld_blt I hg hm boot_enumerate (PyProof.Rows.callWith_type1 (thn (ha.run pos pins s σ H _ I w) ?_) hs rfl))⟩
  rintro us s1 ⟨_, H1, J, r, a, xs, rfl, qx, q⟩
  obtain ⟨_, rfl, e⟩ := vals1 r
  cases e
  obtain ⟨its, _, p, _⟩ := J.list qx
  exact call_enumerate_list p.isList fun h' en wk _ old => wpAny_pyIter_enum en (enum_begun .l J old (Nat.le_refl _) p.lt en wk q)
end DL

set_option Elab.async false
set_option linter.all false
set_option maxRecDepth 100000
namespace DL
open PySem PySem.Spec PyProof.Rows L2

/-! ## 1. data -/
/-- pure data: what a value is, whatever the heap -/
inductive D where
  | non | bl (b : Bool) | int (i : Int) | str (x : Str) | ty (n : String)
  | tup (xs : List D) | lst (xs : List D)
  /-- a shared mutable object: its place in the store -/
  | ref (l : Nat)
  /-- the script -/
  | scr (ns : List Int)
  /-- a dict that nobody changes any more -/
  | dct (ks : List Key) (ds : List D)
/-- what a mutable object holds -/
inductive Cell where
  | lst (xs : List D)
  | dct (ks : List Key) (ds : List D)
/-- a slot of a frame -/
inductive Sl where
  | un
  | sh (d : D)
  /-- a mutable object of this frame alone -/
  | ow (c : Cell)
abbrev Rho := List Sl
abbrev Sto := List Cell
/-- the ghost world: where the store's objects stand; the callers' mutable objects; the frame's own ones by slot -/
structure Wd where
  θ : List Addr
  M0 : Addr → Prop
  α : Nat → Option Addr
/-- what this frame may change -/
def Mt (W : Wd) (a : Addr) : Prop := a ∈ W.θ ∨ ∃ i, W.α i = some a
/-- what is mutable at all -/
def Mu (W : Wd) (a : Addr) : Prop := W.M0 a ∨ Mt W a
/-- the script is read -/
def ScrAt (K : PySem.W.Frag) (H : Hp) (a : Addr) (ns : List Int) : Prop :=
  (∃ o, H a = some (.frz o (.lst (ns.map V.int)))) ∨
    ∃ (o : Obj) (its : Array Value) (n : Nat), K.lookup a = some o ∧ o.cls = .type "list" ∧ o.dict = none ∧ o.data = .seq its n ∧ its.size ≤ sizeLine ∧ Vals (ns.map V.int) its.toList

/-- a tuple is read; it has no dict of its own -/
def TupAt (K : PySem.W.Frag) (H : Hp) (a : Addr) (vs : List V) : Prop :=
  (∃ o, H a = some (.frz o (.tup vs)) ∧ o.dict = none) ∨
    ∃ (o : Obj) (its : Array Value) (n : Nat), K.lookup a = some o ∧ o.cls = .type "tuple" ∧ o.dict = none ∧ o.data = .seq its n ∧ its.size ≤ sizeLine ∧ Vals vs its.toList
theorem TupAt.sqt {K : PySem.W.Frag} {H : Hp} {a : Addr} {vs : List V} (h : TupAt K H a vs) : SqT K H a vs := by
  rcases h with ⟨o, h, _⟩ | ⟨o, its, n, h1, h2, _, h3, h4, h5⟩
  · exact .inl (.inr ⟨o, h⟩)
  · exact .inr ⟨o, its, n, h1, h2, h3, h4, h5⟩
theorem TupAt.step {K : PySem.W.Frag} {H H' : Hp} {a : Addr} {vs : List V} (f : ∀ b o u, H b = some (.frz o u) → H' b = some (.frz o u)) (h : TupAt K H a vs) : TupAt K H' a vs := by
  rcases h with ⟨o, h, d⟩ | h
  · exact .inl ⟨o, f _ _ _ h, d⟩
  · exact .inr h
theorem TupAt.new {K : PySem.W.Frag} {H : Hp} {a : Addr} {vs : List V} {o : Obj} (d : o.dict = none) : TupAt K (upd H a (.frz o (.tup vs))) a vs := .inl ⟨o, upd_same, d⟩

section
variable (K : PySem.W.Frag) (W : Wd) (H : Hp)
mutual
/-- the value v stands for the data d -/
inductive Rp : V → D → Prop
  | non : Rp .non .non
  | bl (b : Bool) : Rp (.bl b) (.bl b)
  | int (i : Int) : Rp (.int i) (.int i)
  | str (x : Str) : Rp (.str x) (.str x)
  | ty (n : String) : Rp (.ty n) (.ty n)
  | tup {a : Addr} {vs : List V} {ds : List D} : TupAt K H a vs → vs.length ≤ sizeLine → Rps vs ds → Rp (.ref a) (.tup ds)
  | lst {a : Addr} {vs : List V} {ds : List D} : ¬ Mu W a → H a = some (.lst vs) → vs.length ≤ sizeLine → Rps vs ds → Rp (.ref a) (.lst ds)
  | ref {a : Addr} {l : Nat} : W.θ[l]? = some a → Rp (.ref a) (.ref l)
  | scr {a : Addr} {ns : List Int} : ns.length ≤ sizeLine → ScrAt K H a ns → Rp (.ref a) (.scr ns)
  | dct {a : Addr} {ks : List Key} {vs : List V} {ds : List D} : ¬ Mu W a → H a = some (.dK (ks.zip vs)) → ks.length = vs.length → Rps vs ds → Rp (.ref a) (.dct ks ds)
inductive Rps : List V → List D → Prop
  | nil : Rps [] []
  | cons {v : V} {d : D} {vs : List V} {ds : List D} : Rp v d → Rps vs ds → Rps (v :: vs) (d :: ds)
end
/-- a mutable object's content -/
def CellOk (a : Addr) : Cell → Prop
  | .lst xs => ∃ vs, H a = some (.lst vs) ∧ vs.length ≤ sizeLine ∧ Rps K W H vs xs
  | .dct ks ds => ∃ vs, H a = some (.dK (ks.zip vs)) ∧ ks.length = vs.length ∧ Rps K W H vs ds
/-- read, perhaps from an object of the frame's own -/
inductive Rq : V → D → Prop
  | of {v : V} {d : D} : Rp K W H v d → Rq v d
  | lst {a : Addr} {vs : List V} {ds : List D} : a ∉ W.θ ∧ ¬ W.M0 a → H a = some (.lst vs) → vs.length ≤ sizeLine → Rps K W H vs ds → Rq (.ref a) (.lst ds)
  | dct {a : Addr} {ks : List Key} {vs : List V} {ds : List D} : a ∉ W.θ ∧ ¬ W.M0 a → H a = some (.dK (ks.zip vs)) → ks.length = vs.length → Rps K W H vs ds → Rq (.ref a) (.dct ks ds)
/-- the store -/
def StOk (S : Sto) : Prop := W.θ.length = S.length ∧ ∀ (l : Nat) (a : Addr) (c : Cell), W.θ[l]? = some a → S[l]? = some c → CellOk K W H a c
structure WfW : Prop where
  nd : W.θ.Nodup
  inj : ∀ i j a, W.α i = some a → W.α j = some a → i = j
  dis : ∀ i a, W.α i = some a → a ∉ W.θ ∧ ¬ W.M0 a
  dom : ∀ a, Mu W a → ∃ o, H a = some o
def SlOk (σ : L2.St) (i : Nat) : Sl → Prop
  | .un => True
  | .sh d => ∃ v, σ[i]? = some (some v) ∧ Rp K W H v d
  | .ow c => ∃ a, σ[i]? = some (some (.ref a)) ∧ W.α i = some a ∧ CellOk K W H a c
structure Rel (σ : L2.St) (ρ : Rho) (S : Sto) : Prop where
  len : σ.length = ρ.length
  sl : ∀ (i : Nat) (s : Sl), ρ[i]? = some s → SlOk K W H σ i s
  st : StOk K W H S
  wf : WfW W H
end

/-- the heap grew -/
structure StepE (θ : List Addr) (H H' : Hp) : Prop where
  keep : ∀ b o, H b = some o → b ∉ θ → H' b = some o
  tups : ∀ b xs, H b = some (.tup xs) → H' b = some (.tup xs)
  frzs : ∀ b o u, H b = some (.frz o u) → H' b = some (.frz o u)
  dom : ∀ b o, H b = some o → ∃ o', H' b = some o'
/-- the frame went on -/
structure StepS (W : Wd) (H : Hp) (W' : Wd) (H' : Hp) : Prop where
  m0 : W'.M0 = W.M0
  th : ∃ r, W'.θ = W.θ ++ r
  thn : ∀ b, b ∈ W'.θ → b ∉ W.θ → (∃ i, W.α i = some b) ∨ H b = none
  keep : ∀ b o, H b = some o → ¬ Mt W b → H' b = some o ∧ ¬ Mt W' b
  tups : ∀ b xs, H b = some (.tup xs) → H' b = some (.tup xs)
  frzs : ∀ b o u, H b = some (.frz o u) → H' b = some (.frz o u)
  dom : ∀ b o, H b = some o → ∃ o', H' b = some o'

theorem StepE.refl (θ : List Addr) (H : Hp) : StepE θ H H := ⟨fun _ _ h _ => h, fun _ _ h => h, fun _ _ _ h => h, fun _ o h => ⟨o, h⟩⟩
theorem StepE.trans {θ : List Addr} {H H1 H2 : Hp} (a : StepE θ H H1) (b : StepE θ H1 H2) : StepE θ H H2 :=
  ⟨fun c o h n => b.keep c o (a.keep c o h n) n, fun c xs h => b.tups c xs (a.tups c xs h), fun c o u h => b.frzs c o u (a.frzs c o u h),
    fun c o h => by obtain ⟨o1, h1⟩ := a.dom c o h; exact b.dom c o1 h1⟩
theorem StepE.same {θ : List Addr} {H H' : Hp} (s : Same H H') : StepE θ H H' :=
  ⟨fun b o h _ => s b o h, fun b xs h => s b _ h, fun b o u h => s b _ h, fun b o h => ⟨o, s b o h⟩⟩
theorem StepS.refl (W : Wd) (H : Hp) : StepS W H W H := ⟨rfl, ⟨[], by simp⟩, fun b h n => absurd h n, fun _ _ h n => ⟨h, n⟩, fun _ _ h => h, fun _ _ _ h => h, fun _ o h => ⟨o, h⟩⟩
theorem StepS.trans {W W1 W2 : Wd} {H H1 H2 : Hp} (a : StepS W H W1 H1) (b : StepS W1 H1 W2 H2) : StepS W H W2 H2 where
  m0 := b.m0.trans a.m0
  th := by
    obtain ⟨r, e⟩ := a.th
    obtain ⟨r', e'⟩ := b.th
    exact ⟨r ++ r', by rw [e', e, List.append_assoc]⟩
  thn := fun c h n => by
    by_cases h1 : c ∈ W1.θ
    · exact a.thn c h1 n
    · cases hh : H c with
      | none => exact .inr rfl
      | some o =>
        by_cases hm : Mt W c
        · rcases hm with hm | hm
          · exact absurd hm n
          · exact .inl hm
        · obtain ⟨k1, k2⟩ := a.keep c o hh hm
          rcases b.thn c h h1 with ⟨i, z⟩ | z
          · exact absurd (.inr ⟨i, z⟩) k2
          · rw [k1] at z; cases z
  keep := fun c o h n => by
    obtain ⟨k1, k2⟩ := a.keep c o h n
    exact b.keep c o k1 k2
  tups := fun c xs h => b.tups c xs (a.tups c xs h)
  frzs := fun c o u h => b.frzs c o u (a.frzs c o u h)
  dom := fun c o h => by obtain ⟨o1, h1⟩ := a.dom c o h; exact b.dom c o1 h1
theorem StepE.toS {W : Wd} {H H' : Hp} (s : StepE W.θ H H') : StepS W H W H' :=
  ⟨rfl, ⟨[], by simp⟩, fun b h n => absurd h n, fun b o h n => ⟨s.keep b o h fun z => n (.inl z), n⟩, s.tups, s.frzs, s.dom⟩

section
variable {K : PySem.W.Frag} {W W' : Wd} {H H' : Hp}
theorem SqT.step {a : Addr} {vs : List V} (t : ∀ b xs, H b = some (.tup xs) → H' b = some (.tup xs)) (f : ∀ b o u, H b = some (.frz o u) → H' b = some (.frz o u)) (h : SqT K H a vs) : SqT K H' a vs := by
  rcases h with (h | ⟨o, h⟩) | h
  · exact .inl (.inl (t _ _ h))
  · exact .inl (.inr ⟨o, f _ _ _ h⟩)
  · exact .inr h
theorem ScrAt.step {a : Addr} {ns : List Int} (f : ∀ b o u, H b = some (.frz o u) → H' b = some (.frz o u)) (h : ScrAt K H a ns) : ScrAt K H' a ns := by
  rcases h with ⟨o, h⟩ | h
  · exact .inl ⟨o, f _ _ _ h⟩
  · exact .inr h
/-- what a step must keep, for data to stay -/
structure Kps (K : PySem.W.Frag) (W : Wd) (H : Hp) (W' : Wd) (H' : Hp) : Prop where
  th : ∀ (l : Nat) (a : Addr), W.θ[l]? = some a → W'.θ[l]? = some a
  keep : ∀ b o, H b = some o → ¬ Mu W b → H' b = some o ∧ ¬ Mu W' b
  tups : ∀ b xs, H b = some (.tup xs) → H' b = some (.tup xs)
  frzs : ∀ b o u, H b = some (.frz o u) → H' b = some (.frz o u)
mutual
theorem Rp.keeps (k : Kps K W H W' H') {v : V} {d : D} : Rp K W H v d → Rp K W' H' v d
  | .non => .non
  | .bl b => .bl b
  | .int i => .int i
  | .str x => .str x
  | .ty x => .ty x
  | .tup h z r => .tup (TupAt.step k.frzs h) z (Rps.keeps k r)
  | .lst n h z r => .lst (k.keep _ _ h n).2 (k.keep _ _ h n).1 z (Rps.keeps k r)
  | .ref h => .ref (k.th _ _ h)
  | .scr z h => .scr z (ScrAt.step k.frzs h)
  | .dct n h e r => .dct (k.keep _ _ h n).2 (k.keep _ _ h n).1 e (Rps.keeps k r)
theorem Rps.keeps (k : Kps K W H W' H') {vs : List V} {ds : List D} : Rps K W H vs ds → Rps K W' H' vs ds
  | .nil => .nil
  | .cons a b => .cons (Rp.keeps k a) (Rps.keeps k b)
end
theorem StepS.keeps (s : StepS W H W' H') : Kps K W H W' H' where
  th := fun l a h => by
    obtain ⟨r, e⟩ := s.th
    rw [e, List.getElem?_append_left (List.getElem?_eq_some_iff.mp h).1]
    exact h
  keep := fun b o h n => by
    obtain ⟨k1, k2⟩ := s.keep b o h fun z => n (.inr z)
    refine ⟨k1, fun z => ?_⟩
    rcases z with z | z
    · rw [s.m0] at z; exact n (.inl z)
    · exact k2 z
  tups := s.tups
  frzs := s.frzs
theorem StepE.keeps (s : StepE W.θ H H') : Kps K W H W H' := s.toS.keeps
theorem Rp.step (s : StepS W H W' H') {v : V} {d : D} (h : Rp K W H v d) : Rp K W' H' v d := h.keeps s.keeps
theorem Rps.step (s : StepS W H W' H') {v : List V} {d : List D} (h : Rps K W H v d) : Rps K W' H' v d := h.keeps s.keeps
theorem Rp.stepE (s : StepE W.θ H H') {v : V} {d : D} (h : Rp K W H v d) : Rp K W H' v d := h.keeps s.keeps
theorem Rps.stepE (s : StepE W.θ H H') {v : List V} {d : List D} (h : Rps K W H v d) : Rps K W H' v d := h.keeps s.keeps
theorem Rps.length : ∀ {vs : List V} {ds : List D}, Rps K W H vs ds → vs.length = ds.length
  | _, _, .nil => rfl
  | _, _, .cons _ b => by simp [Rps.length b]
theorem Rps.get : ∀ {vs : List V} {ds : List D} {i : Nat} {d : D}, Rps K W H vs ds → ds[i]? = some d → ∃ v, vs[i]? = some v ∧ Rp K W H v d
  | _, _, _, _, .nil, e => by simp at e
  | _, _, 0, _, .cons a _, e => by simp at e; subst e; exact ⟨_, rfl, a⟩
  | _, _, i + 1, d, .cons _ b, e => by
    obtain ⟨v, h1, h2⟩ := Rps.get (i := i) (d := d) b (by simpa using e)
    exact ⟨v, by simpa using h1, h2⟩
theorem Rps.get' : ∀ {vs : List V} {ds : List D} {i : Nat} {v : V}, Rps K W H vs ds → vs[i]? = some v → ∃ d, ds[i]? = some d ∧ Rp K W H v d
  | _, _, _, _, .nil, e => by simp at e
  | _, _, 0, _, .cons a _, e => by simp at e; subst e; exact ⟨_, rfl, a⟩
  | _, _, i + 1, v, .cons _ b, e => by
    obtain ⟨d, h1, h2⟩ := Rps.get' (i := i) (v := v) b (by simpa using e)
    exact ⟨d, by simpa using h1, h2⟩
theorem Rps.append : ∀ {vs : List V} {ds : List D} {vs' : List V} {ds' : List D}, Rps K W H vs ds → Rps K W H vs' ds' → Rps K W H (vs ++ vs') (ds ++ ds')
  | _, _, _, _, .nil, h => h
  | _, _, _, _, .cons a b, h => .cons a (Rps.append b h)
theorem Rps.set : ∀ {vs : List V} {ds : List D} (i : Nat) {v : V} {d : D}, Rps K W H vs ds → Rp K W H v d → Rps K W H (vs.set i v) (ds.set i d)
  | _, _, _, _, _, .nil, _ => .nil
  | _, _, 0, _, _, .cons _ b, r => .cons r b
  | _, _, i + 1, _, _, .cons a b, r => .cons a (Rps.set i b r)
theorem Rps.take : ∀ {vs : List V} {ds : List D} (n : Nat), Rps K W H vs ds → Rps K W H (vs.take n) (ds.take n)
  | _, _, 0, _ => .nil
  | _, _, _ + 1, .nil => .nil
  | _, _, n + 1, .cons a b => .cons a (Rps.take n b)
theorem Rps.drop : ∀ {vs : List V} {ds : List D} (n : Nat), Rps K W H vs ds → Rps K W H (vs.drop n) (ds.drop n)
  | _, _, 0, h => h
  | _, _, _ + 1, .nil => .nil
  | _, _, n + 1, .cons _ b => Rps.drop n b
theorem Rps.reverse {vs : List V} {ds : List D} (h : Rps K W H vs ds) : Rps K W H vs.reverse ds.reverse := by
  induction vs generalizing ds with
  | nil => cases h; exact .nil
  | cons v vs ih =>
    cases h with
    | cons a b =>
      rw [List.reverse_cons, List.reverse_cons]
      exact (ih b).append (.cons a .nil)
theorem Rps.insert : ∀ {vs : List V} {ds : List D} (i : Nat) {v : V} {d : D}, Rps K W H vs ds → Rp K W H v d → Rps K W H (vs.insertIdx i v) (ds.insertIdx i d)
  | _, _, 0, _, _, h, r => by simpa [List.insertIdx] using Rps.cons r h
  | _, _, i + 1, _, _, .nil, r => by simpa [List.insertIdx] using Rps.nil
  | _, _, i + 1, _, _, .cons a b, r => by
    rw [List.insertIdx_succ_cons, List.insertIdx_succ_cons]
    exact .cons a (Rps.insert i b r)
theorem CellOk.keeps (k : Kps K W H W' H') {a : Addr} {c : Cell} (e : H' a = H a) (h : CellOk K W H a c) : CellOk K W' H' a c := by
  cases c with
  | lst xs => obtain ⟨vs, h1, hz, h2⟩ := h; exact ⟨vs, e.trans h1, hz, h2.keeps k⟩
  | dct ks ds => obtain ⟨vs, h1, h2, h3⟩ := h; exact ⟨vs, e.trans h1, h2, h3.keeps k⟩
theorem CellOk.some {a : Addr} {c : Cell} (h : CellOk K W H a c) : ∃ o, H a = some o := by
  cases c with
  | lst xs => obtain ⟨vs, h1, h2⟩ := h; exact ⟨_, h1⟩
  | dct ks ds => obtain ⟨vs, h1, h2, h3⟩ := h; exact ⟨_, h1⟩
theorem WfW.stepE (w : WfW W H) (s : StepE W.θ H H') : WfW W H' :=
  ⟨w.nd, w.inj, w.dis, fun a m => by obtain ⟨o, e⟩ := w.dom a m; exact s.dom a o e⟩
theorem Rel.stepE {σ : L2.St} {ρ : Rho} {S S' : Sto} (r : Rel K W H σ ρ S) (s : StepE W.θ H H') (st : StOk K W H' S') : Rel K W H' σ ρ S' := by
  refine ⟨r.len, fun i x e => ?_, st, r.wf.stepE s⟩
  have q := r.sl i x e
  cases x with
  | un => trivial
  | sh d => obtain ⟨v, h1, h2⟩ := q; exact ⟨v, h1, h2.stepE s⟩
  | ow c =>
    obtain ⟨a, h1, h2, h3⟩ := q
    obtain ⟨o, ho⟩ := h3.some
    refine ⟨a, h1, h2, h3.keeps s.keeps ?_⟩
    rw [ho]
    exact s.keep a o ho (r.wf.dis i a h2).1
/-- the store stays where nothing of the heap changes -/
theorem StOk.same {S : Sto} (h : StOk K W H S) (s : Same H H') : StOk K W H' S := by
  refine ⟨h.1, fun l a c e1 e2 => ?_⟩
  have q := h.2 l a c e1 e2
  obtain ⟨o, ho⟩ := q.some
  refine q.keeps (StepE.same s).keeps ?_
  rw [ho]
  exact s _ _ ho
theorem Rel.same {σ : L2.St} {ρ : Rho} {S : Sto} (r : Rel K W H σ ρ S) (s : Same H H') : Rel K W H' σ ρ S := r.stepE (.same s) (r.st.same s)
theorem Rq.stepE (s : StepE W.θ H H') {v : V} {d : D} (h : Rq K W H v d) : Rq K W H' v d := by
  have k : Kps K W H W H' := s.keeps
  cases h with
  | of h => exact .of (h.keeps k)
  | lst n h z r => exact .lst n (s.keep _ _ h n.1) z (r.keeps k)
  | dct n h e r => exact .dct n (s.keep _ _ h n.1) e (r.keeps k)
theorem Rq.same (s : Same H H') {v : V} {d : D} (h : Rq K W H v d) : Rq K W H' v d := h.stepE (.same s)
/-- a is a mutable object, too -/
def Wd.plus (W : Wd) (a : Addr) : Wd := { W with M0 := fun b => W.M0 b ∨ b = a }
theorem mu_plus {a b : Addr} : Mu (W.plus a) b ↔ Mu W b ∨ b = a := by
  unfold Mu Mt Wd.plus
  constructor
  · rintro ((h | h) | h)
    · exact .inl (.inl h)
    · exact .inr h
    · exact .inl (.inr h)
  · rintro ((h | h) | h)
    · exact .inl (.inl h)
    · exact .inr h
    · exact .inl (.inr h)
theorem Kps.trans {W1 W2 : Wd} {H1 H2 : Hp} (a : Kps K W H W1 H1) (b : Kps K W1 H1 W2 H2) : Kps K W H W2 H2 where
  th := fun l c h => b.th l c (a.th l c h)
  keep := fun c o h n => by obtain ⟨k1, k2⟩ := a.keep c o h n; exact b.keep c o k1 k2
  tups := fun c o h => b.tups c o (a.tups c o h)
  frzs := fun c o u h => b.frzs c o u (a.frzs c o u h)
/-- a new object, that nothing knows -/
theorem Kps.new {a : Addr} {o : HO} (n : H a = none) : Kps K W H (W.plus a) (upd H a o) where
  th := fun _ _ h => h
  keep := fun b u h m => ⟨by rw [upd_ne (ne_of_none h n)]; exact h, fun z => (mu_plus.mp z).elim m fun e => by rw [e] at h; rw [n] at h; cases h⟩
  tups := fun b xs h => by rw [upd_ne (ne_of_none h n)]; exact h
  frzs := fun b o u h => by rw [upd_ne (ne_of_none h n)]; exact h
/-- fewer mutable objects -/
theorem Kps.less (t : W'.θ = W.θ) (m : ∀ b, Mu W' b → Mu W b) : Kps K W H W' H where
  th := fun _ _ h => by rw [t]; exact h
  keep := fun b u h n => ⟨h, fun z => n (m b z)⟩
  tups := fun _ _ h => h
  frzs := fun _ _ _ h => h
theorem Kps.minus {a : Addr} : Kps K (W.plus a) H W H := Kps.less rfl fun b h => mu_plus.mpr (.inl h)
/-- an object that nothing knows is changed -/
theorem Kps.put {a : Addr} {o : HO} (m : Mu W a) (nt : ∀ xs, H a ≠ some (.tup xs)) (nf : ∀ o u, H a ≠ some (.frz o u)) : Kps K W H W (upd H a o) where
  th := fun _ _ h => h
  keep := fun b u h n => ⟨by
    have e : b ≠ a := fun e => n (by rw [e]; exact m)
    rw [upd_ne e]; exact h, n⟩
  tups := fun b xs h => by
    have e : b ≠ a := fun e => nt xs (by rw [← e]; exact h)
    rw [upd_ne e]; exact h
  frzs := fun b o u h => by
    have e : b ≠ a := fun e => nf o u (by rw [← e]; exact h)
    rw [upd_ne e]; exact h
/-- the store by new words -/
theorem StOk.keeps {S : Sto} (h : StOk K W H S) (t : W'.θ = W.θ) (k : Kps K W H W' H') (s : ∀ a ∈ W.θ, H' a = H a) : StOk K W' H' S := by
  refine ⟨by rw [t]; exact h.1, fun l a c e1 e2 => ?_⟩
  rw [t] at e1
  exact (h.2 l a c e1 e2).keeps k (s a (List.mem_of_getElem? e1))
theorem WfW.tdom (w : WfW W H) {a : Addr} (h : a ∈ W.θ) : ∃ o, H a = some o := w.dom a (.inr (.inl h))
end
end DL

set_option Elab.async false
set_option linter.all false
set_option maxRecDepth 100000
namespace DL
open PySem PySem.Spec PyProof.Rows L2

/-! ## 2. judgements -/
abbrev Ex := Rho → Sto → Option (D × Sto)
abbrev Ars := Rho → Sto → Option (List D × Sto)
abbrev Tx := Rho → Sto → Option (Bool × Sto)
section
variable (K : PySem.W.Frag)
/-- made anew: nothing else knows it -/
inductive Rf (W : Wd) (H H' : Hp) (S : Sto) : V → D → Prop
  | lst {a : Addr} {vs : List V} {ds : List D} : H a = none → H' a = some (.lst vs) → vs.length ≤ sizeLine → StOk K (W.plus a) H' S → Rps K (W.plus a) H' vs ds → Rf W H H' S (.ref a) (.lst ds)
  | dct {a : Addr} {ks : List Key} {vs : List V} {ds : List D} : H a = none → H' a = some (.dK (ks.zip vs)) → ks.length = vs.length → StOk K (W.plus a) H' S → Rps K (W.plus a) H' vs ds → Rf W H H' S (.ref a) (.dct ks ds)
abbrev Rqs (W : Wd) (H : Hp) : List V → List D → Prop := Paired (Rq K W H)
def tD (f : Ex) : TE := fun σ H Q => ∃ (W : Wd) (ρ : Rho) (S : Sto) (d : D) (S' : Sto), Rel K W H σ ρ S ∧ f ρ S = some (d, S') ∧ ∀ v H', StepE W.θ H H' → StOk K W H' S' → Rp K W H' v d → Q v H'
def tQ (f : Ex) : TE := fun σ H Q => ∃ (W : Wd) (ρ : Rho) (S : Sto) (d : D) (S' : Sto), Rel K W H σ ρ S ∧ f ρ S = some (d, S') ∧ ∀ v H', StepE W.θ H H' → StOk K W H' S' → Rq K W H' v d → Q v H'
def tF (f : Ex) : TE := fun σ H Q => ∃ (W : Wd) (ρ : Rho) (S : Sto) (d : D) (S' : Sto), Rel K W H σ ρ S ∧ f ρ S = some (d, S') ∧ ∀ v H', StepE W.θ H H' → Rf K W H H' S' v d → Q v H'
def tA (f : Ars) : TA := fun σ H Q => ∃ (W : Wd) (ρ : Rho) (S : Sto) (d : List D) (S' : Sto), Rel K W H σ ρ S ∧ f ρ S = some (d, S') ∧ ∀ v H', StepE W.θ H H' → StOk K W H' S' → Rps K W H' v d → Q v H'
def tAQ (f : Ars) : TA := fun σ H Q => ∃ (W : Wd) (ρ : Rho) (S : Sto) (d : List D) (S' : Sto), Rel K W H σ ρ S ∧ f ρ S = some (d, S') ∧ ∀ v H', StepE W.θ H H' → StOk K W H' S' → Rqs K W H' v d → Q v H'
def tT (f : Tx) : TT := fun σ H Q => ∃ (W : Wd) (ρ : Rho) (S : Sto) (d : Bool) (S' : Sto), Rel K W H σ ρ S ∧ f ρ S = some (d, S') ∧ ∀ H', StepE W.θ H H' → StOk K W H' S' → Q d H'
end
/-- an expression gives data; perhaps data of the frame's own; a new list or dict -/
abbrev E (X : Cx) (e : Expr) (f : Ex) : Prop := PE X e (tD X.K f)
abbrev B (X : Cx) (e : Expr) (f : Ex) : Prop := PE X e (tQ X.K f)
abbrev N (X : Cx) (e : Expr) (f : Ex) : Prop := PE X e (tF X.K f)
abbrev A (X : Cx) (e : List Expr) (f : Ars) : Prop := PA X e (tA X.K f)
abbrev AQ (X : Cx) (e : List Expr) (f : Ars) : Prop := PA X e (tAQ X.K f)
abbrev T (X : Cx) (e : Expr) (f : Tx) : Prop := PT X e (tT X.K f)
abbrev TW (X : Cx) (e : Expr) (f : Tx) : Prop := PW X e (tT X.K f)

theorem pe_imp {X : Cx} {e : Expr} {t t' : TE} (h : PE X e t) (i : ∀ σ H Q, t' σ H Q → t σ H Q) : PE X e t' := ⟨fun pins s σ H Q I w => h.run pins s σ H Q I (i σ H Q w)⟩
theorem pa_imp {X : Cx} {e : List Expr} {t t' : TA} (h : PA X e t) (i : ∀ σ H Q, t' σ H Q → t σ H Q) : PA X e t' := ⟨fun pos pins s σ H Q I w => h.run pos pins s σ H Q I (i σ H Q w)⟩
theorem pt_imp {X : Cx} {e : Expr} {t t' : TT} (h : PT X e t) (i : ∀ σ H Q, t' σ H Q → t σ H Q) : PT X e t' := ⟨fun pins s σ H Q I w => h.run pins s σ H Q I (i σ H Q w)⟩
theorem pw_imp {X : Cx} {e : Expr} {t t' : TT} (h : PW X e t) (i : ∀ σ H Q, t' σ H Q → t σ H Q) : PW X e t' := ⟨fun wh pins s σ H Q I w => h.run wh pins s σ H Q I (i σ H Q w)⟩

section
variable {K : PySem.W.Frag} {W : Wd} {H H' H1 : Hp}
theorem Rf.rp (wf : WfW W H) {S : Sto} {v : V} {d : D} (r : Rf K W H H' S v d) : Rp K W H' v d := by
  cases r with
  | lst n e z st r => exact .lst (fun m => by obtain ⟨o, h⟩ := wf.dom _ m; rw [n] at h; cases h) e z (r.keeps .minus)
  | dct n e z st r => exact .dct (fun m => by obtain ⟨o, h⟩ := wf.dom _ m; rw [n] at h; cases h) e z (r.keeps .minus)
theorem Rf.st {S : Sto} {v : V} {d : D} (r : Rf K W H H' S v d) : StOk K W H' S := by
  cases r with
  | lst n e z st r => exact st.keeps rfl .minus fun _ _ => rfl
  | dct n e z st r => exact st.keeps rfl .minus fun _ _ => rfl
theorem StepE.none {θ : List Addr} (s : StepE θ H H1) {a : Addr} (n : H1 a = none) : H a = none := by
  cases e : H a with
  | none => rfl
  | some o => obtain ⟨o', h⟩ := s.dom a o e; rw [n] at h; cases h
theorem Rf.before {S : Sto} {v : V} {d : D} (s : StepE W.θ H H1) (r : Rf K W H1 H' S v d) : Rf K W H H' S v d := by
  cases r with
  | lst n e z st r => exact .lst (s.none n) e z st r
  | dct n e z st r => exact .dct (s.none n) e z st r
theorem Rqs.stepE (s : StepE W.θ H H') : ∀ {vs : List V} {ds : List D}, Rqs K W H vs ds → Rqs K W H' vs ds
  | _, _, .nil => .nil
  | _, _, .cons a b => .cons (Rq.stepE s a) (Rqs.stepE s b)
theorem upd_Same {p : Addr} {o : HO} (h : H p = none) : Same H (upd H p o) := fun b u e => by rw [upd_ne (ne_of_none e h)]; exact e
theorem StOk.new {S : Sto} {p : Addr} {o : HO} (wf : WfW W H) (h : StOk K W H S) (n : H p = none) : StOk K (W.plus p) (upd H p o) S :=
  h.keeps rfl (.new n) fun a m => by
    obtain ⟨u, e⟩ := wf.tdom m
    rw [upd_ne (ne_of_none e n)]
theorem Rf.newL {S : Sto} {p : Addr} {vs : List V} {ds : List D} (wf : WfW W H) (st : StOk K W H S) (n : H p = none) (z : vs.length ≤ sizeLine) (r : Rps K W H vs ds) : Rf K W H (upd H p (.lst vs)) S (.ref p) (.lst ds) :=
  .lst n upd_same z (st.new wf n) (r.keeps (.new n))
theorem Rf.newD {S : Sto} {p : Addr} {ks : List Key} {vs : List V} {ds : List D} (wf : WfW W H) (st : StOk K W H S) (n : H p = none) (z : ks.length = vs.length) (r : Rps K W H vs ds) : Rf K W H (upd H p (.dK (ks.zip vs))) S (.ref p) (.dct ks ds) :=
  .dct n upd_same z (st.new wf n) (r.keeps (.new n))
end

/-! ## 3. expressions -/
section
variable {X : Cx} {a b c e : Expr} {es : List Expr} {f f1 f2 f3 : Ex} {fs : Ars} {pos : Pos}
theorem b_of (h : E X e f) : B X e f := pe_imp h fun σ H Q ⟨W, ρ, S, d, S', r, hf, k⟩ => ⟨W, ρ, S, d, S', r, hf, fun v H' s st rp => k v H' s st (.of rp)⟩
theorem e_of (h : N X e f) : E X e f := pe_imp h fun σ H Q ⟨W, ρ, S, d, S', r, hf, k⟩ => ⟨W, ρ, S, d, S', r, hf, fun v H' s rp => k v H' s rp.st (rp.rp r.wf)⟩
theorem bn_of (h : N X e f) : B X e f := b_of (e_of h)

def eVar (i : Nat) : Ex := fun ρ S => match ρ[i]? with
  | some (.sh d) => some (d, S)
  | _ => none
/-- what a slot holds, to be read -/
def Sl.rd : Sl → Option D
  | .sh d => some d
  | .ow (.lst xs) => some (.lst xs)
  | .ow (.dct ks ds) => some (.dct ks ds)
  | .un => none
def bVar (i : Nat) : Ex := fun ρ S => match ρ[i]? with
  | some s => s.rd.map fun d => (d, S)
  | none => none
theorem e_var {i : Nat} (h : PE X e (tVar i)) : E X e (eVar i) := pe_imp h fun σ H Q ⟨W, ρ, S, d, S', r, hf, k⟩ => by
  unfold eVar at hf
  split at hf
  · rename_i d' e
    cases hf
    obtain ⟨v, h1, h2⟩ := r.sl i _ e
    exact ⟨v, h1, k v H (.refl _ _) r.st h2⟩
  · cases hf
theorem b_var {i : Nat} (h : PE X e (tVar i)) : B X e (bVar i) := pe_imp h fun σ H Q ⟨W, ρ, S, d, S', r, hf, k⟩ => by
  unfold bVar at hf
  split at hf
  · rename_i s e
    have q := r.sl i _ e
    cases s with
    | un => cases hf
    | sh d' =>
      cases hf
      obtain ⟨v, h1, h2⟩ := q
      exact ⟨v, h1, k v H (.refl _ _) r.st (.of h2)⟩
    | ow c =>
      obtain ⟨a, h1, h2, h3⟩ := q
      have n := r.wf.dis i a h2
      cases c with
      | lst xs =>
        cases hf
        obtain ⟨vs, e1, z, e2⟩ := h3
        exact ⟨_, h1, k _ H (.refl _ _) r.st (.lst n e1 z e2)⟩
      | dct ks ds =>
        cases hf
        obtain ⟨vs, e1, z, e2⟩ := h3
        exact ⟨_, h1, k _ H (.refl _ _) r.st (.dct n e1 z e2)⟩
  · cases hf

def eC (d : D) : Ex := fun _ S => some (d, S)
theorem e_c {v : V} {d : D} (h : PE X e (tC v)) (r : ∀ W H, Rp X.K W H v d) : E X e (eC d) := pe_imp h fun σ H Q ⟨W, ρ, S, d, S', rl, hf, k⟩ => by
  cases hf
  exact k v H (.refl _ _) rl.st (r W H)
theorem e_int {i : Int} {j : Nat} : E X (.Constant (.int i) j pos) (eC (.int i)) := e_c pe_int fun _ _ => .int i
theorem e_bl {i : Bool} {j : Nat} : E X (.Constant (.bool i) j pos) (eC (.bl i)) := e_c pe_bl fun _ _ => .bl i
theorem e_str {i : Str} {j : Nat} : E X (.Constant (.str i) j pos) (eC (.str i)) := e_c pe_str fun _ _ => .str i
theorem e_non {j : Nat} : E X (.Constant .none j pos) (eC .non) := e_c pe_non fun _ _ => .non
theorem e_ty {x : Str} {n : String} (hg : Gl X x) (hm : X.mg x = none) (hv : bootBuiltins x = some (.type n)) (hn : x ≠ "__name__" := by decide) (hd : (x == ("__debug__" : Str)) = false := by decide) : E X (.Name x pos) (eC (.ty n)) := e_c (pe_bltn (v := .ty n) hg hm hv rfl hn hd) fun _ _ => .ty n

/-! ### two operands -/
def OpD (K : PySem.W.Frag) (r : R2) (g : D → D → Option D) : Prop :=
  ∀ (W : Wd) (H : Hp) (v1 v2 : V) (d1 d2 d : D) (Q : VK), WfW W H → Rq K W H v1 d1 → Rq K W H v2 d2 → g d1 d2 = some d → (∀ v H', Same H H' → Rp K W H' v d → Q v H') → r v1 v2 H Q
/-- a new list or dict is given -/
def NewOk (K : PySem.W.Frag) (W : Wd) (H : Hp) (Q : VK) : D → Prop
  | .lst xs => ∀ p vs, H p = none → vs.length ≤ sizeLine → Rps K W H vs xs → Q (.ref p) (upd H p (.lst vs))
  | .dct ks ds => ∀ p vs, H p = none → ks.length = vs.length → Rps K W H vs ds → Q (.ref p) (upd H p (.dK (ks.zip vs)))
  | _ => True
def OpF (K : PySem.W.Frag) (r : R2) (g : D → D → Option D) : Prop :=
  ∀ (W : Wd) (H : Hp) (v1 v2 : V) (d1 d2 d : D) (Q : VK), WfW W H → Rq K W H v1 d1 → Rq K W H v2 d2 → g d1 d2 = some d → NewOk K W H Q d → r v1 v2 H Q
def eBin (g : D → D → Option D) (f1 f2 : Ex) : Ex := fun ρ S => (f1 ρ S).bind fun p => (f2 ρ p.2).bind fun q => (g p.1 q.1).map fun z => (z, q.2)
theorem newOk {K : PySem.W.Frag} {W : Wd} {H : Hp} {S : Sto} {Q : VK} {d : D} (wf : WfW W H) (st : StOk K W H S) (k : ∀ v H', Same H H' → Rf K W H H' S v d → Q v H') : NewOk K W H Q d := by
  cases d with
  | lst xs => exact fun p vs n z r => k _ _ (upd_Same n) (.newL wf st n z r)
  | dct ks ds => exact fun p vs n z r => k _ _ (upd_Same n) (.newD wf st n z r)
  | _ => trivial
theorem bin_d {K : PySem.W.Frag} {r : R2} {g : D → D → Option D} (hd : OpD K r g) {σ : L2.St} {H : Hp} {Q : VK} (h : tD K (eBin g f1 f2) σ H Q) : tOp r (tQ K f1) (tQ K f2) σ H Q := by
  obtain ⟨W, ρ, S, d, S', rl, hf, k⟩ := h
  unfold eBin at hf
  cases e1 : f1 ρ S with
  | none => rw [e1] at hf; cases hf
  | some p =>
    rw [e1] at hf
    cases e2 : f2 ρ p.2 with
    | none => rw [Option.bind_some, e2] at hf; cases hf
    | some q =>
      rw [Option.bind_some, e2, Option.bind_some] at hf
      obtain ⟨z, hz, he⟩ := Option.map_eq_some_iff.mp hf
      cases he
      refine ⟨W, ρ, S, p.1, p.2, rl, e1, fun v1 H1 s1 st1 r1 => ⟨W, ρ, p.2, q.1, q.2, rl.stepE s1 st1, e2, fun v2 H2 s2 st2 r2 => ?_⟩⟩
      refine hd W H2 v1 v2 p.1 q.1 d Q ((rl.wf.stepE s1).stepE s2) (r1.stepE s2) r2 hz fun v H3 s3 r3 => ?_
      exact k v H3 ((s1.trans s2).trans (.same s3)) (st2.same s3) r3
theorem bin_f {K : PySem.W.Frag} {r : R2} {g : D → D → Option D} (hd : OpF K r g) {σ : L2.St} {H : Hp} {Q : VK} (h : tF K (eBin g f1 f2) σ H Q) : tOp r (tQ K f1) (tQ K f2) σ H Q := by
  obtain ⟨W, ρ, S, d, S', rl, hf, k⟩ := h
  unfold eBin at hf
  cases e1 : f1 ρ S with
  | none => rw [e1] at hf; cases hf
  | some p =>
    rw [e1] at hf
    cases e2 : f2 ρ p.2 with
    | none => rw [Option.bind_some, e2] at hf; cases hf
    | some q =>
      rw [Option.bind_some, e2, Option.bind_some] at hf
      obtain ⟨z, hz, he⟩ := Option.map_eq_some_iff.mp hf
      cases he
      refine ⟨W, ρ, S, p.1, p.2, rl, e1, fun v1 H1 s1 st1 r1 => ⟨W, ρ, p.2, q.1, q.2, rl.stepE s1 st1, e2, fun v2 H2 s2 st2 r2 => ?_⟩⟩
      refine hd W H2 v1 v2 p.1 q.1 d Q ((rl.wf.stepE s1).stepE s2) (r1.stepE s2) r2 hz ?_
      exact newOk (rl.wf.stepE (s1.trans s2)) st2 fun v H3 s3 r3 => k v H3 ((s1.trans s2).trans (.same s3)) (r3.before (s1.trans s2))
theorem e_bin {op : Operator} {r : R2} {g : D → D → Option D} (ho : OpR X (binaryOp op) r) (hd : OpD X.K r g) (ha : B X a f1) (hb : B X b f2) : E X (.BinOp a op b pos) (eBin g f1 f2) :=
  pe_imp (pe_op ho ha hb) fun _ _ _ h => bin_d hd h
theorem n_bin {op : Operator} {r : R2} {g : D → D → Option D} (ho : OpR X (binaryOp op) r) (hd : OpF X.K r g) (ha : B X a f1) (hb : B X b f2) : N X (.BinOp a op b pos) (eBin g f1 f2) :=
  pe_imp (pe_op ho ha hb) fun _ _ _ h => bin_f hd h
theorem e_cmp {op : CmpOp} {r : R2} {g : D → D → Option D} (ho : OpR X (compareOp op) r) (hd : OpD X.K r g) (ha : B X a f1) (hb : B X b f2) (hm : behindInMarks op b = false := by first | exact nomark _ | rfl) : E X (.Compare a [op] [b] pos) (eBin g f1 f2) :=
  pe_imp (pe_cmpR ho ha hb hm) fun _ _ _ h => bin_d hd h
theorem OpD.or {K : PySem.W.Frag} {r r' : R2} {g : D → D → Option D} (h : OpD K r g) : OpD K (fun x y H Q => r x y H Q ∨ r' x y H Q) g := fun W H v1 v2 d1 d2 d Q wf q1 q2 hg k => .inl (h W H v1 v2 d1 d2 d Q wf q1 q2 hg k)
/-- whichever of both gives something -/
def orD (g g' : D → D → Option D) : D → D → Option D := fun x y => (g x y).or (g' x y)
theorem OpD.join {K : PySem.W.Frag} {r r' : R2} {g g' : D → D → Option D} (h : OpD K r g) (h' : OpD K r' g') : OpD K (fun x y H Q => r x y H Q ∨ r' x y H Q) (orD g g') := fun W H v1 v2 d1 d2 d Q wf q1 q2 hg k => by
  unfold orD at hg
  cases e : g d1 d2 with
  | some z => rw [e] at hg; cases hg; exact .inl (h W H v1 v2 d1 d2 _ Q wf q1 q2 e k)
  | none => rw [e] at hg; exact .inr (h' W H v1 v2 d1 d2 _ Q wf q1 q2 hg k)

/-! ### arguments -/
def aNil : Ars := fun _ S => some ([], S)
def aCons (f : Ex) (fs : Ars) : Ars := fun ρ S => (f ρ S).bind fun p => (fs ρ p.2).bind fun q => some (p.1 :: q.1, q.2)
theorem a_nil : A X [] aNil := pa_imp pa_nil fun σ H Q ⟨W, ρ, S, d, S', r, hf, k⟩ => by
  cases hf
  exact k [] H (.refl _ _) r.st .nil
theorem aq_nil : AQ X [] aNil := pa_imp pa_nil fun σ H Q ⟨W, ρ, S, d, S', r, hf, k⟩ => by
  cases hf
  exact k [] H (.refl _ _) r.st .nil
theorem aCons_split {ρ : Rho} {S S' : Sto} {d : List D} (h : aCons f fs ρ S = some (d, S')) : ∃ p q, f ρ S = some p ∧ fs ρ p.2 = some q ∧ d = p.1 :: q.1 ∧ S' = q.2 := by
  unfold aCons at h
  cases e1 : f ρ S with
  | none => rw [e1] at h; cases h
  | some p =>
    rw [e1, Option.bind_some] at h
    cases e2 : fs ρ p.2 with
    | none => rw [e2] at h; cases h
    | some q => rw [e2] at h; cases h; exact ⟨p, q, rfl, e2, rfl, rfl⟩
theorem a_cons (ha : E X e f) (hr : A X es fs) (hs : starEach (e :: es) X.env = (false, eval e X.env) :: starEach es X.env := by rfl) : A X (e :: es) (aCons f fs) :=
  pa_imp (pa_cons ha hr hs) fun σ H Q ⟨W, ρ, S, d, S', r, hf, k⟩ => by
    obtain ⟨p, q, e1, e2, rfl, rfl⟩ := aCons_split hf
    refine ⟨W, ρ, S, p.1, p.2, r, e1, fun v1 H1 s1 st1 r1 => ⟨W, ρ, p.2, q.1, q.2, r.stepE s1 st1, e2, fun v2 H2 s2 st2 r2 => ?_⟩⟩
    exact k _ H2 (s1.trans s2) st2 (.cons (r1.stepE s2) r2)
theorem aq_cons (ha : B X e f) (hr : AQ X es fs) (hs : starEach (e :: es) X.env = (false, eval e X.env) :: starEach es X.env := by rfl) : AQ X (e :: es) (aCons f fs) :=
  pa_imp (pa_cons ha hr hs) fun σ H Q ⟨W, ρ, S, d, S', r, hf, k⟩ => by
    obtain ⟨p, q, e1, e2, rfl, rfl⟩ := aCons_split hf
    refine ⟨W, ρ, S, p.1, p.2, r, e1, fun v1 H1 s1 st1 r1 => ⟨W, ρ, p.2, q.1, q.2, r.stepE s1 st1, e2, fun v2 H2 s2 st2 r2 => ?_⟩⟩
    exact k _ H2 (s1.trans s2) st2 (.cons (r1.stepE s2) r2)

/-! ### displays -/
def eTup (fs : Ars) : Ex := fun ρ S => (fs ρ S).bind fun p => if p.1.length ≤ sizeLine then some (.tup p.1, p.2) else none
def eLst (fs : Ars) : Ex := fun ρ S => (fs ρ S).bind fun p => if p.1.length ≤ sizeLine then some (.lst p.1, p.2) else none
theorem guard_split {fs : Ars} {g : List D → D} {ρ : Rho} {S S' : Sto} {d : D} (h : ((fs ρ S).bind fun p => if p.1.length ≤ sizeLine then some (g p.1, p.2) else none) = some (d, S')) :
    ∃ p, fs ρ S = some p ∧ p.1.length ≤ sizeLine ∧ d = g p.1 ∧ S' = p.2 := by
  cases e1 : fs ρ S with
  | none => rw [e1] at h; cases h
  | some p =>
    rw [e1, Option.bind_some] at h
    by_cases z : p.1.length ≤ sizeLine
    · rw [if_pos z] at h; cases h; exact ⟨p, rfl, z, rfl, rfl⟩
    · rw [if_neg z] at h; cases h
theorem e_tup {x1} (h : A X es fs) : E X (.Tuple es x1 pos) (eTup fs) := pe_imp (pe_tupZ h) fun σ H Q ⟨W, ρ, S, d, S', r, hf, k⟩ => by
  obtain ⟨p, e1, z, rfl, rfl⟩ := guard_split hf
  refine ⟨W, ρ, S, p.1, p.2, r, e1, fun vs H1 s1 st1 r1 => ⟨by rw [r1.length]; exact z, fun q o hq ho => ?_⟩⟩
  have sm : Same H1 (upd H1 q (.frz o (.tup vs))) := upd_Same hq
  exact k _ _ (s1.trans (.same sm)) (st1.same sm) (.tup (.new ho) (by rw [r1.length]; exact z) (r1.stepE (.same sm)))
theorem n_lst (h : A X es fs) : N X (.List es pos) (eLst fs) := pe_imp (pe_lst h) fun σ H Q ⟨W, ρ, S, d, S', r, hf, k⟩ => by
  obtain ⟨p, e1, z, rfl, rfl⟩ := guard_split hf
  refine ⟨W, ρ, S, p.1, p.2, r, e1, fun vs H1 s1 st1 r1 => ⟨by rw [r1.length]; exact z, fun q hq => ?_⟩⟩
  exact k _ _ (s1.trans (.same (upd_Same hq))) ((Rf.newL (r.wf.stepE s1) st1 hq (by rw [r1.length]; exact z) r1).before s1)

/-! ### calls of built-ins -/
def CallD (K : PySem.W.Frag) (r : List V → Hp → VK → Prop) (g : List D → Option D) : Prop :=
  ∀ (W : Wd) (H : Hp) (vs : List V) (ds : List D) (d : D) (Q : VK), WfW W H → Rqs K W H vs ds → g ds = some d → (∀ v H', Same H H' → Rp K W H' v d → Q v H') → r vs H Q
def CallF (K : PySem.W.Frag) (r : List V → Hp → VK → Prop) (g : List D → Option D) : Prop :=
  ∀ (W : Wd) (H : Hp) (vs : List V) (ds : List D) (d : D) (Q : VK), WfW W H → Rqs K W H vs ds → g ds = some d → NewOk K W H Q d → r vs H Q
def eCB (g : List D → Option D) (fs : Ars) : Ex := fun ρ S => (fs ρ S).bind fun p => (g p.1).map fun z => (z, p.2)
theorem eCB_split {g : List D → Option D} {ρ : Rho} {S S' : Sto} {d : D} (h : eCB g fs ρ S = some (d, S')) : ∃ p, fs ρ S = some p ∧ g p.1 = some d ∧ S' = p.2 := by
  unfold eCB at h
  cases e1 : fs ρ S with
  | none => rw [e1] at h; cases h
  | some p =>
    rw [e1, Option.bind_some] at h
    obtain ⟨z, hz, he⟩ := Option.map_eq_some_iff.mp h
    cases he
    exact ⟨p, rfl, hz, rfl⟩
theorem cb_d {K : PySem.W.Frag} {r : List V → Hp → VK → Prop} {g : List D → Option D} (hd : CallD K r g) {σ : L2.St} {H : Hp} {Q : VK} (h : tD K (eCB g fs) σ H Q) : tCB r (tAQ K fs) σ H Q := by
  obtain ⟨W, ρ, S, d, S', rl, hf, k⟩ := h
  obtain ⟨p, e1, e2, rfl⟩ := eCB_split hf
  refine ⟨W, ρ, S, p.1, p.2, rl, e1, fun vs H1 s1 st1 r1 => ?_⟩
  exact hd W H1 vs p.1 d Q (rl.wf.stepE s1) r1 e2 fun v H3 s3 r3 => k v H3 (s1.trans (.same s3)) (st1.same s3) r3
theorem cb_f {K : PySem.W.Frag} {r : List V → Hp → VK → Prop} {g : List D → Option D} (hd : CallF K r g) {σ : L2.St} {H : Hp} {Q : VK} (h : tF K (eCB g fs) σ H Q) : tCB r (tAQ K fs) σ H Q := by
  obtain ⟨W, ρ, S, d, S', rl, hf, k⟩ := h
  obtain ⟨p, e1, e2, rfl⟩ := eCB_split hf
  refine ⟨W, ρ, S, p.1, p.2, rl, e1, fun vs H1 s1 st1 r1 => ?_⟩
  exact hd W H1 vs p.1 d Q (rl.wf.stepE s1) r1 e2 (newOk (rl.wf.stepE s1) st1 fun v H3 s3 r3 => k v H3 (s1.trans (.same s3)) (r3.before s1))
theorem e_cb {r : List V → Hp → VK → Prop} {g : List D → Option D} (h : PE X e (tCB r (tAQ X.K fs))) (hd : CallD X.K r g) : E X e (eCB g fs) := pe_imp h fun _ _ _ h => cb_d hd h
theorem n_cb {r : List V → Hp → VK → Prop} {g : List D → Option D} (h : PE X e (tCB r (tAQ X.K fs))) (hd : CallF X.K r g) : N X e (eCB g fs) := pe_imp h fun _ _ _ h => cb_f hd h
end
end DL

set_option Elab.async false
set_option linter.all false
set_option maxRecDepth 100000
namespace DL
open PySem PySem.Spec PyProof.Rows L2
section
variable {X : Cx} {a b c e : Expr} {es : List Expr} {f f1 f2 f3 : Ex} {fs : Ars} {g g1 g2 : Tx} {pos : Pos}

/-! ### truth, tests -/
def D.truth : D → Option Bool
  | .non => some false
  | .bl b => some b
  | .int i => some (i != 0)
  | .str x => if x.length ≤ sizeLine then some ((x.length : Int) != 0) else none
  | .tup xs => some (!xs.isEmpty)
  | .lst xs => some (!xs.isEmpty)
  | .dct ks _ => some (!ks.isEmpty)
  | .ty _ => none
  | .ref _ => none
  | .scr _ => none
theorem isEmpty_len {α β : Type} {xs : List α} {ys : List β} (h : xs.length = ys.length) : xs.isEmpty = ys.isEmpty := by
  cases xs <;> cases ys <;> first | rfl | cases h
theorem truth_ok {K : PySem.W.Frag} {W : Wd} {H : Hp} {v : V} {d : D} {k : Bool} (r : Rq K W H v d) (h : d.truth = some k) : TruV K v H k := by
  cases r with
  | of r =>
    cases r with
    | non => cases h; rfl
    | bl b => cases h; rfl
    | int i => cases h; rfl
    | str x =>
      simp only [D.truth] at h
      by_cases z : x.length ≤ sizeLine
      · rw [if_pos z] at h; cases h; exact ⟨z, rfl⟩
      · rw [if_neg z] at h; cases h
    | tup q z rs => cases h; exact .inr (.inl ⟨_, q.sqt, by rw [isEmpty_len rs.length]⟩)
    | lst n q z rs => cases h; exact .inl ⟨_, .of q, by rw [isEmpty_len rs.length]⟩
    | ref _ => cases h
    | scr _ _ => cases h
    | ty _ => cases h
    | dct n q z rs => cases h; exact .inr (.inr ⟨_, q, by rw [isEmpty_len]; rw [List.length_zip, z, Nat.min_self]⟩)
  | lst n q z rs => cases h; exact .inl ⟨_, .of q, by rw [isEmpty_len rs.length]⟩
  | dct n q z rs => cases h; exact .inr (.inr ⟨_, q, by rw [isEmpty_len]; rw [List.length_zip, z, Nat.min_self]⟩)
def tTru (f : Ex) : Tx := fun ρ S => (f ρ S).bind fun p => p.1.truth.map fun k => (k, p.2)
def tBl (f : Ex) : Tx := fun ρ S => (f ρ S).bind fun p => match p.1 with
  | .bl b => some (b, p.2)
  | _ => none
theorem tTru_split {ρ : Rho} {S S' : Sto} {k : Bool} (h : tTru f ρ S = some (k, S')) : ∃ p, f ρ S = some p ∧ p.1.truth = some k ∧ S' = p.2 := by
  unfold tTru at h
  cases e1 : f ρ S with
  | none => rw [e1] at h; cases h
  | some p =>
    rw [e1, Option.bind_some] at h
    obtain ⟨z, hz, he⟩ := Option.map_eq_some_iff.mp h
    cases he
    exact ⟨p, rfl, hz, rfl⟩
theorem tBl_split {ρ : Rho} {S S' : Sto} {k : Bool} (h : tBl f ρ S = some (k, S')) : f ρ S = some (.bl k, S') := by
  unfold tBl at h
  cases e1 : f ρ S with
  | none => rw [e1] at h; cases h
  | some p =>
    rw [e1, Option.bind_some] at h
    obtain ⟨d, S1⟩ := p
    cases d <;> first | (cases h; rfl) | cases h
theorem t_tru (h : B X a f) (he : ∀ whole, isTrue a X.env whole = (do let v ← whole; standAt a.pos; holding [v] (truthy v)) := by intro _; rfl) : T X a (tTru f) :=
  pt_imp (pt_truth h he) fun σ H Q ⟨W, ρ, S, d, S', r, hf, k⟩ => by
    obtain ⟨p, e1, e2, rfl⟩ := tTru_split hf
    exact ⟨W, ρ, S, p.1, p.2, r, e1, fun v H1 s1 st1 r1 => ⟨d, truth_ok r1 e2, k H1 s1 st1⟩⟩
theorem t_cmp {op : CmpOp} {r : R2} {g : D → D → Option D} (ho : OpR X (compareOp op) r) (hd : OpD X.K r g) (ha : B X a f1) (hb : B X b f2) (hm : behindInMarks op b = false := by first | exact nomark _ | rfl) : T X (.Compare a [op] [b] pos) (tBl (eBin g f1 f2)) :=
  pt_imp (pt_cmpR ho ha hb hm) fun σ H Q ⟨W, ρ, S, d, S', rl, hf, k⟩ => by
    refine bin_d hd ⟨W, ρ, S, .bl d, S', rl, tBl_split hf, fun v H1 s1 st1 r1 => ?_⟩
    cases r1
    exact ⟨d, rfl, k H1 s1 st1⟩
/-- a test of a Bool-valued expression by its value -/
theorem t_val (h : B X a f) (he : ∀ whole, isTrue a X.env whole = (do let v ← whole; standAt a.pos; holding [v] (truthy v)) := by intro _; rfl) : T X a (tTru f) := t_tru h he
def tAn (g1 g2 : Tx) : Tx := fun ρ S => (g1 ρ S).bind fun p => if p.1 = true then g2 ρ p.2 else some (false, p.2)
def tOr (g1 g2 : Tx) : Tx := fun ρ S => (g1 ρ S).bind fun p => if p.1 = true then some (true, p.2) else g2 ρ p.2
def tNo (g1 : Tx) : Tx := fun ρ S => (g1 ρ S).map fun p => (!p.1, p.2)
theorem tw_and1 (h : T X a g) : TW X (.BoolOp .And [a] pos) g := pw_imp (pw_and1 h) fun _ _ _ z => z
theorem tw_or1 (h : T X a g) : TW X (.BoolOp .Or [a] pos) g := pw_imp (pw_or1 h) fun _ _ _ z => z
theorem tw_and {rest : List Expr} (h : T X a g1) (h2 : TW X (.BoolOp .And (b :: rest) pos) g2) : TW X (.BoolOp .And (a :: b :: rest) pos) (tAn g1 g2) :=
  pw_imp (pw_and h h2) fun σ H Q ⟨W, ρ, S, d, S', rl, hf, k⟩ => by
    unfold tAn at hf
    cases e1 : g1 ρ S with
    | none => rw [e1] at hf; cases hf
    | some p =>
      rw [e1, Option.bind_some] at hf
      refine ⟨W, ρ, S, p.1, p.2, rl, e1, fun H1 s1 st1 => ?_⟩
      cases hp : p.1 with
      | true =>
        rw [hp, if_pos rfl] at hf
        rw [if_pos rfl]
        exact ⟨W, ρ, p.2, d, S', rl.stepE s1 st1, hf, fun H2 s2 st2 => k H2 (s1.trans s2) st2⟩
      | false =>
        rw [hp, if_neg Bool.false_ne_true] at hf
        rw [if_neg Bool.false_ne_true]
        cases hf
        exact k H1 s1 st1
theorem tw_or {rest : List Expr} (h : T X a g1) (h2 : TW X (.BoolOp .Or (b :: rest) pos) g2) : TW X (.BoolOp .Or (a :: b :: rest) pos) (tOr g1 g2) :=
  pw_imp (pw_or h h2) fun σ H Q ⟨W, ρ, S, d, S', rl, hf, k⟩ => by
    unfold tOr at hf
    cases e1 : g1 ρ S with
    | none => rw [e1] at hf; cases hf
    | some p =>
      rw [e1, Option.bind_some] at hf
      refine ⟨W, ρ, S, p.1, p.2, rl, e1, fun H1 s1 st1 => ?_⟩
      cases hp : p.1 with
      | false =>
        rw [hp, if_neg Bool.false_ne_true] at hf
        rw [if_neg Bool.false_ne_true]
        exact ⟨W, ρ, p.2, d, S', rl.stepE s1 st1, hf, fun H2 s2 st2 => k H2 (s1.trans s2) st2⟩
      | true =>
        rw [hp, if_pos rfl] at hf
        rw [if_pos rfl]
        cases hf
        exact k H1 s1 st1
theorem t_not (h : T X a g) : T X (.UnaryOp .Not a pos) (tNo g) := pt_imp (pt_not h) fun σ H Q ⟨W, ρ, S, d, S', rl, hf, k⟩ => by
  obtain ⟨p, e1, e2⟩ := Option.map_eq_some_iff.mp hf
  cases e2
  exact ⟨W, ρ, S, p.1, p.2, rl, e1, fun H1 s1 st1 => k H1 s1 st1⟩
/-! and, or, not as values -/
def eAn (f1 f2 : Ex) : Ex := fun ρ S => (f1 ρ S).bind fun p => p.1.truth.bind fun k => if k = true then f2 ρ p.2 else some p
def eOr (f1 f2 : Ex) : Ex := fun ρ S => (f1 ρ S).bind fun p => p.1.truth.bind fun k => if k = true then some p else f2 ρ p.2
def eNo (f : Ex) : Ex := fun ρ S => (f ρ S).bind fun p => p.1.truth.map fun k => (.bl (!k), p.2)
theorem e_one {op} (h : E X a f) : E X (.BoolOp op [a] pos) f := pe_one h
theorem e_and {rest : List Expr} (h : E X a f1) (h2 : E X (.BoolOp .And (b :: rest) pos) f2) : E X (.BoolOp .And (a :: b :: rest) pos) (eAn f1 f2) :=
  pe_imp (pe_andT h h2) fun σ H Q ⟨W, ρ, S, d, S', rl, hf, k⟩ => by
    unfold eAn at hf
    cases e1 : f1 ρ S with
    | none => rw [e1] at hf; cases hf
    | some p =>
      rw [e1, Option.bind_some] at hf
      cases e2 : p.1.truth with
      | none => rw [e2] at hf; cases hf
      | some kk =>
        rw [e2, Option.bind_some] at hf
        refine ⟨W, ρ, S, p.1, p.2, rl, e1, fun v H1 s1 st1 r1 => ⟨kk, truth_ok (.of r1) e2, ?_⟩⟩
        cases kk with
        | true =>
          rw [if_pos rfl] at hf ⊢
          exact ⟨W, ρ, p.2, d, S', rl.stepE s1 st1, hf, fun v2 H2 s2 st2 r2 => k v2 H2 (s1.trans s2) st2 r2⟩
        | false =>
          rw [if_neg Bool.false_ne_true] at hf ⊢
          cases hf
          exact k v H1 s1 st1 r1
theorem e_or {rest : List Expr} (h : E X a f1) (h2 : E X (.BoolOp .Or (b :: rest) pos) f2) : E X (.BoolOp .Or (a :: b :: rest) pos) (eOr f1 f2) :=
  pe_imp (pe_orT h h2) fun σ H Q ⟨W, ρ, S, d, S', rl, hf, k⟩ => by
    unfold eOr at hf
    cases e1 : f1 ρ S with
    | none => rw [e1] at hf; cases hf
    | some p =>
      rw [e1, Option.bind_some] at hf
      cases e2 : p.1.truth with
      | none => rw [e2] at hf; cases hf
      | some kk =>
        rw [e2, Option.bind_some] at hf
        refine ⟨W, ρ, S, p.1, p.2, rl, e1, fun v H1 s1 st1 r1 => ⟨kk, truth_ok (.of r1) e2, ?_⟩⟩
        cases kk with
        | false =>
          rw [if_neg Bool.false_ne_true] at hf ⊢
          exact ⟨W, ρ, p.2, d, S', rl.stepE s1 st1, hf, fun v2 H2 s2 st2 r2 => k v2 H2 (s1.trans s2) st2 r2⟩
        | true =>
          rw [if_pos rfl] at hf ⊢
          cases hf
          exact k v H1 s1 st1 r1
theorem e_not (h : B X a f) : E X (.UnaryOp .Not a pos) (eNo f) := pe_imp (pe_notT h) fun σ H Q ⟨W, ρ, S, d, S', rl, hf, k⟩ => by
  unfold eNo at hf
  cases e1 : f ρ S with
  | none => rw [e1] at hf; cases hf
  | some p =>
    rw [e1, Option.bind_some] at hf
    obtain ⟨kk, e2, e3⟩ := Option.map_eq_some_iff.mp hf
    cases e3
    exact ⟨W, ρ, S, p.1, p.2, rl, e1, fun v H1 s1 st1 r1 => ⟨kk, truth_ok r1 e2, k _ H1 s1 st1 (.bl _)⟩⟩
def eIf (g : Tx) (f1 f2 : Ex) : Ex := fun ρ S => (g ρ S).bind fun p => if p.1 = true then f1 ρ p.2 else f2 ρ p.2
theorem e_if (hc : T X c g) (ha : E X a f1) (hb : E X b f2) : E X (.IfExp c a b pos) (eIf g f1 f2) :=
  pe_imp (pe_ifExp hc ha hb) fun σ H Q ⟨W, ρ, S, d, S', rl, hf, k⟩ => by
    unfold eIf at hf
    cases e1 : g ρ S with
    | none => rw [e1] at hf; cases hf
    | some p =>
      rw [e1, Option.bind_some] at hf
      refine ⟨W, ρ, S, p.1, p.2, rl, e1, fun H1 s1 st1 => ?_⟩
      cases hp : p.1 with
      | true =>
        rw [hp, if_pos rfl] at hf
        rw [if_pos rfl]
        exact ⟨W, ρ, p.2, d, S', rl.stepE s1 st1, hf, fun v2 H2 s2 st2 r2 => k v2 H2 (s1.trans s2) st2 r2⟩
      | false =>
        rw [hp, if_neg Bool.false_ne_true] at hf
        rw [if_neg Bool.false_ne_true]
        exact ⟨W, ρ, p.2, d, S', rl.stepE s1 st1, hf, fun v2 H2 s2 st2 r2 => k v2 H2 (s1.trans s2) st2 r2⟩

/-! ### subscripts -/
def atD (xs : List D) (i : Int) : Option D := atI xs i
theorem ixN_lt {n : Nat} {i : Int} {j : Nat} (h : ixN n i = some j) : j < n := (ixN_seq h).2.1
theorem Rps.atI {K : PySem.W.Frag} {W : Wd} {H : Hp} {vs : List V} {ds : List D} {i : Int} {d : D} (r : Rps K W H vs ds) (h : L2.atI ds i = some d) : ∃ v, L2.atI vs i = some v ∧ Rp K W H v d := by
  unfold L2.atI at h ⊢
  rw [r.length]
  cases e : ixN ds.length i with
  | none => rw [e] at h; cases h
  | some j =>
    rw [e, Option.bind_some] at h
    exact r.get h
def D.ix : D → D → Option D
  | .tup xs, .int i => L2.atI xs i
  | .lst xs, .int i => L2.atI xs i
  | .str z, .int i => if z.length ≤ sizeLine then (L2.atI z.cps.toList i).map fun c => .str ⟨#[c]⟩ else none
  | _, _ => none
theorem ix_d {K : PySem.W.Frag} : OpD K (rIx K) D.ix := fun W H v1 v2 d1 d2 d Q wf r1 r2 h k => by
  cases r1 with
  | of r1 =>
    cases r1 with
    | tup q z rs =>
      cases r2 with
      | of r2 =>
        cases r2 with
        | int i =>
          obtain ⟨v, e, rv⟩ := rs.atI h
          exact .inr (.inl ⟨_, _, _, v, rfl, rfl, q.sqt, e, k v H (.refl _) rv⟩)
        | _ => cases h
      | _ => cases h
    | lst n q z rs =>
      cases r2 with
      | of r2 =>
        cases r2 with
        | int i =>
          obtain ⟨v, e, rv⟩ := rs.atI h
          exact .inl ⟨_, _, _, v, rfl, rfl, .of q, e, k v H (.refl _) rv⟩
        | _ => cases h
      | _ => cases h
    | str x =>
      cases r2 with
      | of r2 =>
        cases r2 with
        | int i =>
          simp only [D.ix] at h
          by_cases z : x.length ≤ sizeLine
          · rw [if_pos z] at h
            obtain ⟨c, e1, e2⟩ := Option.map_eq_some_iff.mp h
            cases e2
            exact .inr (.inr ⟨x, i, c, rfl, rfl, z, e1, k _ H (.refl _) (.str _)⟩)
          · rw [if_neg z] at h; cases h
        | _ => cases h
      | _ => cases h
    | _ => cases h
  | lst n q z rs =>
    cases r2 with
    | of r2 =>
      cases r2 with
      | int i =>
        obtain ⟨v, e, rv⟩ := rs.atI h
        exact .inl ⟨_, _, _, v, rfl, rfl, .of q, e, k v H (.refl _) rv⟩
      | _ => cases h
    | _ => cases h
  | _ => cases h
theorem e_ix (ha : B X a f1) (hb : B X b f2) (hs : PlainIx b := by intro _ _; rfl) : E X (.Subscript a b pos) (eBin D.ix f1 f2) := pe_imp (pe_ix ix_seq ha hb hs) fun _ _ _ h => bin_d ix_d h
/-- c[i], c a shared list -/
def eIxR (f1 f2 : Ex) : Ex := fun ρ S => (f1 ρ S).bind fun p => (f2 ρ p.2).bind fun q => match p.1, q.1 with
  | .ref l, .int i => match q.2[l]? with
    | some (.lst xs) => (L2.atI xs i).map fun z => (z, q.2)
    | _ => none
  | _, _ => none
theorem e_ixR (ha : E X a f1) (hb : B X b f2) (hs : PlainIx b := by intro _ _; rfl) : E X (.Subscript a b pos) (eIxR f1 f2) := pe_imp (pe_ix ix_list ha hb hs) fun σ H Q ⟨W, ρ, S, d, S', rl, hf, k⟩ => by
  unfold eIxR at hf
  cases e1 : f1 ρ S with
  | none => rw [e1] at hf; cases hf
  | some p =>
    rw [e1] at hf
    cases e2 : f2 ρ p.2 with
    | none => rw [Option.bind_some, e2] at hf; cases hf
    | some q =>
      rw [Option.bind_some, e2, Option.bind_some] at hf
      obtain ⟨x, S1⟩ := p
      obtain ⟨y, S2⟩ := q
      refine ⟨W, ρ, S, x, S1, rl, e1, fun v1 H1 s1 st1 r1 => ⟨W, ρ, S1, y, S2, rl.stepE s1 st1, e2, fun v2 H2 s2 st2 r2 => ?_⟩⟩
      cases x with
      | ref l =>
        cases y with
        | int i =>
          cases hx : S2[l]? with
          | none => simp only [hx] at hf; cases hf
          | some cc =>
            cases cc with
            | lst xs =>
              simp only [hx] at hf
              obtain ⟨z, hz, he⟩ := Option.map_eq_some_iff.mp hf
              cases he
              cases r2 with
              | of r2 =>
                cases r2
                cases r1 with
                | ref hl =>
                  obtain ⟨vs, hv, _, rs⟩ := st2.2 _ _ _ hl hx
                  obtain ⟨v, ev, rv⟩ := rs.atI hz
                  exact ⟨_, _, _, v, rfl, rfl, .of hv, ev, k v H2 (s1.trans s2) st2 rv⟩
            | dct _ _ => simp only [hx] at hf; cases hf
        | _ => cases hf
      | _ => cases hf

/-! ### slices -/
abbrev Px := Rho → Sto → Option (Option Int × Sto)
def tPx (K : PySem.W.Frag) (f : Px) : TO := fun σ H Q => ∃ (W : Wd) (ρ : Rho) (S : Sto) (d : Option Int) (S' : Sto), Rel K W H σ ρ S ∧ f ρ S = some (d, S') ∧ ∀ H', StepE W.θ H H' → StOk K W H' S' → Q d H'
abbrev P (X : Cx) (e : Option Expr) (f : Px) : Prop := PO X e (tPx X.K f)
def pNo : Px := fun _ S => some (none, S)
def pIs (f : Ex) : Px := fun ρ S => (f ρ S).bind fun p => match p.1 with
  | .int i => some (some i, p.2)
  | _ => none
theorem p_no : P X none pNo := ⟨fun pins s σ H Q I ⟨W, ρ, S, d, S', rl, hf, k⟩ => by
  cases hf
  exact po_none.run pins s σ H Q I (k H (.refl _ _) rl.st)⟩
theorem p_is (h : B X a f) : P X (some a) (pIs f) := ⟨fun pins s σ H Q I ⟨W, ρ, S, d, S', rl, hf, k⟩ => by
  refine (po_some h).run pins s σ H Q I ?_
  unfold pIs at hf
  cases e1 : f ρ S with
  | none => rw [e1] at hf; cases hf
  | some p =>
    rw [e1, Option.bind_some] at hf
    obtain ⟨x, S1⟩ := p
    cases x with
    | int i =>
      cases hf
      refine ⟨W, ρ, S, _, _, rl, e1, fun v H1 s1 st1 r1 => ?_⟩
      cases r1 with
      | of r1 =>
        cases r1
        exact ⟨i, rfl, k H1 s1 st1⟩
    | _ => cases hf⟩
def cutD (xs : List D) (lo hi : Option Int) : List D := (xs.drop (HT.sIx xs.length 0 lo)).take (HT.sIx xs.length xs.length hi - HT.sIx xs.length 0 lo)
theorem Rps.cut {K : PySem.W.Frag} {W : Wd} {H : Hp} {vs : List V} {ds : List D} (lo hi : Option Int) (r : Rps K W H vs ds) : Rps K W H (cutV vs lo hi) (cutD ds lo hi) := by
  unfold cutV cutD
  rw [r.length]
  exact (r.drop _).take _
def SlD (K : PySem.W.Frag) (r : V → Option Int → Option Int → Hp → VK → Prop) (g : D → Option Int → Option Int → Option D) : Prop :=
  ∀ (W : Wd) (H : Hp) (v : V) (d1 d : D) (lo hi : Option Int) (Q : VK), WfW W H → Rq K W H v d1 → g d1 lo hi = some d → (∀ v H', Same H H' → Rp K W H' v d → Q v H') → r v lo hi H Q
def eSl (g : D → Option Int → Option Int → Option D) (f : Ex) (l h : Px) : Ex := fun ρ S => (f ρ S).bind fun p => (l ρ p.2).bind fun q => (h ρ q.2).bind fun r => (g p.1 q.1 r.1).map fun z => (z, r.2)
theorem sl_split {g : D → Option Int → Option Int → Option D} {l h : Px} {ρ : Rho} {S S' : Sto} {d : D} (hf : eSl g f l h ρ S = some (d, S')) : ∃ p q r, f ρ S = some p ∧ l ρ p.2 = some q ∧ h ρ q.2 = some r ∧ g p.1 q.1 r.1 = some d ∧ S' = r.2 := by
  unfold eSl at hf
  cases e1 : f ρ S with
  | none => rw [e1] at hf; cases hf
  | some p =>
    rw [e1, Option.bind_some] at hf
    cases e2 : l ρ p.2 with
    | none => rw [e2] at hf; cases hf
    | some q =>
      rw [e2, Option.bind_some] at hf
      cases e3 : h ρ q.2 with
      | none => rw [e3] at hf; cases hf
      | some r =>
        rw [e3, Option.bind_some] at hf
        obtain ⟨z, hz, he⟩ := Option.map_eq_some_iff.mp hf
        cases he
        exact ⟨p, q, r, rfl, e2, e3, hz, rfl⟩
theorem e_sl {lo hi : Option Expr} {p2 : Pos} {l h : Px} {r : V → Option Int → Option Int → Hp → VK → Prop} {g : D → Option Int → Option Int → Option D} (hr : SlR X r) (hd : SlD X.K r g) (ha : B X a f) (hl : P X lo l) (hh : P X hi h) : E X (.Subscript a (.Slice lo hi none p2) pos) (eSl g f l h) :=
  pe_imp (pe_slice hr ha hl hh) fun σ H Q ⟨W, ρ, S, d, S', rl, hf, k⟩ => by
    obtain ⟨p, q, r, e1, e2, e3, hz, rfl⟩ := sl_split hf
    refine ⟨W, ρ, S, p.1, p.2, rl, e1, fun v1 H1 s1 st1 r1 => ⟨W, ρ, p.2, q.1, q.2, rl.stepE s1 st1, e2, fun H2 s2 st2 => ⟨W, ρ, q.2, r.1, r.2, (rl.stepE s1 st1).stepE s2 st2, e3, fun H3 s3 st3 => ?_⟩⟩⟩
    exact hd W H3 v1 p.1 d q.1 r.1 Q (((rl.wf.stepE s1).stepE s2).stepE s3) ((r1.stepE s2).stepE s3) hz fun v H4 s4 r4 => k v H4 (((s1.trans s2).trans s3).trans (.same s4)) (st3.same s4) r4
def D.slice : D → Option Int → Option Int → Option D
  | .tup xs, lo, hi => some (.tup (cutD xs lo hi))
  | .lst xs, lo, hi => some (.lst (cutD xs lo hi))
  | .scr ns, lo, hi => some (.lst (cutD (ns.map D.int) lo hi))
  | .str z, lo, hi => if z.length ≤ sizeLine then some (.str (cutS z lo hi)) else none
  | _, _, _ => none
def rSlice (K : PySem.W.Frag) : V → Option Int → Option Int → Hp → VK → Prop := fun x lo hi H Q => rSlL K x lo hi H Q ∨ rSlZ K x lo hi H Q ∨ rSlS x lo hi H Q
theorem sl_slice : SlR X (rSlice X.K) := sl_list.or (sl_tupZ.or sl_str)
theorem cutV_whole {xs : List V} {lo hi : Option Int} (h : HT.sIx xs.length 0 lo = 0 ∧ HT.sIx xs.length xs.length hi = xs.length) : cutV xs lo hi = xs := by
  unfold cutV
  rw [h.1, h.2]
  simp
theorem ScrAt.sql {K : PySem.W.Frag} {H : Hp} {a : Addr} {ns : List Int} (h : ScrAt K H a ns) : SqL K H a (ns.map V.int) := by
  rcases h with ⟨o, h⟩ | h
  · exact .inl (.inr ⟨o, h⟩)
  · exact .inr h
theorem rps_ints (K : PySem.W.Frag) (W : Wd) (H : Hp) : ∀ ns : List Int, Rps K W H (ns.map V.int) (ns.map D.int)
  | [] => .nil
  | n :: ns => .cons (.int n) (rps_ints K W H ns)
theorem slice_d {K : PySem.W.Frag} : SlD K (rSlice K) D.slice := fun W H v d1 d lo hi Q wf r1 h k => by
  have newl : ∀ {a : Addr} {vs : List V} {ds : List D}, SqL K H a vs → vs.length ≤ sizeLine → Rps K W H vs ds → d = .lst (cutD ds lo hi) → rSlL K (.ref a) lo hi H Q := fun {a vs ds} hs hz rs e => by
    subst e
    refine ⟨a, vs, rfl, hs, fun p hp => ?_⟩
    have sm : Same H (upd H p (.lst (cutV vs lo hi))) := upd_Same hp
    exact k _ _ sm (.lst (fun m => by obtain ⟨o, h⟩ := wf.dom _ m; rw [hp] at h; cases h) upd_same (Nat.le_trans (cutV_length _ _ _) hz) ((rs.cut lo hi).stepE (.same sm)))
  cases r1 with
  | of r1 =>
    cases r1 with
    | lst n q z rs => exact .inl (newl (.of q) z rs (Option.some.inj h).symm)
    | scr z q => exact .inl (newl q.sql (by rw [List.length_map]; exact z) (rps_ints K W H _) (Option.some.inj h).symm)
    | @tup aa vv dd q z rs =>
      cases h
      refine .inr (.inl ⟨_, _, rfl, q.sqt, fun hw => ?_, fun hw p o hp ho => ?_⟩)
      · refine k _ H (.refl _) (.tup q z ?_)
        have e := rs.cut lo hi
        rw [cutV_whole hw] at e
        exact e
      · have sm : Same H (upd H p (.frz o (.tup (cutV vv lo hi)))) := upd_Same hp
        exact k _ _ sm (.tup (.new ho) (Nat.le_trans (cutV_length _ _ _) z) ((rs.cut lo hi).stepE (.same sm)))
    | str x =>
      simp only [D.slice] at h
      by_cases z : x.length ≤ sizeLine
      · rw [if_pos z] at h
        cases h
        exact .inr (.inr ⟨x, rfl, z, k _ H (.refl _) (.str _)⟩)
      · rw [if_neg z] at h; cases h
    | _ => cases h
  | lst n q z rs => exact .inl (newl (.of q) z rs (Option.some.inj h).symm)
  | dct => cases h
end
end DL

set_option Elab.async false
set_option linter.all false
set_option maxRecDepth 100000
namespace DL
open PySem PySem.Spec PyProof.Rows L2

/-! ## 4. what is walked -/
structure LaterE (W : Wd) (H : Hp) (W2 : Wd) (H2 : Hp) : Prop where
  th : W2.θ = W.θ
  keep : ∀ b o, H b = some o → b ∉ W.θ → ¬ W.M0 b → H2 b = some o
  nm : ∀ b o, H b = some o → ¬ Mu W b → ¬ Mu W2 b
  tups : ∀ b xs, H b = some (.tup xs) → H2 b = some (.tup xs)
  frzs : ∀ b o u, H b = some (.frz o u) → H2 b = some (.frz o u)
theorem LaterE.kps {K : PySem.W.Frag} {W W2 : Wd} {H H2 : Hp} (l : LaterE W H W2 H2) : Kps K W H W2 H2 where
  th := fun _ _ h => by rw [l.th]; exact h
  keep := fun b o h n => ⟨l.keep b o h (fun z => n (.inr (.inl z))) (fun z => n (.inl z)), l.nm b o h n⟩
  tups := l.tups
  frzs := l.frzs
theorem StepE.later {W : Wd} {H H2 : Hp} (s : StepE W.θ H H2) : LaterE W H W H2 := ⟨rfl, fun b o h n _ => s.keep b o h n, fun _ _ _ n => n, s.tups, s.frzs⟩
/-- fl: also where the frame's own objects change -/
def Later (fl : Bool) (K : PySem.W.Frag) (W : Wd) (H : Hp) (W2 : Wd) (H2 : Hp) : Prop := if fl = true then Kps K W H W2 H2 else LaterE W H W2 H2
theorem Later.kps {fl : Bool} {K : PySem.W.Frag} {W W2 : Wd} {H H2 : Hp} (l : Later fl K W H W2 H2) : Kps K W H W2 H2 := by
  cases fl with
  | true => exact l
  | false => exact LaterE.kps l
def Walk (K : PySem.W.Frag) (W : Wd) (fl : Bool) (H : Hp) (J : It) (xs : List D) : Prop :=
  ∀ W2 H2, Later fl K W H W2 H2 → (∀ (i : Nat) (d : D), xs[i]? = some d → J.go i H2 ∧ ∀ v H3, J.yld i H2 v H3 → Same H2 H3 ∧ Rp K W2 H3 v d) ∧ J.stop xs.length H2
def tI (K : PySem.W.Frag) (fl : Bool) (f : Ars) : TI := fun σ H R => ∃ (W : Wd) (ρ : Rho) (S : Sto) (xs : List D) (S' : Sto), Rel K W H σ ρ S ∧ f ρ S = some (xs, S') ∧
  ∀ J H', StepE W.θ H H' → StOk K W H' S' → xs.length ≤ sizeLine → Walk K W fl H' J xs → R J H'
abbrev IT (fl : Bool) (X : Cx) (tg iter : Expr) (f : Ars) : Prop := PI X tg iter (tI X.K fl f)
theorem pi_imp {X : Cx} {tg iter : Expr} {t t' : TI} (h : PI X tg iter t) (i : ∀ σ H R, t' σ H R → t σ H R) : PI X tg iter t' := ⟨fun pins s σ H R I w => h.run pins s σ H R I (i σ H R w)⟩
theorem pi_or {X : Cx} {tg iter : Expr} {t t' : TI} (h : PI X tg iter t) (h' : PI X tg iter t') : PI X tg iter (fun σ H R => t σ H R ∨ t' σ H R) :=
  ⟨fun pins s σ H R I w => w.elim (fun w => h.run pins s σ H R I w) fun w => h'.run pins s σ H R I w⟩

section
variable {K : PySem.W.Frag} {W : Wd} {H : Hp}
theorem Rps.getLt {vs : List V} {ds : List D} {i : Nat} (r : Rps K W H vs ds) (h : i < vs.length) : i < ds.length := by rw [← r.length]; exact h
theorem walk_list {a : Addr} {vs : List V} {ds : List D} (h : H a = some (.lst vs)) (n : ¬ Mu W a) (r : Rps K W H vs ds) : Walk K W true H (Itl K a) ds := fun W2 H2 l => by
  have e2 := (l.kps.keep a _ h n).1
  refine ⟨fun i d hd => ?_, ⟨vs, .of e2, by rw [r.length]; exact Nat.le_refl _⟩⟩
  obtain ⟨v, hv, rv⟩ := r.get hd
  refine ⟨⟨vs, v, .of e2, hv⟩, fun x H3 y => ?_⟩
  obtain ⟨rfl, y⟩ := y
  have q := y vs (.of e2)
  rw [hv] at q
  cases q
  exact ⟨.refl _, rv.keeps l.kps⟩
theorem walk_own {a : Addr} {vs : List V} {ds : List D} (h : H a = some (.lst vs)) (n : a ∉ W.θ ∧ ¬ W.M0 a) (r : Rps K W H vs ds) : Walk K W false H (Itl K a) ds := fun W2 H2 l => by
  have e2 : H2 a = some (.lst vs) := LaterE.keep l a _ h n.1 n.2
  refine ⟨fun i d hd => ?_, ⟨vs, .of e2, by rw [r.length]; exact Nat.le_refl _⟩⟩
  obtain ⟨v, hv, rv⟩ := r.get hd
  refine ⟨⟨vs, v, .of e2, hv⟩, fun x H3 y => ?_⟩
  obtain ⟨rfl, y⟩ := y
  have q := y vs (.of e2)
  rw [hv] at q
  cases q
  exact ⟨.refl _, rv.keeps l.kps⟩
theorem walk_tup {fl : Bool} {a : Addr} {vs : List V} {ds : List D} (h : TupAt K H a vs) (r : Rps K W H vs ds) : Walk K W fl H (Itt K a) ds := fun W2 H2 l => by
  have e2 : SqT K H2 a vs := (TupAt.step l.kps.frzs h).sqt
  refine ⟨fun i d hd => ?_, ⟨vs, e2, by rw [r.length]; exact Nat.le_refl _⟩⟩
  obtain ⟨v, hv, rv⟩ := r.get hd
  refine ⟨⟨vs, v, e2, hv⟩, fun x H3 y => ?_⟩
  obtain ⟨rfl, y⟩ := y
  have q := y vs e2
  rw [hv] at q
  cases q
  exact ⟨.refl _, rv.keeps l.kps⟩
theorem Walk.less {fl : Bool} {J : It} {xs : List D} (w : Walk K W true H J xs) : Walk K W fl H J xs := fun W2 H2 l => w W2 H2 (show Later true K W H W2 H2 from l.kps)
end

/-! ### lists and tuples -/
def D.elems : D → Option (List D)
  | .tup xs => some xs
  | .lst xs => some xs
  | _ => none
def iSeq (f : Ex) : Ars := fun ρ S => (f ρ S).bind fun p => p.1.elems.map fun xs => (xs, p.2)
theorem iSeq_split {f : Ex} {ρ : Rho} {S S' : Sto} {xs : List D} (h : iSeq f ρ S = some (xs, S')) : ∃ d, f ρ S = some (d, S') ∧ d.elems = some xs := by
  unfold iSeq at h
  cases e1 : f ρ S with
  | none => rw [e1] at h; cases h
  | some p =>
    rw [e1, Option.bind_some] at h
    obtain ⟨z, hz, he⟩ := Option.map_eq_some_iff.mp h
    cases he
    exact ⟨p.1, rfl, hz⟩
section
variable {X : Cx} {tg e e2 : Expr} {f : Ex} {fs : Ars} {pos : Pos}
theorem it_seq (h : E X e f) : IT true X tg e (iSeq f) := pi_imp (pi_or (pi_list h) (pi_tup h)) fun σ H R ⟨W, ρ, S, xs, S', rl, hf, k⟩ => by
  obtain ⟨d, e1, e2⟩ := iSeq_split hf
  cases d with
  | lst ys =>
    cases e2
    refine .inl ⟨W, ρ, S, _, _, rl, e1, fun v H1 s1 st1 r1 => ?_⟩
    cases r1 with
    | lst n q z rs => exact ⟨_, rfl, ⟨_, .of q⟩, k _ H1 s1 st1 (by rw [← rs.length]; exact z) (walk_list q n rs)⟩
  | tup ys =>
    cases e2
    refine .inr ⟨W, ρ, S, _, _, rl, e1, fun v H1 s1 st1 r1 => ?_⟩
    cases r1 with
    | tup q z rs => exact ⟨_, rfl, ⟨_, q.sqt⟩, k _ H1 s1 st1 (by rw [← rs.length]; exact z) (walk_tup q rs)⟩
  | _ => cases e2
theorem ib_seq (h : B X e f) : IT false X tg e (iSeq f) := pi_imp (pi_or (pi_list h) (pi_tup h)) fun σ H R ⟨W, ρ, S, xs, S', rl, hf, k⟩ => by
  obtain ⟨d, e1, e2⟩ := iSeq_split hf
  cases d with
  | lst ys =>
    cases e2
    refine .inl ⟨W, ρ, S, _, _, rl, e1, fun v H1 s1 st1 r1 => ?_⟩
    cases r1 with
    | of r1 =>
      cases r1 with
      | lst n q z rs => exact ⟨_, rfl, ⟨_, .of q⟩, k _ H1 s1 st1 (by rw [← rs.length]; exact z) (walk_list q n rs).less⟩
    | lst n q z rs => exact ⟨_, rfl, ⟨_, .of q⟩, k _ H1 s1 st1 (by rw [← rs.length]; exact z) (walk_own q n rs)⟩
  | tup ys =>
    cases e2
    refine .inr ⟨W, ρ, S, _, _, rl, e1, fun v H1 s1 st1 r1 => ?_⟩
    cases r1 with
    | of r1 =>
      cases r1 with
      | tup q z rs => exact ⟨_, rfl, ⟨_, q.sqt⟩, k _ H1 s1 st1 (by rw [← rs.length]; exact z) (walk_tup q rs)⟩
  | _ => cases e2
theorem it_less {fl : Bool} (h : IT true X tg e fs) : IT fl X tg e fs := pi_imp h fun σ H R ⟨W, ρ, S, xs, S', rl, hf, k⟩ => ⟨W, ρ, S, xs, S', rl, hf, fun J H' s st z w => k J H' s st z w.less⟩
/-! ### ranges -/
def rangeD (lo : Int) (n : Nat) : List D := (List.range n).map fun (i : Nat) => D.int (lo + (i : Int))
def rangeOf : List D → Option (List D)
  | [.int j] => if -(2 ^ 62) ≤ j ∧ j < 2 ^ 62 ∧ j.toNat ≤ sizeLine then some (rangeD 0 j.toNat) else none
  | [.int i, .int j] => if (-(2 ^ 62) ≤ i ∧ i < 2 ^ 62 ∧ -(2 ^ 62) ≤ j ∧ j < 2 ^ 62) ∧ (j - i).toNat ≤ sizeLine then some (rangeD i (j - i).toNat) else none
  | _ => none
def iRng (fs : Ars) : Ars := fun ρ S => (fs ρ S).bind fun p => (rangeOf p.1).map fun xs => (xs, p.2)
theorem walk_range {K : PySem.W.Frag} {W : Wd} {H : Hp} {fl : Bool} (lo : Int) (n : Nat) : Walk K W fl H (Itr lo n) (rangeD lo n) := fun W2 H2 l => by
  refine ⟨fun i d hd => ?_, by show n ≤ (rangeD lo n).length; simp [rangeD]⟩
  unfold rangeD at hd
  rw [List.getElem?_map] at hd
  by_cases h : i < n
  · rw [List.getElem?_range h] at hd
    cases hd
    refine ⟨h, fun x H3 y => ?_⟩
    obtain ⟨rfl, rfl⟩ := y
    exact ⟨.refl _, .int _⟩
  · rw [List.getElem?_eq_none (by simpa using h)] at hd
    cases hd
theorem rangeD_length (lo : Int) (n : Nat) : (rangeD lo n).length = n := by simp [rangeD]
theorem iRng_split {ρ : Rho} {S S' : Sto} {xs : List D} (h : iRng fs ρ S = some (xs, S')) : ∃ ds, fs ρ S = some (ds, S') ∧ rangeOf ds = some xs := by
  unfold iRng at h
  cases e1 : fs ρ S with
  | none => rw [e1] at h; cases h
  | some p =>
    rw [e1, Option.bind_some] at h
    obtain ⟨z, hz, he⟩ := Option.map_eq_some_iff.mp h
    cases he
    exact ⟨p.1, rfl, hz⟩
theorem rp_int {K : PySem.W.Frag} {W : Wd} {H : Hp} {v : V} {i : Int} (r : Rp K W H v (.int i)) : v = .int i := by cases r; rfl
theorem rq_int {K : PySem.W.Frag} {W : Wd} {H : Hp} {v : V} {i : Int} (r : Rq K W H v (.int i)) : v = .int i := by
  cases r with
  | of r => exact rp_int r
theorem it_range1 {fl : Bool} (h : PI X tg e (iRng1 (tAQ X.K fs))) (one : ∀ (ρ : Rho) (S S' : Sto) (ds : List D), fs ρ S = some (ds, S') → ds.length = 1) : IT fl X tg e (iRng fs) := pi_imp h fun σ H R ⟨W, ρ, S, xs, S', rl, hf, k⟩ => by
  obtain ⟨ds, e1, e2⟩ := iRng_split hf
  have l1 := one ρ S S' ds e1
  match ds, l1 with
  | [d], _ =>
    cases d with
    | int j =>
      simp only [rangeOf] at e2
      by_cases c : -(2 ^ 62) ≤ j ∧ j < 2 ^ 62 ∧ j.toNat ≤ sizeLine
      · rw [if_pos c] at e2
        cases e2
        refine ⟨W, ρ, S, _, _, rl, e1, fun vs H1 s1 st1 r1 => ?_⟩
        cases r1 with
        | cons a b =>
          cases b
          exact ⟨j, by rw [rq_int a], c.1, c.2.1, k _ H1 s1 st1 (by rw [rangeD_length]; exact c.2.2) (walk_range 0 j.toNat)⟩
      · rw [if_neg c] at e2; cases e2
    | _ => cases e2
theorem it_range2 {fl : Bool} (h : PI X tg e (iRng2 (tAQ X.K fs))) (two : ∀ (ρ : Rho) (S S' : Sto) (ds : List D), fs ρ S = some (ds, S') → ds.length = 2) : IT fl X tg e (iRng fs) := pi_imp h fun σ H R ⟨W, ρ, S, xs, S', rl, hf, k⟩ => by
  obtain ⟨ds, e1, e2⟩ := iRng_split hf
  have l1 := two ρ S S' ds e1
  match ds, l1 with
  | [d, d'], _ =>
    cases d with
    | int i =>
      cases d' with
      | int j =>
        simp only [rangeOf] at e2
        by_cases c : (-(2 ^ 62) ≤ i ∧ i < 2 ^ 62 ∧ -(2 ^ 62) ≤ j ∧ j < 2 ^ 62) ∧ (j - i).toNat ≤ sizeLine
        · rw [if_pos c] at e2
          cases e2
          refine ⟨W, ρ, S, _, _, rl, e1, fun vs H1 s1 st1 r1 => ?_⟩
          cases r1 with
          | cons a b =>
            cases b with
            | cons a' b =>
              cases b
              exact ⟨i, j, by rw [rq_int a, rq_int a'], c.1, k _ H1 s1 st1 (by rw [rangeD_length]; exact c.2) (walk_range i _)⟩
        · rw [if_neg c] at e2; cases e2
      | _ => cases e2
    | _ => cases e2
theorem aCons_len {n : Nat} (h : ∀ (ρ : Rho) (S S' : Sto) (ds : List D), fs ρ S = some (ds, S') → ds.length = n) : ∀ (ρ : Rho) (S S' : Sto) (ds : List D), aCons f fs ρ S = some (ds, S') → ds.length = n + 1 := fun ρ S S' ds e => by
  obtain ⟨p, q, e1, e2, rfl, rfl⟩ := aCons_split e
  have := h _ _ _ _ e2
  simp [this]
theorem aNil_len : ∀ (ρ : Rho) (S S' : Sto) (ds : List D), aNil ρ S = some (ds, S') → ds.length = 0 := fun ρ S S' ds e => by cases e; rfl

/-! ### zip of two lists, of two tuples -/
def zipOf : List D → Option (List D)
  | [.lst xs, .lst ys] => some (List.zipWith (fun x y => .tup [x, y]) xs ys)
  | [.tup xs, .tup ys] => some (List.zipWith (fun x y => .tup [x, y]) xs ys)
  | _ => none
def iZp (fs : Ars) : Ars := fun ρ S => (fs ρ S).bind fun p => (zipOf p.1).map fun xs => (xs, p.2)
theorem iZp_split {ρ : Rho} {S S' : Sto} {xs : List D} (h : iZp fs ρ S = some (xs, S')) : ∃ ds, fs ρ S = some (ds, S') ∧ zipOf ds = some xs := by
  unfold iZp at h
  cases e1 : fs ρ S with
  | none => rw [e1] at h; cases h
  | some p =>
    rw [e1, Option.bind_some] at h
    obtain ⟨z, hz, he⟩ := Option.map_eq_some_iff.mp h
    cases he
    exact ⟨p.1, rfl, hz⟩
theorem zipWith_some {α β γ : Type} {g : α → β → γ} {xs : List α} {ys : List β} {i : Nat} {z : γ} (h : (List.zipWith g xs ys)[i]? = some z) : ∃ x y, xs[i]? = some x ∧ ys[i]? = some y ∧ z = g x y := by
  rw [List.getElem?_zipWith] at h
  split at h
  · rename_i x y hx hy
    cases h
    exact ⟨x, y, hx, hy, rfl⟩
  · cases h
theorem walk_zipT {K : PySem.W.Frag} {W : Wd} {H : Hp} {fl : Bool} {a b : Addr} {vs ws : List V} {xs ys : List D} (ha : TupAt K H a vs) (hb : TupAt K H b ws) (ra : Rps K W H vs xs) (rb : Rps K W H ws ys) : Walk K W fl H (ItzTZ K a b) (List.zipWith (fun x y => .tup [x, y]) xs ys) := fun W2 H2 l => by
  have ea : SqT K H2 a vs := (TupAt.step l.kps.frzs ha).sqt
  have eb : SqT K H2 b ws := (TupAt.step l.kps.frzs hb).sqt
  refine ⟨fun i d hd => ?_, ⟨vs, ws, ea, eb, ?_⟩⟩
  · obtain ⟨x, y, hx, hy, rfl⟩ := zipWith_some hd
    obtain ⟨v, hv, rv⟩ := ra.get hx
    obtain ⟨w, hw, rw'⟩ := rb.get hy
    refine ⟨⟨vs, ws, v, w, ea, eb, hv, hw⟩, fun z H3 yy => ?_⟩
    obtain ⟨T, oo, x', y', rfl, hT, hoo, rfl, q1, q2⟩ := yy
    have q1 := q1 vs ea
    have q2 := q2 ws eb
    rw [hv] at q1
    rw [hw] at q2
    cases q1
    cases q2
    have sm : Same H2 (upd H2 T (.frz oo (.tup [v, w]))) := upd_Same hT
    have k2 : Kps K W2 H2 W2 (upd H2 T (.frz oo (.tup [v, w]))) := (StepE.same (θ := W2.θ) sm).keeps
    exact ⟨sm, .tup (.new hoo) (by show 2 ≤ sizeLine; decide) (.cons ((rv.keeps l.kps).keeps k2) (.cons ((rw'.keeps l.kps).keeps k2) .nil))⟩
  · rw [List.length_zipWith, ra.length, rb.length]
    omega
theorem walk_zipL {K : PySem.W.Frag} {W : Wd} {H : Hp} {a b : Addr} {vs ws : List V} {xs ys : List D} (na : a ∉ W.θ ∧ ¬ W.M0 a) (nb : b ∉ W.θ ∧ ¬ W.M0 b) (ha : H a = some (.lst vs)) (hb : H b = some (.lst ws)) (ra : Rps K W H vs xs) (rb : Rps K W H ws ys) : Walk K W false H (ItzLZ K a b) (List.zipWith (fun x y => .tup [x, y]) xs ys) := fun W2 H2 l => by
  have ea : SqL K H2 a vs := .of (LaterE.keep l a _ ha na.1 na.2)
  have eb : SqL K H2 b ws := .of (LaterE.keep l b _ hb nb.1 nb.2)
  refine ⟨fun i d hd => ?_, ⟨vs, ws, ea, eb, ?_⟩⟩
  · obtain ⟨x, y, hx, hy, rfl⟩ := zipWith_some hd
    obtain ⟨v, hv, rv⟩ := ra.get hx
    obtain ⟨w, hw, rw'⟩ := rb.get hy
    refine ⟨⟨vs, ws, v, w, ea, eb, hv, hw⟩, fun z H3 yy => ?_⟩
    obtain ⟨T, oo, x', y', rfl, hT, hoo, rfl, q1, q2⟩ := yy
    have q1 := q1 vs ea
    have q2 := q2 ws eb
    rw [hv] at q1
    rw [hw] at q2
    cases q1
    cases q2
    have sm : Same H2 (upd H2 T (.frz oo (.tup [v, w]))) := upd_Same hT
    have k2 : Kps K W2 H2 W2 (upd H2 T (.frz oo (.tup [v, w]))) := (StepE.same (θ := W2.θ) sm).keeps
    exact ⟨sm, .tup (.new hoo) (by show 2 ≤ sizeLine; decide) (.cons ((rv.keeps l.kps).keeps k2) (.cons ((rw'.keeps l.kps).keeps k2) .nil))⟩
  · rw [List.length_zipWith, ra.length, rb.length]
    omega
theorem walk_zipLs {K : PySem.W.Frag} {W : Wd} {H : Hp} {a b : Addr} {vs ws : List V} {xs ys : List D} (na : ¬ Mu W a) (nb : ¬ Mu W b) (ha : H a = some (.lst vs)) (hb : H b = some (.lst ws)) (ra : Rps K W H vs xs) (rb : Rps K W H ws ys) : Walk K W true H (ItzLZ K a b) (List.zipWith (fun x y => .tup [x, y]) xs ys) := fun W2 H2 l => by
  have ea : SqL K H2 a vs := .of (l.kps.keep a _ ha na).1
  have eb : SqL K H2 b ws := .of (l.kps.keep b _ hb nb).1
  refine ⟨fun i d hd => ?_, ⟨vs, ws, ea, eb, ?_⟩⟩
  · obtain ⟨x, y, hx, hy, rfl⟩ := zipWith_some hd
    obtain ⟨v, hv, rv⟩ := ra.get hx
    obtain ⟨w, hw, rw'⟩ := rb.get hy
    refine ⟨⟨vs, ws, v, w, ea, eb, hv, hw⟩, fun z H3 yy => ?_⟩
    obtain ⟨T, oo, x', y', rfl, hT, hoo, rfl, q1, q2⟩ := yy
    have q1 := q1 vs ea
    have q2 := q2 ws eb
    rw [hv] at q1
    rw [hw] at q2
    cases q1
    cases q2
    have sm : Same H2 (upd H2 T (.frz oo (.tup [v, w]))) := upd_Same hT
    have k2 : Kps K W2 H2 W2 (upd H2 T (.frz oo (.tup [v, w]))) := (StepE.same (θ := W2.θ) sm).keeps
    exact ⟨sm, .tup (.new hoo) (by show 2 ≤ sizeLine; decide) (.cons ((rv.keeps l.kps).keeps k2) (.cons ((rw'.keeps l.kps).keeps k2) .nil))⟩
  · rw [List.length_zipWith, ra.length, rb.length]
    omega
theorem rq_lst {K : PySem.W.Frag} {W : Wd} {H : Hp} {v : V} {xs : List D} (r : Rq K W H v (.lst xs)) (wf : WfW W H) : ∃ a vs, v = .ref a ∧ (a ∉ W.θ ∧ ¬ W.M0 a) ∧ H a = some (.lst vs) ∧ vs.length ≤ sizeLine ∧ Rps K W H vs xs := by
  cases r with
  | of r =>
    cases r with
    | lst n q z rs => exact ⟨_, _, rfl, ⟨fun m => n (.inr (.inl m)), fun m => n (.inl m)⟩, q, z, rs⟩
  | lst n q z rs => exact ⟨_, _, rfl, n, q, z, rs⟩
theorem rp_lst {K : PySem.W.Frag} {W : Wd} {H : Hp} {v : V} {xs : List D} (r : Rp K W H v (.lst xs)) : ∃ a vs, v = .ref a ∧ ¬ Mu W a ∧ H a = some (.lst vs) ∧ vs.length ≤ sizeLine ∧ Rps K W H vs xs := by
  cases r with
  | lst n q z rs => exact ⟨_, _, rfl, n, q, z, rs⟩
theorem rq_tup {K : PySem.W.Frag} {W : Wd} {H : Hp} {v : V} {xs : List D} (r : Rq K W H v (.tup xs)) : ∃ a vs, v = .ref a ∧ TupAt K H a vs ∧ vs.length ≤ sizeLine ∧ Rps K W H vs xs := by
  cases r with
  | of r =>
    cases r with
    | tup q z rs => exact ⟨_, _, rfl, q, z, rs⟩
theorem rp_tup {K : PySem.W.Frag} {W : Wd} {H : Hp} {v : V} {xs : List D} (r : Rp K W H v (.tup xs)) : ∃ a vs, v = .ref a ∧ TupAt K H a vs ∧ vs.length ≤ sizeLine ∧ Rps K W H vs xs := rq_tup (.of r)
theorem ib_zip (h : PI X tg e (iZipZ X.K (tAQ X.K fs))) : IT false X tg e (iZp fs) := pi_imp h fun σ H R ⟨W, ρ, S, xs, S', rl, hf, k⟩ => by
  obtain ⟨ds, e1, e2⟩ := iZp_split hf
  refine ⟨W, ρ, S, ds, S', rl, e1, fun vs H1 s1 st1 r1 => ?_⟩
  unfold zipOf at e2
  split at e2
  · cases e2
    cases r1 with
    | cons a b =>
      cases b with
      | cons b c =>
        cases c
        obtain ⟨a1, v1, rfl, n1, q1, z1, r1⟩ := rq_lst a (rl.wf.stepE s1)
        obtain ⟨a2, v2, rfl, n2, q2, z2, r2⟩ := rq_lst b (rl.wf.stepE s1)
        refine ⟨a1, a2, v1, v2, rfl, .inl ⟨.of q1, .of q2, k _ H1 s1 st1 ?_ (walk_zipL n1 n2 q1 q2 r1 r2)⟩⟩
        rw [List.length_zipWith, ← r1.length]
        exact Nat.le_trans (Nat.min_le_left _ _) z1
  · cases e2
    cases r1 with
    | cons a b =>
      cases b with
      | cons b c =>
        cases c
        obtain ⟨a1, v1, rfl, q1, z1, r1⟩ := rq_tup a
        obtain ⟨a2, v2, rfl, q2, z2, r2⟩ := rq_tup b
        refine ⟨a1, a2, v1, v2, rfl, .inr ⟨q1.sqt, q2.sqt, k _ H1 s1 st1 ?_ (walk_zipT q1 q2 r1 r2)⟩⟩
        rw [List.length_zipWith, ← r1.length]
        exact Nat.le_trans (Nat.min_le_left _ _) z1
  · cases e2
theorem it_zip (h : PI X tg e (iZipZ X.K (tA X.K fs))) : IT true X tg e (iZp fs) := pi_imp h fun σ H R ⟨W, ρ, S, xs, S', rl, hf, k⟩ => by
  obtain ⟨ds, e1, e2⟩ := iZp_split hf
  refine ⟨W, ρ, S, ds, S', rl, e1, fun vs H1 s1 st1 r1 => ?_⟩
  unfold zipOf at e2
  split at e2
  · cases e2
    cases r1 with
    | cons a b =>
      cases b with
      | cons b c =>
        cases c
        obtain ⟨a1, v1, rfl, n1, q1, z1, r1⟩ := rp_lst a
        obtain ⟨a2, v2, rfl, n2, q2, z2, r2⟩ := rp_lst b
        refine ⟨a1, a2, v1, v2, rfl, .inl ⟨.of q1, .of q2, k _ H1 s1 st1 ?_ (walk_zipLs n1 n2 q1 q2 r1 r2)⟩⟩
        rw [List.length_zipWith, ← r1.length]
        exact Nat.le_trans (Nat.min_le_left _ _) z1
  · cases e2
    cases r1 with
    | cons a b =>
      cases b with
      | cons b c =>
        cases c
        obtain ⟨a1, v1, rfl, q1, z1, r1⟩ := rp_tup a
        obtain ⟨a2, v2, rfl, q2, z2, r2⟩ := rp_tup b
        refine ⟨a1, a2, v1, v2, rfl, .inr ⟨q1.sqt, q2.sqt, k _ H1 s1 st1 ?_ (walk_zipT q1 q2 r1 r2)⟩⟩
        rw [List.length_zipWith, ← r1.length]
        exact Nat.le_trans (Nat.min_le_left _ _) z1
  · cases e2
end

/-! ## 5. targets -/
abbrev Tg := D → Rho → Option Rho
def tG (K : PySem.W.Frag) (vs : List Nat) (g : Tg) : TG := fun v σ H Q => ∃ (W : Wd) (ρ : Rho) (S : Sto) (d : D) (ρ' : Rho), Rel K W H σ ρ S ∧ Rp K W H v d ∧ g d ρ = some ρ' ∧ ∀ σ', Rel K W H σ' ρ' S → wipe σ' vs = wipe σ vs → Q σ' H
abbrev Gs := List D → Rho → Option Rho
def tGs (K : PySem.W.Frag) (vs : List Nat) (g : Gs) : TGs := fun v σ H Q => ∃ (W : Wd) (ρ : Rho) (S : Sto) (d : List D) (ρ' : Rho), Rel K W H σ ρ S ∧ Rps K W H v d ∧ g d ρ = some ρ' ∧ ∀ σ', Rel K W H σ' ρ' S → wipe σ' vs = wipe σ vs → Q σ' H
abbrev G (X : Cx) (e : Expr) (vs : List Nat) (g : Tg) : Prop := PG X e (tG X.K vs g)
abbrev GS (X : Cx) (e : List Expr) (vs : List Nat) (g : Gs) : Prop := PGs X e (tGs X.K vs g)
theorem pg_imp {X : Cx} {e : Expr} {t t' : TG} (h : PG X e t) (i : ∀ v σ H Q, t' v σ H Q → t v σ H Q) : PG X e t' := ⟨fun pins s σ H v u Q I r w => h.run pins s σ H v u Q I r (i v σ H Q w)⟩
theorem pgs_imp {X : Cx} {e : List Expr} {t t' : TGs} (h : PGs X e t) (i : ∀ v σ H Q, t' v σ H Q → t v σ H Q) : PGs X e t' := ⟨fun pins s σ H v u Q I r w => h.run pins s σ H v u Q I r (i v σ H Q w)⟩
theorem wipe_get {σ : L2.St} {i : Nat} : ∀ {vs : List Nat}, i ∈ vs → (wipe σ vs)[i]? = if i < σ.length then some none else none
  | [], h => by simp at h
  | v :: vs, h => by
    unfold wipe
    by_cases e : v = i
    · subst e
      by_cases hl : v < σ.length
      · rw [List.getElem?_set_self (by rw [wipe_length]; exact hl), if_pos hl]
      · rw [if_neg hl, List.getElem?_eq_none (by rw [List.length_set, wipe_length]; omega)]
    · rw [List.getElem?_set_ne e]
      exact wipe_get ((List.mem_cons.mp h).elim (fun z => absurd z.symm e) id)
theorem wipe_set {σ : L2.St} {i : Nat} {x : Option V} {vs : List Nat} (h : i ∈ vs) : wipe (σ.set i x) vs = wipe σ vs := by
  refine List.ext_getElem? fun j => ?_
  by_cases hj : j ∈ vs
  · rw [wipe_get hj, wipe_get hj, List.length_set]
  · rw [wipe_out hj, wipe_out hj, List.getElem?_set_ne (fun e => hj (by rw [← e]; exact h))]
theorem Rel.setSh {K : PySem.W.Frag} {W : Wd} {H : Hp} {σ : L2.St} {ρ : Rho} {S : Sto} {i : Nat} {v : V} {d : D} (r : Rel K W H σ ρ S) (rv : Rp K W H v d) : Rel K W H (σ.set i (some v)) (ρ.set i (.sh d)) S := by
  refine ⟨by rw [List.length_set, List.length_set]; exact r.len, fun j s e => ?_, r.st, r.wf⟩
  by_cases hj : i = j
  · subst hj
    by_cases hl : i < ρ.length
    · rw [List.getElem?_set_self hl] at e
      cases e
      exact ⟨v, by rw [List.getElem?_set_self (by rw [r.len]; exact hl)], rv⟩
    · rw [List.getElem?_eq_none (by rw [List.length_set]; omega)] at e
      cases e
  · rw [List.getElem?_set_ne hj] at e
    have q := r.sl j s e
    cases s with
    | un => trivial
    | sh d' => obtain ⟨v', h1, h2⟩ := q; exact ⟨v', by rw [List.getElem?_set_ne hj]; exact h1, h2⟩
    | ow c => obtain ⟨a, h1, h2, h3⟩ := q; exact ⟨a, by rw [List.getElem?_set_ne hj]; exact h1, h2, h3⟩
def gNm (i : Nat) : Tg := fun d ρ => some (ρ.set i (.sh d))
def gsNil : Gs := fun ds ρ => if ds.isEmpty then some ρ else none
def gsCons (g : Tg) (gs : Gs) : Gs := fun ds ρ => match ds with
  | d :: r => (g d ρ).bind fun ρ' => gs r ρ'
  | [] => none
/-- (a, b, ..) from a tuple -/
def gTp (n : Nat) (gs : Gs) : Tg := fun d ρ => match d with
  | .tup xs => if xs.length = n then gs xs ρ else none
  | _ => none
section
variable {X : Cx} {e : Expr} {es : List Expr} {g : Tg} {gs : Gs} {vs : List Nat} {pos : Pos}
theorem g_name {i : Nat} (h : PG X e (gName i)) (hv : i ∈ vs) : G X e vs (gNm i) := pg_imp h fun v σ H Q ⟨W, ρ, S, d, ρ', rl, rv, hg, k⟩ => by
  cases hg
  exact k _ (rl.setSh rv) (wipe_set hv)
theorem gs_nil : GS X [] vs gsNil := pgs_imp pgs_nil fun v σ H Q ⟨W, ρ, S, d, ρ', rl, rv, hg, k⟩ => by
  cases rv with
  | nil => cases hg; exact ⟨rfl, k _ rl rfl⟩
  | cons _ _ => cases hg
theorem gs_cons (h1 : G X e vs g) (h2 : GS X es vs gs) (hs : (assignEach (e :: es) X.env).map (·.2) = assign e X.env :: (assignEach es X.env).map (·.2) := by rfl) : GS X (e :: es) vs (gsCons g gs) :=
  pgs_imp (pgs_cons h1 h2 hs) fun v σ H Q ⟨W, ρ, S, d, ρ', rl, rv, hg, k⟩ => by
    cases rv with
    | nil => cases hg
    | @cons v1 d1 vr dr a b =>
      unfold gsCons at hg
      cases e1 : g d1 ρ with
      | none => simp only [e1] at hg; cases hg
      | some ρ1 =>
        simp only [e1, Option.bind_some] at hg
        exact ⟨v1, vr, rfl, W, ρ, S, d1, ρ1, rl, a, e1, fun σ1 rl1 w1 => ⟨W, ρ1, S, dr, ρ', rl1, b, hg, fun σ2 rl2 w2 => k σ2 rl2 (w2.trans w1)⟩⟩
theorem g_tup {n k : Nat} (hc : X.calm = true) (h : GS X es vs gs) (hn : (assignEach es X.env).length = n := by rfl) (hst : (assignEach es X.env).findIdx? (·.1) = none := by rfl) : G X (.Tuple es k pos) vs (gTp n gs) :=
  pg_imp (pg_tup hc h hn hst) fun v σ H Q ⟨W, ρ, S, d, ρ', rl, rv, hg, k⟩ => by
    unfold gTp at hg
    cases d with
    | tup xs =>
      obtain ⟨a, ws, rfl, q, z, rs⟩ := rp_tup rv
      by_cases c : xs.length = n
      · simp only [if_pos c] at hg
        exact ⟨a, ws, rfl, q.sqt, by rw [rs.length]; exact c, W, ρ, S, xs, ρ', rl, rs, hg, k⟩
      · simp only [if_neg c] at hg; cases hg
    | _ => cases hg
end
end DL

set_option Elab.async false
set_option linter.all false
set_option maxRecDepth 100000
namespace DL
open PySem PySem.Spec PyProof.Rows L2

/-! ## 6. list comprehensions -/
def wipeR (ρ : Rho) : List Nat → Rho
  | [] => ρ
  | v :: vs => (wipeR ρ vs).set v .un
theorem wipeR_length (ρ : Rho) : ∀ vs : List Nat, (wipeR ρ vs).length = ρ.length
  | [] => rfl
  | v :: vs => by unfold wipeR; rw [List.length_set, wipeR_length ρ vs]
theorem wipeR_out {ρ : Rho} {i : Nat} : ∀ {vs : List Nat}, i ∉ vs → (wipeR ρ vs)[i]? = ρ[i]?
  | [], _ => rfl
  | v :: vs, h => by
    have h1 : v ≠ i := fun e => h (by rw [e]; exact List.mem_cons_self)
    have h2 : i ∉ vs := fun m => h (List.mem_cons_of_mem _ m)
    unfold wipeR
    rw [List.getElem?_set_ne h1]
    exact wipeR_out h2
theorem wipeR_get {ρ : Rho} {i : Nat} {s : Sl} : ∀ {vs : List Nat}, i ∈ vs → (wipeR ρ vs)[i]? = some s → s = .un
  | [], h, _ => by simp at h
  | v :: vs, h, e => by
    unfold wipeR at e
    by_cases c : v = i
    · subst c
      by_cases hl : v < (wipeR ρ vs).length
      · rw [List.getElem?_set_self hl] at e; cases e; rfl
      · rw [List.getElem?_eq_none (by rw [List.length_set]; omega)] at e; cases e
    · rw [List.getElem?_set_ne c] at e
      exact wipeR_get ((List.mem_cons.mp h).elim (fun z => absurd z.symm c) id) e
theorem wipe_wipe (σ : L2.St) (vs : List Nat) : wipe (wipe σ vs) vs = wipe σ vs := by
  refine List.ext_getElem? fun j => ?_
  by_cases hj : j ∈ vs
  · rw [wipe_get hj, wipe_get hj, wipe_length]
  · rw [wipe_out hj]

section
variable {K : PySem.W.Frag} {W W' : Wd} {H H' H1 H2 : Hp} {σ : L2.St} {ρ : Rho} {S S' : Sto}
theorem Rel.wiped (r : Rel K W H σ ρ S) (vs : List Nat) : Rel K W H (wipe σ vs) (wipeR ρ vs) S := by
  refine ⟨by rw [wipe_length, wipeR_length]; exact r.len, fun j s e => ?_, r.st, r.wf⟩
  by_cases hj : j ∈ vs
  · rw [wipeR_get hj e]
    trivial
  · rw [wipeR_out hj] at e
    have q := r.sl j s e
    cases s with
    | un => trivial
    | sh d => obtain ⟨v, h1, h2⟩ := q; exact ⟨v, by rw [wipe_out hj]; exact h1, h2⟩
    | ow c => obtain ⟨a, h1, h2, h3⟩ := q; exact ⟨a, by rw [wipe_out hj]; exact h1, h2, h3⟩
/-- the frame in another world, over another heap -/
theorem Rel.mv (r : Rel K W H σ ρ S) (al : ∀ i, W'.α i = W.α i) (k : Kps K W H W' H') (own : ∀ i a, W.α i = some a → H' a = H a) (st : StOk K W' H' S') (wf : WfW W' H') : Rel K W' H' σ ρ S' := by
  refine ⟨r.len, fun i x e => ?_, st, wf⟩
  have q := r.sl i x e
  cases x with
  | un => trivial
  | sh d => obtain ⟨v, h1, h2⟩ := q; exact ⟨v, h1, h2.keeps k⟩
  | ow c =>
    obtain ⟨a, h1, h2, h3⟩ := q
    exact ⟨a, h1, by rw [al]; exact h2, h3.keeps k (own i a h2)⟩
theorem kps_plus {d : Addr} (s : StepE W.θ H1 H2) (n : H1 d = none) : Kps K W H1 (W.plus d) H2 where
  th := fun _ _ h => h
  keep := fun b o h m => ⟨s.keep b o h fun z => m (.inr (.inl z)), fun z => (mu_plus.mp z).elim m fun e => by rw [e, n] at h; cases h⟩
  tups := s.tups
  frzs := s.frzs
theorem later_plus {d : Addr} (s : StepE W.θ H1 H2) (n : H1 d = none) : Later false K W H1 (W.plus d) H2 :=
  (⟨rfl, fun b o h n _ => s.keep b o h n, fun b o h m z => (mu_plus.mp z).elim m fun e => (by rw [e, n] at h; cases h), s.tups, s.frzs⟩ : LaterE W H1 (W.plus d) H2)
theorem wf_plus {d : Addr} (wf : WfW W H2) (e : ∃ o, H2 d = some o) (n : ∀ i, W.α i ≠ some d) : WfW (W.plus d) H2 where
  nd := wf.nd
  inj := wf.inj
  dis := fun i a h => ⟨(wf.dis i a h).1, fun z => z.elim (wf.dis i a h).2 fun e => n i (by rw [← e]; exact h)⟩
  dom := fun a m => (mu_plus.mp m).elim (wf.dom a) fun z => by rw [z]; exact e
theorem fresh_own (wf : WfW W H1) {d : Addr} (n : H1 d = none) (i : Nat) : W.α i ≠ some d := fun e => by
  obtain ⟨o, h⟩ := wf.dom d (.inr (.inr ⟨i, e⟩))
  rw [n] at h; cases h
theorem fresh_th (wf : WfW W H1) {d : Addr} (n : H1 d = none) : d ∉ W.θ := fun m => by
  obtain ⟨o, h⟩ := wf.tdom m
  rw [n] at h; cases h
/-- the frame while a new object at d is filled -/
theorem Rel.plus {d : Addr} (r : Rel K W H1 σ ρ S) (n : H1 d = none) (s : StepE W.θ H1 H2) (e : ∃ o, H2 d = some o) (st : StOk K (W.plus d) H2 S') : Rel K (W.plus d) H2 σ ρ S' := by
  refine r.mv (fun _ => rfl) (kps_plus s n) (fun i a h => ?_) st (wf_plus (r.wf.stepE s) e (fresh_own r.wf n))
  obtain ⟨o, ho⟩ := r.wf.dom a (.inr (.inr ⟨i, h⟩))
  rw [ho]
  exact s.keep a o ho (r.wf.dis i a h).1
/-- the new object grows -/
theorem step_put {d : Addr} {o : HO} (n : H1 d = none) (s : StepE W.θ H1 H2) : StepE W.θ H1 (upd H2 d o) where
  keep := fun b u h m => by rw [upd_ne (ne_of_none h n)]; exact s.keep b u h m
  tups := fun b u h => by rw [upd_ne (ne_of_none h n)]; exact s.tups b u h
  frzs := fun b u w h => by rw [upd_ne (ne_of_none h n)]; exact s.frzs b u w h
  dom := fun b u h => by rw [upd_ne (ne_of_none h n)]; exact s.dom b u h
theorem kps_put {d : Addr} {vs : List V} {o : HO} (h : H2 d = some (.lst vs)) : Kps K (W.plus d) H2 (W.plus d) (upd H2 d o) :=
  Kps.put (mu_plus.mpr (.inr rfl)) (fun xs e => by rw [h] at e; cases e) fun a b e => by rw [h] at e; cases e
theorem st_put {d : Addr} {vs : List V} {o : HO} (h : H2 d = some (.lst vs)) (n : d ∉ W.θ) (st : StOk K (W.plus d) H2 S) : StOk K (W.plus d) (upd H2 d o) S :=
  st.keeps rfl (kps_put h) fun a m => upd_ne fun e => n (by rw [← e]; exact m)
end

/-- the items, one after another -/
def compF (g : Tg) (tt : Tx) (te : Ex) (ρ : Rho) : List D → Sto → Option (List D × Sto)
  | [], S => some ([], S)
  | x :: xs, S => (g x ρ).bind fun ρ2 => (tt ρ2 S).bind fun p => if p.1 = true then (te ρ2 p.2).bind fun q => (compF g tt te ρ xs q.2).map fun r => (q.1 :: r.1, r.2) else compF g tt te ρ xs p.2
def eLc (it : Ars) (g : Tg) (tt : Tx) (te : Ex) (vs : List Nat) : Ex := fun ρ S => (it ρ S).bind fun p => (compF g tt te (wipeR ρ vs) p.1 p.2).map fun r => (.lst r.1, r.2)
theorem compF_cons {g : Tg} {tt : Tx} {te : Ex} {ρ : Rho} {x : D} {xs : List D} {S S' : Sto} {ys : List D} (h : compF g tt te ρ (x :: xs) S = some (ys, S')) :
    ∃ ρ2 p, g x ρ = some ρ2 ∧ tt ρ2 S = some p ∧ ((p.1 = true ∧ ∃ q zs, te ρ2 p.2 = some q ∧ compF g tt te ρ xs q.2 = some (zs, S') ∧ ys = q.1 :: zs) ∨ (p.1 = false ∧ compF g tt te ρ xs p.2 = some (ys, S'))) := by
  unfold compF at h
  cases e1 : g x ρ with
  | none => rw [e1] at h; cases h
  | some ρ2 =>
    rw [e1, Option.bind_some] at h
    cases e2 : tt ρ2 S with
    | none => rw [e2] at h; cases h
    | some p =>
      rw [e2, Option.bind_some] at h
      refine ⟨ρ2, p, rfl, e2, ?_⟩
      cases e3 : p.1 with
      | true =>
        rw [e3, if_pos rfl] at h
        cases e4 : te ρ2 p.2 with
        | none => rw [e4] at h; cases h
        | some q =>
          rw [e4, Option.bind_some] at h
          obtain ⟨r, hr, he⟩ := Option.map_eq_some_iff.mp h
          cases he
          exact .inl ⟨rfl, q, r.1, rfl, hr, rfl⟩
      | false =>
        rw [e3, if_neg Bool.false_ne_true] at h
        exact .inr ⟨rfl, h⟩
theorem drop_cons {α : Type} {xs : List α} {i : Nat} (h : i < xs.length) : xs.drop i = xs[i] :: xs.drop (i + 1) := List.drop_eq_getElem_cons h

theorem lc_f {K : PySem.W.Frag} {it : Ars} {g : Tg} {tt : Tx} {te : Ex} {vs : List Nat} {σ : L2.St} {H : Hp} {Q : VK} (h : tF K (eLc it g tt te vs) σ H Q) : tLc (tI K false it) (tG K vs g) (tT K tt) (tD K te) vs σ H Q := by
  obtain ⟨W, ρ, S, d, S', rl, hf, k⟩ := h
  unfold eLc at hf
  cases e1 : it ρ S with
  | none => rw [e1] at hf; cases hf
  | some p =>
    rw [e1, Option.bind_some] at hf
    obtain ⟨r, hr, he⟩ := Option.map_eq_some_iff.mp hf
    obtain ⟨ys, Sz⟩ := r
    cases he
    obtain ⟨xs, S1⟩ := p
    refine ⟨W, ρ, S, xs, S1, rl, e1, fun J H1 s1 st1 hz wk dd hD => ?_⟩
    have wf1 := rl.wf.stepE s1
    have nD : dd ∉ W.θ := fresh_th wf1 hD
    have rl1 : Rel K W H1 σ ρ S1 := rl.stepE s1 st1
    refine ⟨fun i m H2 => m = xs.length - i ∧ i ≤ xs.length ∧ ∃ (Si : Sto) (acc rest : List D) (vacc : List V), compF g tt te (wipeR ρ vs) (xs.drop i) Si = some (rest, Sz) ∧ ys = acc ++ rest ∧ H2 dd = some (.lst vacc) ∧ Rps K (W.plus dd) H2 vacc acc ∧ acc.length ≤ i ∧ StOk K (W.plus dd) H2 Si ∧ StepE W.θ H1 H2,
      ⟨xs.length, by simp, Nat.zero_le _, S1, [], ys, [], hr, rfl, upd_same, .nil, Nat.le_refl _, st1.new wf1 hD, .same (upd_Same hD)⟩, ?_⟩
    rintro i m H2 ⟨rfl, hi, Si, acc, rest, vacc, hc, hys, hDv, racc, hlen, sti, s2⟩
    have wk2 := wk _ _ (later_plus s2 hD)
    by_cases hlt : i < xs.length
    · have hg := wk2.1 i xs[i] (by simp [hlt])
      refine .inr ⟨hg.1, fun H5 => i + 1 ≤ xs.length ∧ ∃ (Si : Sto) (acc rest : List D) (vacc : List V), compF g tt te (wipeR ρ vs) (xs.drop (i + 1)) Si = some (rest, Sz) ∧ ys = acc ++ rest ∧ H5 dd = some (.lst vacc) ∧ Rps K (W.plus dd) H5 vacc acc ∧ acc.length ≤ i + 1 ∧ StOk K (W.plus dd) H5 Si ∧ StepE W.θ H1 H5,
        fun H5 ⟨q1, q2⟩ => ⟨xs.length - (i + 1), by omega, rfl, q1, q2⟩, fun x H3 y => ?_⟩
      obtain ⟨sm, rx⟩ := hg.2 x H3 y
      rw [drop_cons hlt] at hc
      obtain ⟨ρ2, p, hg1, ht1, hcase⟩ := compF_cons hc
      have s3 : StepE W.θ H1 H3 := s2.trans (.same sm)
      have st3 : StOk K (W.plus dd) H3 Si := sti.same sm
      have rl3 := (rl1.plus hD s3 ⟨_, sm _ _ hDv⟩ st3).wiped vs
      refine ⟨W.plus dd, wipeR ρ vs, Si, xs[i], ρ2, rl3, rx, hg1, fun σ2 rl4 hw => ⟨by rw [hw, wipe_wipe], W.plus dd, ρ2, Si, p.1, p.2, rl4, ht1, fun H4 s4 st4 => ?_⟩⟩
      have s4' : StepE W.θ H1 H4 := s3.trans s4
      have hD4 : H4 dd = some (.lst vacc) := s4.keep _ _ (sm _ _ hDv) nD
      have racc4 : Rps K (W.plus dd) H4 vacc acc := (racc.stepE (.same sm)).stepE s4
      rcases hcase with ⟨hp, q, zs, hte, hc2, hys2⟩ | ⟨hp, hc2⟩
      · rw [hp]
        refine iteT ?_
        refine ⟨W.plus dd, ρ2, p.2, q.1, q.2, rl4.stepE s4 st4, hte, fun v H5 s5 st5 rv => ?_⟩
        have hD5 : H5 dd = some (.lst vacc) := s5.keep _ _ hD4 nD
        have e5 : acc.length < sizeLine := by omega
        refine ⟨vacc, hD5, by rw [racc.length]; exact e5, hlt, q.2, acc ++ [q.1], zs, vacc ++ [v], hc2, by rw [hys, hys2]; simp, upd_same, ?_, by simp; omega, st_put hD5 nD st5, step_put hD (s4'.trans s5)⟩
        exact ((racc4.stepE s5).append (.cons rv .nil)).keeps (kps_put hD5)
      · rw [hp]
        refine iteF ?_
        exact ⟨hlt, p.2, acc, rest, vacc, hc2, hys, hD4, racc4, by omega, st4, s4'⟩
    · have e : i = xs.length := by omega
      subst e
      rw [List.drop_length] at hc
      cases hc
      refine .inl ⟨wk2.2, k _ H2 (s1.trans s2) ?_⟩
      rw [List.append_nil] at hys
      subst hys
      exact .lst (s1.none hD) hDv (by rw [racc.length]; omega) sti racc

/-- two clauses -/
def compO (g : Tg) (tt : Tx) (it1 : Ars) (g1 : Tg) (tt1 : Tx) (te : Ex) (vs1 : List Nat) (ρ : Rho) : List D → Sto → Option (List D × Sto)
  | [], S => some ([], S)
  | x :: xs, S => (g x ρ).bind fun ρ2 => (tt ρ2 S).bind fun p => if p.1 = true then (it1 ρ2 p.2).bind fun q => (compF g1 tt1 te (wipeR ρ2 vs1) q.1 q.2).bind fun r => (compO g tt it1 g1 tt1 te vs1 ρ xs r.2).map fun z => (r.1 ++ z.1, z.2)
    else compO g tt it1 g1 tt1 te vs1 ρ xs p.2
def eLc2 (it : Ars) (g : Tg) (tt : Tx) (it1 : Ars) (g1 : Tg) (tt1 : Tx) (te : Ex) (vs vs1 : List Nat) : Ex := fun ρ S => (it ρ S).bind fun p => (compO g tt it1 g1 tt1 te vs1 (wipeR ρ vs) p.1 p.2).bind fun r => if r.1.length ≤ sizeLine then some (.lst r.1, r.2) else none
theorem compO_cons {g : Tg} {tt : Tx} {it1 : Ars} {g1 : Tg} {tt1 : Tx} {te : Ex} {vs1 : List Nat} {ρ : Rho} {x : D} {xs : List D} {S S' : Sto} {ys : List D} (h : compO g tt it1 g1 tt1 te vs1 ρ (x :: xs) S = some (ys, S')) :
    ∃ ρ2 p, g x ρ = some ρ2 ∧ tt ρ2 S = some p ∧ ((p.1 = true ∧ ∃ q r zs, it1 ρ2 p.2 = some q ∧ compF g1 tt1 te (wipeR ρ2 vs1) q.1 q.2 = some r ∧ compO g tt it1 g1 tt1 te vs1 ρ xs r.2 = some (zs, S') ∧ ys = r.1 ++ zs) ∨ (p.1 = false ∧ compO g tt it1 g1 tt1 te vs1 ρ xs p.2 = some (ys, S'))) := by
  unfold compO at h
  cases e1 : g x ρ with
  | none => rw [e1] at h; cases h
  | some ρ2 =>
    rw [e1, Option.bind_some] at h
    cases e2 : tt ρ2 S with
    | none => rw [e2] at h; cases h
    | some p =>
      rw [e2, Option.bind_some] at h
      refine ⟨ρ2, p, rfl, e2, ?_⟩
      cases e3 : p.1 with
      | true =>
        rw [e3, if_pos rfl] at h
        cases e4 : it1 ρ2 p.2 with
        | none => rw [e4] at h; cases h
        | some q =>
          rw [e4, Option.bind_some] at h
          cases e5 : compF g1 tt1 te (wipeR ρ2 vs1) q.1 q.2 with
          | none => rw [e5] at h; cases h
          | some r =>
            rw [e5, Option.bind_some] at h
            obtain ⟨z, hr, he⟩ := Option.map_eq_some_iff.mp h
            cases he
            exact .inl ⟨rfl, q, r, z.1, rfl, e5, hr, rfl⟩
      | false =>
        rw [e3, if_neg Bool.false_ne_true] at h
        exact .inr ⟨rfl, h⟩
theorem lc2_f {K : PySem.W.Frag} {it it1 : Ars} {g g1 : Tg} {tt tt1 : Tx} {te : Ex} {vs vs1 : List Nat} {σ : L2.St} {H : Hp} {Q : VK} (h : tF K (eLc2 it g tt it1 g1 tt1 te vs vs1) σ H Q) :
    tLc2 (tI K false it) (tG K vs g) (tT K tt) (tI K false it1) (tG K vs1 g1) (tT K tt1) (tD K te) vs vs1 σ H Q := by
  obtain ⟨W, ρ, S, d, S', rl, hf, k⟩ := h
  unfold eLc2 at hf
  cases e1 : it ρ S with
  | none => rw [e1] at hf; cases hf
  | some p =>
    rw [e1, Option.bind_some] at hf
    obtain ⟨xs, S1⟩ := p
    cases hr : compO g tt it1 g1 tt1 te vs1 (wipeR ρ vs) xs S1 with
    | none => simp only [hr, Option.bind_none] at hf; cases hf
    | some r =>
    simp only [hr, Option.bind_some] at hf
    obtain ⟨ys, Sz⟩ := r
    by_cases hyz : ys.length ≤ sizeLine
    · simp only [if_pos hyz] at hf
      cases hf
      refine ⟨W, ρ, S, xs, S1, rl, e1, fun J H1 s1 st1 hz wk dd hD => ?_⟩
      have wf1 := rl.wf.stepE s1
      have nD : dd ∉ W.θ := fresh_th wf1 hD
      have rl1 : Rel K W H1 σ ρ S1 := rl.stepE s1 st1
      refine ⟨fun i m H2 => m = xs.length - i ∧ i ≤ xs.length ∧ ∃ (Si : Sto) (acc rest : List D) (vacc : List V), compO g tt it1 g1 tt1 te vs1 (wipeR ρ vs) (xs.drop i) Si = some (rest, S') ∧ ys = acc ++ rest ∧ H2 dd = some (.lst vacc) ∧ Rps K (W.plus dd) H2 vacc acc ∧ StOk K (W.plus dd) H2 Si ∧ StepE W.θ H1 H2,
        ⟨xs.length, by simp, Nat.zero_le _, S1, [], ys, [], hr, rfl, upd_same, .nil, st1.new wf1 hD, .same (upd_Same hD)⟩, ?_⟩
      rintro i m H2 ⟨rfl, hi, Si, acc, rest, vacc, hc, hys, hDv, racc, sti, s2⟩
      have wk2 := wk _ _ (later_plus s2 hD)
      by_cases hlt : i < xs.length
      · have hg := wk2.1 i xs[i] (by simp [hlt])
        refine .inr ⟨hg.1, fun H5 => i + 1 ≤ xs.length ∧ ∃ (Si : Sto) (acc rest : List D) (vacc : List V), compO g tt it1 g1 tt1 te vs1 (wipeR ρ vs) (xs.drop (i + 1)) Si = some (rest, S') ∧ ys = acc ++ rest ∧ H5 dd = some (.lst vacc) ∧ Rps K (W.plus dd) H5 vacc acc ∧ StOk K (W.plus dd) H5 Si ∧ StepE W.θ H1 H5,
          fun H5 ⟨q1, q2⟩ => ⟨xs.length - (i + 1), by omega, rfl, q1, q2⟩, fun x H3 y => ?_⟩
        obtain ⟨sm, rx⟩ := hg.2 x H3 y
        rw [drop_cons hlt] at hc
        obtain ⟨ρ2, p, hg1, ht1, hcase⟩ := compO_cons hc
        have s3 : StepE W.θ H1 H3 := s2.trans (.same sm)
        have st3 : StOk K (W.plus dd) H3 Si := sti.same sm
        have rl3 := (rl1.plus hD s3 ⟨_, sm _ _ hDv⟩ st3).wiped vs
        refine ⟨W.plus dd, wipeR ρ vs, Si, xs[i], ρ2, rl3, rx, hg1, fun σ2 rl4 hw => ⟨by rw [hw, wipe_wipe], W.plus dd, ρ2, Si, p.1, p.2, rl4, ht1, fun H4 s4 st4 => ?_⟩⟩
        have s4' : StepE W.θ H1 H4 := s3.trans s4
        have hD4 : H4 dd = some (.lst vacc) := s4.keep _ _ (sm _ _ hDv) nD
        have racc4 : Rps K (W.plus dd) H4 vacc acc := (racc.stepE (.same sm)).stepE s4
        rcases hcase with ⟨hp, q, r, zs, hit1, hcf, hc2, hys2⟩ | ⟨hp, hc2⟩
        · rw [hp]
          refine iteT ?_
          obtain ⟨xs1, Sq⟩ := q
          obtain ⟨rs, Sr⟩ := r
          refine ⟨W.plus dd, ρ2, p.2, xs1, Sq, rl4.stepE s4 st4, hit1, fun J1 H5 s5 st5 hz1 wk1 => ?_⟩
          have s5' : StepE W.θ H1 H5 := s4'.trans s5
          have hD5 : H5 dd = some (.lst vacc) := s5.keep _ _ hD4 nD
          have rl5 : Rel K (W.plus dd) H5 σ2 ρ2 Sq := (rl4.stepE s4 st4).stepE s5 st5
          refine ⟨fun j m H6 => m = xs1.length - j ∧ j ≤ xs1.length ∧ ∃ (Sj : Sto) (acc1 rest1 : List D) (vac : List V), compF g1 tt1 te (wipeR ρ2 vs1) (xs1.drop j) Sj = some (rest1, Sr) ∧ rs = acc1 ++ rest1 ∧ H6 dd = some (.lst vac) ∧ Rps K (W.plus dd) H6 vac (acc ++ acc1) ∧ StOk K (W.plus dd) H6 Sj ∧ StepE W.θ H1 H6 ∧ (∀ b o, H5 b = some o → b ∉ W.θ → b ≠ dd → H6 b = some o) ∧ (∀ b xs, H5 b = some (.tup xs) → H6 b = some (.tup xs)) ∧ (∀ b o u, H5 b = some (.frz o u) → H6 b = some (.frz o u)) ∧ (∀ b o, H5 b = some o → ∃ o', H6 b = some o'),
            ⟨xs1.length, by simp, Nat.zero_le _, Sq, [], rs, vacc, hcf, rfl, hD5, by rw [List.append_nil]; exact racc4.stepE s5, st5, s5', fun b o h _ _ => h, fun _ _ h => h, fun _ _ _ h => h, fun b o h => ⟨o, h⟩⟩, ?_⟩
          rintro j m H6 ⟨rfl, hj, Sj, acc1, rest1, vac, hcj, hrs, hDj, raccj, stj, s6, kp6, t6, f6, dm6⟩
          have kps6 : Kps K (W.plus dd) H5 (W.plus dd) H6 := ⟨fun _ _ h => h, fun b o h n => ⟨kp6 b o h (fun z => n (.inr (.inl z))) (fun z => n (mu_plus.mpr (.inr z))), n⟩, t6, f6⟩
          have rl6 : Rel K (W.plus dd) H6 σ2 ρ2 Sj := by
            refine rl5.mv (fun _ => rfl) kps6 (fun i a h => ?_) stj ⟨rl5.wf.nd, rl5.wf.inj, rl5.wf.dis, fun a m => by obtain ⟨o, e⟩ := rl5.wf.dom a m; exact dm6 a o e⟩
            obtain ⟨o, ho⟩ := rl5.wf.dom a (.inr (.inr ⟨i, h⟩))
            rw [ho]
            exact kp6 a o ho (rl5.wf.dis i a h).1 fun e => (rl5.wf.dis i a h).2 (.inr e)
          by_cases hjl : j < xs1.length
          · have lat : Later false K (W.plus dd) H5 (W.plus dd) H6 := (⟨rfl, fun b o h n m => kp6 b o h n (fun e => m (.inr e)), fun _ _ _ n => n, t6, f6⟩ : LaterE (W.plus dd) H5 (W.plus dd) H6)
            have wkj := wk1 (W.plus dd) H6 lat
            have hgj := wkj.1 j xs1[j] (by simp [hjl])
            refine .inr ⟨hgj.1, fun H9 => j + 1 ≤ xs1.length ∧ ∃ (Sj : Sto) (acc1 rest1 : List D) (vac : List V), compF g1 tt1 te (wipeR ρ2 vs1) (xs1.drop (j + 1)) Sj = some (rest1, Sr) ∧ rs = acc1 ++ rest1 ∧ H9 dd = some (.lst vac) ∧ Rps K (W.plus dd) H9 vac (acc ++ acc1) ∧ StOk K (W.plus dd) H9 Sj ∧ StepE W.θ H1 H9 ∧ (∀ b o, H5 b = some o → b ∉ W.θ → b ≠ dd → H9 b = some o) ∧ (∀ b xs, H5 b = some (.tup xs) → H9 b = some (.tup xs)) ∧ (∀ b o u, H5 b = some (.frz o u) → H9 b = some (.frz o u)) ∧ (∀ b o, H5 b = some o → ∃ o', H9 b = some o'),
              fun H9 ⟨q1, q2⟩ => ⟨xs1.length - (j + 1), by omega, rfl, q1, q2⟩, fun x1 H7 y1 => ?_⟩
            obtain ⟨sm7, rx7⟩ := hgj.2 x1 H7 y1
            rw [drop_cons hjl] at hcj
            obtain ⟨ρ3, p3, hg3, ht3, hcase3⟩ := compF_cons hcj
            have s7 : StepE W.θ H1 H7 := s6.trans (.same sm7)
            have e67 : StepE W.θ H6 H7 := .same sm7
            have rl7 := (rl6.same sm7).wiped vs1
            refine ⟨W.plus dd, wipeR ρ2 vs1, Sj, xs1[j], ρ3, rl7, rx7, hg3, fun σ3 rl8 hw3 => ⟨by rw [hw3, wipe_wipe], W.plus dd, ρ3, Sj, p3.1, p3.2, rl8, ht3, fun H8 s8 st8 => ?_⟩⟩
            have e68 : StepE W.θ H6 H8 := e67.trans s8
            have hD8 : H8 dd = some (.lst vac) := s8.keep _ _ (sm7 _ _ hDj) nD
            have racc8 : Rps K (W.plus dd) H8 vac (acc ++ acc1) := (raccj.stepE (.same sm7)).stepE s8
            rcases hcase3 with ⟨hp3, q3, zs3, hte, hc3, hys3⟩ | ⟨hp3, hc3⟩
            · rw [hp3]
              refine iteT ?_
              refine ⟨W.plus dd, ρ3, p3.2, q3.1, q3.2, rl8.stepE s8 st8, hte, fun v H9 s9 st9 rv => ?_⟩
              have hD9 : H9 dd = some (.lst vac) := s9.keep _ _ hD8 nD
              have e69 : StepE W.θ H6 H9 := e68.trans s9
              have hl9 : (acc ++ acc1).length < sizeLine := by
                have e1 : ys.length = acc.length + (rs.length + zs.length) := by rw [hys, hys2]; simp
                have e2 : rs.length = acc1.length + (zs3.length + 1) := by rw [hrs, hys3]; simp
                rw [List.length_append]
                omega
              refine ⟨vac, hD9, by rw [racc8.length]; exact hl9, hjl, q3.2, acc1 ++ [q3.1], zs3, vac ++ [v], hc3, by rw [hrs, hys3]; simp, upd_same, ?_, st_put hD9 nD st9, step_put hD (s6.trans e69), fun b o h n m => ?_, fun b xs h => ?_, fun b o u h => ?_, fun b o h => ?_⟩
              · rw [← List.append_assoc]
                exact ((racc8.stepE s9).append (.cons rv .nil)).keeps (kps_put hD9)
              · rw [upd_ne m]
                exact e69.keep b o (kp6 b o h n m) n
              · have hb := e69.tups b xs (t6 b xs h)
                rw [upd_ne (fun e => by rw [e, hD9] at hb; cases hb)]
                exact hb
              · have hb := e69.frzs b o u (f6 b o u h)
                rw [upd_ne (fun e => by rw [e, hD9] at hb; cases hb)]
                exact hb
              · by_cases hb : b = dd
                · subst hb; exact ⟨_, upd_same⟩
                · rw [upd_ne hb]
                  obtain ⟨o1, h1⟩ := dm6 b o h
                  exact e69.dom b o1 h1
            · rw [hp3]
              refine iteF ?_
              refine ⟨hjl, p3.2, acc1, rest1, vac, hc3, hrs, hD8, racc8, st8, s6.trans e68, fun b o h n m => e68.keep b o (kp6 b o h n m) n, fun b xs h => e68.tups b xs (t6 b xs h), fun b o u h => e68.frzs b o u (f6 b o u h), fun b o h => ?_⟩
              obtain ⟨o1, h1⟩ := dm6 b o h
              exact e68.dom b o1 h1
          · have e : j = xs1.length := by omega
            subst e
            rw [List.drop_length] at hcj
            cases hcj
            rw [List.append_nil] at hrs
            subst hrs
            have lat : Later false K (W.plus dd) H5 (W.plus dd) H6 := (⟨rfl, fun b o h n m => kp6 b o h n (fun e => m (.inr e)), fun _ _ _ n => n, t6, f6⟩ : LaterE (W.plus dd) H5 (W.plus dd) H6)
            exact .inl ⟨(wk1 (W.plus dd) H6 lat).2, hlt, _, acc ++ rs, zs, vac, hc2, by rw [hys, hys2, List.append_assoc], hDj, raccj, stj, s6⟩
        · rw [hp]
          refine iteF ?_
          exact ⟨hlt, p.2, acc, rest, vacc, hc2, hys, hD4, racc4, st4, s4'⟩
      · have e : i = xs.length := by omega
        subst e
        rw [List.drop_length] at hc
        cases hc
        refine .inl ⟨wk2.2, k _ H2 (s1.trans s2) ?_⟩
        rw [List.append_nil] at hys
        subst hys
        exact .lst (s1.none hD) hDv (by rw [racc.length]; exact hyz) sti racc
    · simp only [if_neg hyz] at hf; cases hf
end DL

set_option Elab.async false
set_option linter.all false
set_option maxRecDepth 100000
namespace DL
open PySem PySem.Spec PyProof.Rows L2

abbrev TS1 (X : Cx) (ifs : List Expr) (f : Tx) : Prop := PTs X ifs (tT X.K f)
def tYs : Tx := fun _ S => some (true, S)
section
variable {X : Cx}
theorem ts_nil : TS1 X [] tYs := ⟨fun pins s σ H Q I ⟨W, ρ, S, d, S', rl, hf, k⟩ => by
  cases hf
  exact pts_nil.run pins s σ H Q I (k H (.refl _ _) rl.st)⟩
theorem ts_one {c : Expr} {f : Tx} (h : T X c f) : TS1 X [c] f := pts_one h
theorem n_lc {elt tg iter : Expr} {ifs : List Expr} {scope : Scope} {own : List (Str × Nat)} {pos : Pos} {it : Ars} {g : Tg} {tt : Tx} {te : Ex} (hc : X.calm = true) (hN : X.N.Nodup) (hi : IT false X tg iter it) (ok : BlkOk X.N X.env.scope scope own)
    (hg : ∀ (s : Shared) (H : Hp) (C : Addr) (cl : List (Str × Addr)) (fp : List Addr), G (X.blk s H scope (compEnvC scope cl C X.env) fp) tg (own.map (·.2)) g) (ht : ∀ (s : Shared) (H : Hp) (C : Addr) (cl : List (Str × Addr)) (fp : List Addr), TS1 (X.blk s H scope (compEnvC scope cl C X.env) fp) ifs tt)
    (he : ∀ (s : Shared) (H : Hp) (C : Addr) (cl : List (Str × Addr)) (fp : List Addr), E (X.blk s H scope (compEnvC scope cl C X.env) fp) elt te) (hs : ∀ x, foldedSetIterable iter X.env x = pure x := by intro _; rfl) :
    N X (.ListComp elt [⟨tg, iter, ifs, 0⟩] scope pos) (eLc it g tt te (own.map (·.2))) := pe_imp (pe_lc hc hN hi ok hg ht he hs) fun _ _ _ h => lc_f h
theorem n_lc2 {elt tg iter tg1 iter1 : Expr} {ifs ifs1 : List Expr} {scope : Scope} {own : List (Str × Nat)} {vs1 : List Nat} {pos : Pos} {it it1 : Ars} {g g1 : Tg} {tt tt1 : Tx} {te : Ex} (hc : X.calm = true) (hN : X.N.Nodup) (hi : IT false X tg iter it) (ok : BlkOk X.N X.env.scope scope own) (hv : ∀ i ∈ vs1, i ∈ own.map (·.2))
    (hg : ∀ (s : Shared) (H : Hp) (C : Addr) (cl : List (Str × Addr)) (fp : List Addr), G (X.blk s H scope (compEnvC scope cl C X.env) fp) tg (own.map (·.2)) g) (ht : ∀ (s : Shared) (H : Hp) (C : Addr) (cl : List (Str × Addr)) (fp : List Addr), TS1 (X.blk s H scope (compEnvC scope cl C X.env) fp) ifs tt)
    (hi1 : ∀ (s : Shared) (H : Hp) (C : Addr) (cl : List (Str × Addr)) (fp : List Addr), IT false (X.blk s H scope (compEnvC scope cl C X.env) fp) tg1 iter1 it1)
    (hg1 : ∀ (s : Shared) (H : Hp) (C : Addr) (cl : List (Str × Addr)) (fp : List Addr), G (X.blk s H scope (compEnvC scope cl C X.env) fp) tg1 vs1 g1) (ht1 : ∀ (s : Shared) (H : Hp) (C : Addr) (cl : List (Str × Addr)) (fp : List Addr), TS1 (X.blk s H scope (compEnvC scope cl C X.env) fp) ifs1 tt1)
    (he : ∀ (s : Shared) (H : Hp) (C : Addr) (cl : List (Str × Addr)) (fp : List Addr), E (X.blk s H scope (compEnvC scope cl C X.env) fp) elt te) (hs : ∀ x, foldedSetIterable iter X.env x = pure x := by intro _; rfl) (hs1 : ∀ env x, foldedSetIterable iter1 env x = pure x := by intro _ _; rfl) :
    N X (.ListComp elt [⟨tg, iter, ifs, 0⟩, ⟨tg1, iter1, ifs1, 0⟩] scope pos) (eLc2 it g tt it1 g1 tt1 te (own.map (·.2)) vs1) := pe_imp (pe_lc2 hc hN hi ok hv hg ht hi1 hg1 ht1 he hs hs1) fun _ _ _ h => lc2_f h
end

/-! ## 7. statements -/
inductive Out where
  | nx (ρ : Rho) (S : Sto)
  | bk (ρ : Rho) (S : Sto)
  | ct (ρ : Rho) (S : Sto)
  | rt (d : D) (S : Sto)
abbrev Stm := Rho → Sto → Option Out
section
variable (K : PySem.W.Frag)
def EndsOk (W : Wd) (H : Hp) (Z : Ends) : Out → Prop
  | .nx ρ S => ∀ W' σ H', StepS W H W' H' → Rel K W' H' σ ρ S → Z.nx σ H'
  | .bk ρ S => ∀ W' σ H', StepS W H W' H' → Rel K W' H' σ ρ S → Z.bk σ H'
  | .ct ρ S => ∀ W' σ H', StepS W H W' H' → Rel K W' H' σ ρ S → Z.ct σ H'
  | .rt d S => ∀ W' v H', StepS W H W' H' → StOk K W' H' S → WfW W' H' → Rp K W' H' v d → Z.rt v H'
def tS (g : Stm) : TS := fun Z σ H => ∃ (W : Wd) (ρ : Rho) (S : Sto) (o : Out), Rel K W H σ ρ S ∧ g ρ S = some o ∧ EndsOk K W H Z o
end
abbrev ST (X : Cx) (st : Stmt) (g : Stm) : Prop := PS X st (tS X.K g)
abbrev SS (X : Cx) (st : List Stmt) (g : Stm) : Prop := PSs X st (tS X.K g)
theorem ps_imp {X : Cx} {st : Stmt} {t t' : TS} (h : PS X st t) (i : ∀ Z σ H, t' Z σ H → t Z σ H) : PS X st t' := ⟨fun pins s σ H Z I w => h.run pins s σ H Z I (i Z σ H w)⟩
theorem pss_imp {X : Cx} {st : List Stmt} {t t' : TS} (h : PSs X st t) (i : ∀ Z σ H, t' Z σ H → t Z σ H) : PSs X st t' := ⟨fun pins s σ H Z I w => h.run pins s σ H Z I (i Z σ H w)⟩
section
variable {K : PySem.W.Frag} {W W1 : Wd} {H H1 : Hp} {Z : Ends}
theorem EndsOk.before {o : Out} (s : StepS W H W1 H1) (h : EndsOk K W H Z o) : EndsOk K W1 H1 Z o := by
  cases o with
  | nx ρ S => exact fun W' σ H' s' r => h W' σ H' (s.trans s') r
  | bk ρ S => exact fun W' σ H' s' r => h W' σ H' (s.trans s') r
  | ct ρ S => exact fun W' σ H' s' r => h W' σ H' (s.trans s') r
  | rt d S => exact fun W' v H' s' st wf r => h W' v H' (s.trans s') st wf r
end
def sNx : Stm := fun ρ S => some (.nx ρ S)
def sBk : Stm := fun ρ S => some (.bk ρ S)
def sCt : Stm := fun ρ S => some (.ct ρ S)
def Out.seq (b : Stm) : Out → Option Out
  | .nx ρ S => b ρ S
  | o => some o
def sSeq (a b : Stm) : Stm := fun ρ S => (a ρ S).bind fun o => o.seq b
section
variable {X : Cx} {st : Stmt} {rest : List Stmt} {a b : Stm} {e : Expr} {f : Ex} {pos : Pos}
theorem ss_nil : SS X [] sNx := pss_imp pss_nil fun Z σ H ⟨W, ρ, S, o, rl, hf, k⟩ => by
  cases hf
  exact k W σ H (.refl _ _) rl
theorem ss_one (h : ST X st a) : SS X [st] a := pss_imp (pss_one h) fun _ _ _ h => h
theorem ss_cons (h1 : ST X st a) (h2 : SS X rest b) : SS X (st :: rest) (sSeq a b) := pss_imp (pss_cons h1 h2) fun Z σ H ⟨W, ρ, S, o, rl, hf, k⟩ => by
  unfold sSeq at hf
  cases e1 : a ρ S with
  | none => rw [e1] at hf; cases hf
  | some o1 =>
    rw [e1, Option.bind_some] at hf
    refine ⟨W, ρ, S, o1, rl, e1, ?_⟩
    cases o1 with
    | nx ρ1 S1 => exact fun W' σ' H' s' r' => ⟨W', ρ1, S1, o, r', hf, k.before s'⟩
    | bk ρ1 S1 => cases hf; exact k
    | ct ρ1 S1 => cases hf; exact k
    | rt d S1 => cases hf; exact k
theorem st_pass : ST X (.Pass pos) sNx := ps_imp ps_pass fun Z σ H ⟨W, ρ, S, o, rl, hf, k⟩ => by
  cases hf
  exact k W σ H (.refl _ _) rl
theorem st_brk : ST X (.Break pos) sBk := ps_imp ps_break fun Z σ H ⟨W, ρ, S, o, rl, hf, k⟩ => by
  cases hf
  exact k W σ H (.refl _ _) rl
theorem st_cont : ST X (.Continue pos) sCt := ps_imp ps_continue fun Z σ H ⟨W, ρ, S, o, rl, hf, k⟩ => by
  cases hf
  exact k W σ H (.refl _ _) rl
def sRet (f : Ex) : Stm := fun ρ S => (f ρ S).map fun p => .rt p.1 p.2
theorem st_ret (h : E X e f) : ST X (.Return (some e) pos) (sRet f) := ps_imp (ps_ret h) fun Z σ H ⟨W, ρ, S, o, rl, hf, k⟩ => by
  obtain ⟨p, e1, e2⟩ := Option.map_eq_some_iff.mp hf
  cases e2
  exact ⟨W, ρ, S, p.1, p.2, rl, e1, fun v H' s' st' r' => k W v H' s'.toS st' (rl.wf.stepE s') r'⟩
def sRetN : Stm := fun _ S => some (.rt .non S)
theorem st_retN : ST X (.Return none pos) sRetN := ps_imp ps_retN fun Z σ H ⟨W, ρ, S, o, rl, hf, k⟩ => by
  cases hf
  exact k W _ H (.refl _ _) rl.st rl.wf .non
def sDrop (f : Ex) : Stm := fun ρ S => (f ρ S).map fun p => .nx ρ p.2
theorem st_expr (h : E X e f) (hs : swapsWith e none pos.line X.env = pure false := by rfl) : ST X (.Expr e pos) (sDrop f) := ps_imp (ps_expr h hs) fun Z σ H ⟨W, ρ, S, o, rl, hf, k⟩ => by
  obtain ⟨p, e1, e2⟩ := Option.map_eq_some_iff.mp hf
  cases e2
  exact ⟨W, ρ, S, p.1, p.2, rl, e1, fun v H' s' st' r' => k W σ H' s'.toS (rl.stepE s' st')⟩
def sIf (c : Tx) (a b : Stm) : Stm := fun ρ S => (c ρ S).bind fun p => if p.1 = true then a ρ p.2 else b ρ p.2
theorem st_if {c : Expr} {ta tb : List Stmt} {g : Tx} (hc : T X c g) (h1 : SS X ta a) (h2 : SS X tb b) : ST X (.If c ta tb pos) (sIf g a b) := ps_imp (ps_if hc h1 h2) fun Z σ H ⟨W, ρ, S, o, rl, hf, k⟩ => by
  unfold sIf at hf
  cases e1 : g ρ S with
  | none => rw [e1] at hf; cases hf
  | some p =>
    rw [e1, Option.bind_some] at hf
    refine ⟨W, ρ, S, p.1, p.2, rl, e1, fun H' s' st' => ?_⟩
    cases hp : p.1 with
    | true =>
      rw [hp, if_pos rfl] at hf
      refine iteT ?_
      exact ⟨W, ρ, p.2, o, rl.stepE s' st', hf, k.before s'.toS⟩
    | false =>
      rw [hp, if_neg Bool.false_ne_true] at hf
      refine iteF ?_
      exact ⟨W, ρ, p.2, o, rl.stepE s' st', hf, k.before s'.toS⟩

/-! ### stores to names -/
def sAsg (f : Ex) (g : Tg) : Stm := fun ρ S => (f ρ S).bind fun p => (g p.1 ρ).map fun ρ' => .nx ρ' p.2
theorem asg_d {K : PySem.W.Frag} {vs : List Nat} {g : Tg} {Z : Ends} {σ : L2.St} {H : Hp} (h : tS K (sAsg f g) Z σ H) : tAsg (tD K f) (tG K vs g) Z σ H := by
  obtain ⟨W, ρ, S, o, rl, hf, k⟩ := h
  unfold sAsg at hf
  cases e1 : f ρ S with
  | none => rw [e1] at hf; cases hf
  | some p =>
    rw [e1, Option.bind_some] at hf
    obtain ⟨ρ', e2, e3⟩ := Option.map_eq_some_iff.mp hf
    cases e3
    exact ⟨W, ρ, S, p.1, p.2, rl, e1, fun v H' s' st' r' => ⟨W, ρ, p.2, p.1, ρ', rl.stepE s' st', r', e2, fun σ' rl' _ => k W σ' H' s'.toS rl'⟩⟩
/-- name = e -/
theorem st_set {i : Nat} (h : PS X st (tAsg (tD X.K f) (gName i))) : ST X st (sAsg f (gNm i)) := ps_imp h fun Z σ H ⟨W, ρ, S, o, rl, hf, k⟩ => by
  unfold sAsg at hf
  cases e1 : f ρ S with
  | none => rw [e1] at hf; cases hf
  | some p =>
    rw [e1, Option.bind_some] at hf
    cases hf
    exact ⟨W, ρ, S, p.1, p.2, rl, e1, fun v H' s' st' r' => k W _ H' s'.toS ((rl.stepE s' st').setSh r')⟩
/-- (a, b) = e -/
theorem st_asg {vs : List Nat} {g : Tg} (h : PS X st (tAsg (tD X.K f) (tG X.K vs g))) : ST X st (sAsg f g) := ps_imp h fun _ _ _ h => asg_d h
/-- name = a new list or dict that is the frame's own -/
def sOwn (f : Ex) (i : Nat) : Stm := fun ρ S => (f ρ S).bind fun p => match p.1 with
  | .lst xs => some (.nx (ρ.set i (.ow (.lst xs))) p.2)
  | .dct ks ds => some (.nx (ρ.set i (.ow (.dct ks ds))) p.2)
  | _ => none
/-- the world in which slot i owns a -/
def Wd.own (W : Wd) (i : Nat) (a : Addr) : Wd := { W with α := fun j => if j = i then some a else W.α j }
section
variable {K : PySem.W.Frag} {W : Wd} {H H' : Hp} {σ : L2.St} {ρ : Rho} {S S' : Sto} {a : Addr} {i : Nat}
theorem mt_own {b : Addr} (m : Mt (W.own i a) b) : Mt W b ∨ b = a := by
  rcases m with m | ⟨j, m⟩
  · exact .inl (.inl m)
  · unfold Wd.own at m
    by_cases e : j = i
    · simp only [e, if_pos] at m; cases m; exact .inr rfl
    · simp only [if_neg e] at m; exact .inl (.inr ⟨j, m⟩)
theorem mu_own {b : Addr} (m : Mu (W.own i a) b) : Mu W b ∨ b = a := by
  rcases m with m | m
  · exact .inl (.inl m)
  · rcases mt_own m with m | m
    · exact .inl (.inr m)
    · exact .inr m
theorem step_own (s : StepE W.θ H H') (n : H a = none) : StepS W H (W.own i a) H' where
  m0 := rfl
  th := ⟨[], by simp [Wd.own]⟩
  thn := fun b h n => absurd h n
  keep := fun b o h m => ⟨s.keep b o h fun z => m (.inl z), fun z => (mt_own z).elim m fun e => by rw [e, n] at h; cases h⟩
  tups := s.tups
  frzs := s.frzs
  dom := s.dom
theorem own_new (rl : Rel K W H σ ρ S) (s : StepE W.θ H H') (n : H a = none) (st : StOk K (W.plus a) H' S') {c : Cell} (cc : CellOk K (W.plus a) H' a c) : Rel K (W.own i a) H' (σ.set i (some (.ref a))) (ρ.set i (.ow c)) S' := by
  have kp : Kps K W H (W.own i a) H' := (step_own s n).keeps
  have k2 : Kps K (W.plus a) H' (W.own i a) H' := Kps.less rfl fun b m => mu_plus.mpr (mu_own m)
  have wf := rl.wf
  have al : ∀ {j b}, (W.own i a).α j = some b → (j = i ∧ b = a) ∨ (j ≠ i ∧ W.α j = some b) := fun {j b} h => by
    unfold Wd.own at h
    by_cases e : j = i
    · simp only [e, if_pos] at h; cases h; exact .inl ⟨e, rfl⟩
    · simp only [if_neg e] at h; exact .inr ⟨e, h⟩
  refine ⟨by rw [List.length_set, List.length_set]; exact rl.len, fun j x e => ?_, st.keeps rfl k2 fun _ _ => rfl, ⟨wf.nd, fun j l b h1 h2 => ?_, fun j b h => ?_, fun b m => ?_⟩⟩
  · by_cases hj : i = j
    · subst hj
      by_cases hl : i < ρ.length
      · rw [List.getElem?_set_self hl] at e
        cases e
        exact ⟨a, by rw [List.getElem?_set_self (by rw [rl.len]; exact hl)], by simp [Wd.own], cc.keeps k2 rfl⟩
      · rw [List.getElem?_eq_none (by rw [List.length_set]; omega)] at e
        cases e
    · rw [List.getElem?_set_ne hj] at e
      have q := rl.sl j x e
      cases x with
      | un => trivial
      | sh d => obtain ⟨v, h1, h2⟩ := q; exact ⟨v, by rw [List.getElem?_set_ne hj]; exact h1, h2.keeps kp⟩
      | ow c' =>
        obtain ⟨b, h1, h2, h3⟩ := q
        obtain ⟨o, ho⟩ := h3.some
        refine ⟨b, by rw [List.getElem?_set_ne hj]; exact h1, ?_, h3.keeps kp ?_⟩
        · show (if j = i then some a else W.α j) = some b
          rw [if_neg fun z => hj z.symm]; exact h2
        · rw [ho]; exact s.keep b o ho (wf.dis j b h2).1
  · rcases al h1 with ⟨e1, e2⟩ | ⟨e1, e2⟩
    · rcases al h2 with ⟨e3, e4⟩ | ⟨e3, e4⟩
      · rw [e1, e3]
      · obtain ⟨o, ho⟩ := wf.dom b (.inr (.inr ⟨l, e4⟩))
        rw [e2, n] at ho; cases ho
    · rcases al h2 with ⟨e3, e4⟩ | ⟨e3, e4⟩
      · obtain ⟨o, ho⟩ := wf.dom b (.inr (.inr ⟨j, e2⟩))
        rw [e4, n] at ho; cases ho
      · exact wf.inj j l b e2 e4
  · rcases al h with ⟨e1, e2⟩ | ⟨e1, e2⟩
    · subst e2
      exact ⟨fresh_th wf n, fun m => by obtain ⟨o, ho⟩ := wf.dom b (.inl m); rw [n] at ho; cases ho⟩
    · exact wf.dis j b e2
  · rcases mu_own m with m | m
    · obtain ⟨o, ho⟩ := wf.dom b m
      exact s.dom b o ho
    · subst m
      exact cc.some
end
theorem own_d {K : PySem.W.Frag} {i : Nat} {Z : Ends} {σ : L2.St} {H : Hp} (h : tS K (sOwn f i) Z σ H) : tAsg (tF K f) (gName i) Z σ H := by
  obtain ⟨W, ρ, S, o, rl, hf, k⟩ := h
  unfold sOwn at hf
  cases e1 : f ρ S with
  | none => rw [e1] at hf; cases hf
  | some p =>
    obtain ⟨d, S1⟩ := p
    rw [e1, Option.bind_some] at hf
    refine ⟨W, ρ, S, d, S1, rl, e1, fun v H' s' r' => ?_⟩
    cases r' with
    | lst n e z st r =>
      cases hf
      exact k _ _ H' (step_own s' n) (own_new rl s' n st (c := .lst _) ⟨_, e, z, r⟩)
    | dct n e z st r =>
      cases hf
      exact k _ _ H' (step_own s' n) (own_new rl s' n st (c := .dct _ _) ⟨_, e, z, r⟩)
theorem st_own {i : Nat} (h : PS X st (tAsg (tF X.K f) (gName i))) : ST X st (sOwn f i) := ps_imp h fun _ _ _ h => own_d h
theorem asg_imp {t t' : TE} {g : TG} {st : Stmt} (h : PS X st (tAsg t g)) (i : ∀ σ H Q, t' σ H Q → t σ H Q) : PS X st (tAsg t' g) := ps_imp h fun Z σ H w => i σ H _ w

/-- the object of slot i is given away: from here on nobody changes it -/
def sFz (i : Nat) (g : Stm) : Stm := fun ρ S => match ρ[i]? with
  | some (.ow (.lst xs)) => g (ρ.set i (.sh (.lst xs))) S
  | some (.ow (.dct ks ds)) => g (ρ.set i (.sh (.dct ks ds))) S
  | _ => none
def Wd.less (W : Wd) (i : Nat) : Wd := { W with α := fun j => if j = i then none else W.α j }
theorem fz_rel {K : PySem.W.Frag} {W : Wd} {H : Hp} {σ : L2.St} {ρ : Rho} {S : Sto} {i : Nat} {c : Cell} {d : D} (rl : Rel K W H σ ρ S) (hi : ρ[i]? = some (.ow c)) (hd : Sl.rd (.ow c) = some d) : StepS W H (W.less i) H ∧ Rel K (W.less i) H σ (ρ.set i (.sh d)) S := by
  have wf := rl.wf
  have al : ∀ {j b}, (W.less i).α j = some b → j ≠ i ∧ W.α j = some b := fun {j b} h => by
    unfold Wd.less at h
    by_cases e : j = i
    · simp only [e, if_pos] at h; cases h
    · simp only [if_neg e] at h; exact ⟨e, h⟩
  have mt : ∀ b, Mt (W.less i) b → Mt W b := fun b m => m.elim .inl fun ⟨j, h⟩ => .inr ⟨j, (al h).2⟩
  have st : StepS W H (W.less i) H := ⟨rfl, ⟨[], by simp [Wd.less]⟩, fun b h n => absurd h n, fun b o h n => ⟨h, fun m => n (mt b m)⟩, fun _ _ h => h, fun _ _ _ h => h, fun _ o h => ⟨o, h⟩⟩
  refine ⟨st, by rw [List.length_set]; exact rl.len, fun j x e => ?_, rl.st.keeps rfl st.keeps fun _ _ => rfl, ⟨wf.nd, fun j l b h1 h2 => wf.inj j l b (al h1).2 (al h2).2, fun j b h => wf.dis j b (al h).2, fun b m => wf.dom b (m.elim .inl fun z => .inr (mt b z))⟩⟩
  by_cases hj : i = j
  · subst hj
    rw [List.getElem?_set_self (List.getElem?_eq_some_iff.mp hi).1] at e
    cases e
    obtain ⟨a, h1, h2, h3⟩ := rl.sl i _ hi
    have nm : ¬ Mu (W.less i) a := fun m => by
      rcases m with m | m | ⟨j, m⟩
      · exact (wf.dis i a h2).2 m
      · exact (wf.dis i a h2).1 m
      · exact (al m).1 (wf.inj j i a (al m).2 h2)
    refine ⟨.ref a, h1, ?_⟩
    cases c with
    | lst xs =>
      cases hd
      obtain ⟨vs, e1, z, e2⟩ := h3
      exact .lst nm e1 z (e2.step st)
    | dct ks ds =>
      cases hd
      obtain ⟨vs, e1, z, e2⟩ := h3
      exact .dct nm e1 z (e2.step st)
  · rw [List.getElem?_set_ne hj] at e
    have q := rl.sl j x e
    cases x with
    | un => trivial
    | sh d' => obtain ⟨v, h1, h2⟩ := q; exact ⟨v, h1, h2.step st⟩
    | ow c' =>
      obtain ⟨b, h1, h2, h3⟩ := q
      refine ⟨b, h1, ?_, h3.keeps st.keeps rfl⟩
      show (if j = i then none else W.α j) = some b
      rw [if_neg fun z => hj z.symm]; exact h2
theorem fz_d {K : PySem.W.Frag} {g : Stm} {i : Nat} {Z : Ends} {σ : L2.St} {H : Hp} (h : tS K (sFz i g) Z σ H) : tS K g Z σ H := by
  obtain ⟨W, ρ, S, o, rl, hf, k⟩ := h
  unfold sFz at hf
  split at hf
  · rename_i xs e
    obtain ⟨s1, r1⟩ := fz_rel rl e rfl
    exact ⟨_, _, S, o, r1, hf, k.before s1⟩
  · rename_i xs ds e
    obtain ⟨s1, r1⟩ := fz_rel rl e rfl
    exact ⟨_, _, S, o, r1, hf, k.before s1⟩
  · cases hf
theorem ss_fz (i : Nat) (h : SS X rest a) : SS X rest (sFz i a) := pss_imp h fun _ _ _ h => fz_d h
end
end DL

set_option Elab.async false
set_option linter.all false
set_option maxRecDepth 100000
namespace DL
open PySem PySem.Spec PyProof.Rows L2

/-! ## 8. loops -/
def Out.turn (k : Stm) : Out → Option Out
  | .nx ρ S => k ρ S
  | .ct ρ S => k ρ S
  | .bk ρ S => some (.nx ρ S)
  | .rt d S => some (.rt d S)
def forF (g : Tg) (b : Stm) : List D → Stm
  | [], ρ, S => some (.nx ρ S)
  | x :: xs, ρ, S => (g x ρ).bind fun ρ1 => (b ρ1 S).bind fun o => o.turn (forF g b xs)
def sFor (it : Ars) (g : Tg) (b : Stm) : Stm := fun ρ S => (it ρ S).bind fun p => forF g b p.1 ρ p.2
def whileF (c : Tx) (b : Stm) : Nat → Stm
  | 0, _, _ => none
  | n + 1, ρ, S => (c ρ S).bind fun p => if p.1 = true then (b ρ p.2).bind fun o => o.turn (whileF c b n) else some (.nx ρ p.2)
def sWhile (n : Rho → Sto → Nat) (c : Tx) (b : Stm) : Stm := fun ρ S => whileF c b (n ρ S) ρ S
section
variable {X : Cx} {st : Stmt} {body : List Stmt} {b : Stm} {pos : Pos}
theorem for_d {K : PySem.W.Frag} {it : Ars} {g : Tg} {vs : List Nat} {Z : Ends} {σ : L2.St} {H : Hp} (h : tS K (sFor it g b) Z σ H) : tFor (tI K true it) (tG K vs g) (tS K b) Z σ H := by
  obtain ⟨W, ρ, S, o, rl, hf, k⟩ := h
  unfold sFor at hf
  cases e1 : it ρ S with
  | none => rw [e1] at hf; cases hf
  | some p =>
    rw [e1, Option.bind_some] at hf
    obtain ⟨xs, S1⟩ := p
    refine ⟨W, ρ, S, xs, S1, rl, e1, fun J H1 s1 st1 hz wk => ?_⟩
    have rl1 := rl.stepE s1 st1
    have k1 : EndsOk K W H1 Z o := k.before s1.toS
    refine ⟨fun i m σ2 H2 => m = xs.length - i ∧ i ≤ xs.length ∧ ∃ W2 ρ2 S2, StepS W H1 W2 H2 ∧ Rel K W2 H2 σ2 ρ2 S2 ∧ forF g b (xs.drop i) ρ2 S2 = some o, ⟨xs.length, by simp, Nat.zero_le _, W, ρ, S1, .refl _ _, rl1, hf⟩, ?_⟩
    rintro i m σ2 H2 ⟨rfl, hi, W2, ρ2, S2, s2, rl2, hf2⟩
    have wk2 := wk W2 H2 (show Later true K W H1 W2 H2 from s2.keeps)
    by_cases hlt : i < xs.length
    · have hg := wk2.1 i xs[i] (by simp [hlt])
      refine .inr ⟨hg.1, fun σ3 H3 => i + 1 ≤ xs.length ∧ ∃ W2 ρ2 S2, StepS W H1 W2 H3 ∧ Rel K W2 H3 σ3 ρ2 S2 ∧ forF g b (xs.drop (i + 1)) ρ2 S2 = some o, fun σ3 H3 ⟨q1, q2⟩ => ⟨xs.length - (i + 1), by omega, rfl, q1, q2⟩, fun x H3 y => ?_⟩
      obtain ⟨sm, rx⟩ := hg.2 x H3 y
      rw [DL.drop_cons hlt] at hf2
      unfold forF at hf2
      cases e2 : g xs[i] ρ2 with
      | none => rw [e2] at hf2; cases hf2
      | some ρ3 =>
        rw [e2, Option.bind_some] at hf2
        cases e3 : b ρ3 S2 with
        | none => rw [e3] at hf2; cases hf2
        | some o2 =>
          rw [e3, Option.bind_some] at hf2
          have s3 : StepS W H1 W2 H3 := s2.trans (StepE.same sm).toS
          refine ⟨W2, ρ2, S2, xs[i], ρ3, rl2.same sm, rx, e2, fun σ3 rl3 _ => ⟨W2, ρ3, S2, o2, rl3, e3, ?_⟩⟩
          cases o2 with
          | nx ρ4 S4 => exact fun W4 σ4 H4 s4 rl4 => ⟨hlt, W4, ρ4, S4, s3.trans s4, rl4, hf2⟩
          | ct ρ4 S4 => exact fun W4 σ4 H4 s4 rl4 => ⟨hlt, W4, ρ4, S4, s3.trans s4, rl4, hf2⟩
          | bk ρ4 S4 =>
            cases hf2
            exact fun W4 σ4 H4 s4 rl4 => k1 W4 σ4 H4 (s3.trans s4) rl4
          | rt d S4 =>
            cases hf2
            exact fun W4 v H4 s4 st4 wf4 r4 => k1 W4 v H4 (s3.trans s4) st4 wf4 r4
    · have e : i = xs.length := by omega
      subst e
      rw [List.drop_length] at hf2
      cases hf2
      exact .inl ⟨wk2.2, k1 W2 σ2 H2 s2 rl2⟩
theorem st_for {tg iter : Expr} {it : Ars} {g : Tg} {vs : List Nat} (hp : PassesOwn (model X.prog X.w) X.A X.env X.xe) (hc : X.calm = true) (hi : IT true X tg iter it) (hg : G X tg vs g) (hb : SS X body b)
    (hs : ∀ x, foldedSetIterable iter X.env x = pure x := by intro _; rfl) : ST X (.For tg iter body [] pos) (sFor it g b) := ps_imp (ps_for hp hc hi hg hb hs) fun _ _ _ h => for_d h
theorem while_d {K : PySem.W.Frag} {c : Tx} {n : Rho → Sto → Nat} {Z : Ends} {σ : L2.St} {H : Hp} (h : tS K (sWhile n c b) Z σ H) : tWhile (tT K c) (tS K b) Z σ H := by
  obtain ⟨W, ρ, S, o, rl, hf, k⟩ := h
  unfold sWhile at hf
  refine ⟨fun m σ2 H2 => ∃ W2 ρ2 S2, StepS W H W2 H2 ∧ Rel K W2 H2 σ2 ρ2 S2 ∧ whileF c b m ρ2 S2 = some o, ⟨n ρ S, W, ρ, S, .refl _ _, rl, hf⟩, ?_⟩
  rintro m σ2 H2 ⟨W2, ρ2, S2, s2, rl2, hf2⟩
  cases m with
  | zero => cases hf2
  | succ m =>
    unfold whileF at hf2
    cases e1 : c ρ2 S2 with
    | none => rw [e1] at hf2; cases hf2
    | some p =>
      rw [e1, Option.bind_some] at hf2
      refine ⟨W2, ρ2, S2, p.1, p.2, rl2, e1, fun H3 s3 st3 => ?_⟩
      have s3' := s2.trans s3.toS
      have rl3 := rl2.stepE s3 st3
      cases hp : p.1 with
      | true =>
        rw [hp, if_pos rfl] at hf2
        refine iteT ?_
        refine ⟨fun σ4 H4 => ∃ W2 ρ2 S2, StepS W H W2 H4 ∧ Rel K W2 H4 σ4 ρ2 S2 ∧ whileF c b m ρ2 S2 = some o, fun σ4 H4 q => ⟨m, Nat.lt_succ_self m, q⟩, ?_⟩
        cases e3 : b ρ2 p.2 with
        | none => rw [e3] at hf2; cases hf2
        | some o2 =>
          rw [e3, Option.bind_some] at hf2
          refine ⟨W2, ρ2, p.2, o2, rl3, e3, ?_⟩
          cases o2 with
          | nx ρ4 S4 => exact fun W4 σ4 H4 s4 rl4 => ⟨W4, ρ4, S4, s3'.trans s4, rl4, hf2⟩
          | ct ρ4 S4 => exact fun W4 σ4 H4 s4 rl4 => ⟨W4, ρ4, S4, s3'.trans s4, rl4, hf2⟩
          | bk ρ4 S4 =>
            cases hf2
            exact fun W4 σ4 H4 s4 rl4 => k W4 σ4 H4 (s3'.trans s4) rl4
          | rt d S4 =>
            cases hf2
            exact fun W4 v H4 s4 st4 wf4 r4 => k W4 v H4 (s3'.trans s4) st4 wf4 r4
      | false =>
        rw [hp, if_neg Bool.false_ne_true] at hf2
        cases hf2
        refine iteF ?_
        exact k W2 σ2 H3 s3' rl3
theorem st_while {c : Expr} {g : Tx} (n : Rho → Sto → Nat) (hp : PassesOwn (model X.prog X.w) X.A X.env X.xe) (hc : T X c g) (hb : SS X body b) : ST X (.While c body [] pos) (sWhile n g b) := ps_imp (ps_while hp hc hb) fun _ _ _ h => while_d h
end

/-! ## 9. changes -/
section
variable {K : PySem.W.Frag} {W : Wd} {H H' : Hp} {σ : L2.St} {ρ : Rho} {S S' : Sto} {a : Addr} {i : Nat}
def isCell : HO → Prop
  | .lst _ => True
  | .dK _ => True
  | _ => False
theorem CellOk.cell {c : Cell} (h : CellOk K W H a c) : ∃ o : HO, H a = Option.some o ∧ isCell o := by
  cases c with
  | lst xs => obtain ⟨vs, h1, _⟩ := h; exact ⟨_, h1, trivial⟩
  | dct ks ds => obtain ⟨vs, h1, _⟩ := h; exact ⟨_, h1, trivial⟩
theorem kps_cell {o u : HO} (e : H a = some o) (c : isCell o) (m : Mu W a) : Kps K W H W (upd H a u) :=
  Kps.put m (fun xs h => by rw [e] at h; cases h; exact c) fun b w h => by rw [e] at h; cases h; exact c
theorem step_cell {o u : HO} (e : H a = some o) (c : isCell o) (m : Mt W a) : StepS W H W (upd H a u) where
  m0 := rfl
  th := ⟨[], by simp⟩
  thn := fun b h n => absurd h n
  keep := fun b w h n => ⟨by rw [upd_ne fun z => n (by rw [z]; exact m)]; exact h, n⟩
  tups := fun b xs h => by
    rw [upd_ne fun z => by rw [z, e] at h; cases h; exact c]; exact h
  frzs := fun b w x h => by
    rw [upd_ne fun z => by rw [z, e] at h; cases h; exact c]; exact h
  dom := fun b w h => by
    by_cases z : b = a
    · subst z; exact ⟨_, upd_same⟩
    · rw [upd_ne z]; exact ⟨w, h⟩
/-- slot i's own object is changed -/
theorem own_put {c c' : Cell} {u : HO} (rl : Rel K W H σ ρ S) (hi : ρ[i]? = some (.ow c)) (ha : W.α i = some a) (cc : CellOk K W (upd H a u) a c') (co : ∃ o, H a = some o ∧ isCell o) : StepS W H W (upd H a u) ∧ Rel K W (upd H a u) σ (ρ.set i (.ow c')) S := by
  obtain ⟨o, e, ic⟩ := co
  have mt : Mt W a := .inr ⟨i, ha⟩
  have sp := step_cell (u := u) e ic mt
  have kp : Kps K W H W (upd H a u) := sp.keeps
  refine ⟨sp, by rw [List.length_set]; exact rl.len, fun j x ej => ?_, rl.st.keeps rfl kp fun b m => upd_ne fun z => (rl.wf.dis i a ha).1 (by rw [← z]; exact m), ⟨rl.wf.nd, rl.wf.inj, rl.wf.dis, fun b m => by obtain ⟨w, h⟩ := rl.wf.dom b m; exact sp.dom b w h⟩⟩
  by_cases hj : i = j
  · subst hj
    rw [List.getElem?_set_self (List.getElem?_eq_some_iff.mp hi).1] at ej
    cases ej
    obtain ⟨b, h1, h2, h3⟩ := rl.sl i _ hi
    rw [ha] at h2
    cases h2
    exact ⟨a, h1, ha, cc⟩
  · rw [List.getElem?_set_ne hj] at ej
    have q := rl.sl j x ej
    cases x with
    | un => trivial
    | sh d' => obtain ⟨v, h1, h2⟩ := q; exact ⟨v, h1, h2.keeps kp⟩
    | ow c2 =>
      obtain ⟨b, h1, h2, h3⟩ := q
      refine ⟨b, h1, h2, h3.keeps kp (upd_ne fun z => hj (rl.wf.inj i j a ha (by rw [← z]; exact h2)))⟩
/-- the store's l-th object is changed -/
theorem st_put' {c c' : Cell} {l : Nat} {u : HO} (st : StOk K W H S) (wf : WfW W H) (hl : W.θ[l]? = some a) (hc : S[l]? = some c) (cc : CellOk K W (upd H a u) a c') (co : ∃ o, H a = some o ∧ isCell o) : StOk K W (upd H a u) (S.set l c') := by
  obtain ⟨o, e, ic⟩ := co
  have m : a ∈ W.θ := List.mem_of_getElem? hl
  have kp : Kps K W H W (upd H a u) := kps_cell e ic (.inr (.inl m))
  refine ⟨by rw [List.length_set]; exact st.1, fun j b x e1 e2 => ?_⟩
  by_cases hj : l = j
  · subst hj
    rw [List.getElem?_set_self (List.getElem?_eq_some_iff.mp hc).1] at e2
    cases e2
    rw [hl] at e1
    cases e1
    exact cc
  · rw [List.getElem?_set_ne hj] at e2
    refine (st.2 j b x e1 e2).keeps kp (upd_ne fun z => hj ?_)
    subst z
    exact (List.getElem?_inj (List.getElem?_eq_some_iff.mp hl).1 wf.nd).mp (hl.trans e1.symm)
theorem Rel.storeSet {c c' : Cell} {l : Nat} {u : HO} (rl : Rel K W H σ ρ S) (hl : W.θ[l]? = some a) (hc : S[l]? = some c) (cc : CellOk K W (upd H a u) a c') (co : ∃ o, H a = some o ∧ isCell o) : StepS W H W (upd H a u) ∧ Rel K W (upd H a u) σ ρ (S.set l c') := by
  have st' := st_put' rl.st rl.wf hl hc cc co
  obtain ⟨o, e, ic⟩ := co
  have m : a ∈ W.θ := List.mem_of_getElem? hl
  have sp := step_cell (u := u) e ic (W := W) (.inl m)
  exact ⟨sp, rl.mv (fun _ => rfl) sp.keeps (fun j b h => upd_ne fun z => (rl.wf.dis j b h).1 (by rw [z]; exact m)) st' ⟨rl.wf.nd, rl.wf.inj, rl.wf.dis, fun b m => by obtain ⟨w, h⟩ := rl.wf.dom b m; exact sp.dom b w h⟩⟩
end
/-- a method that changes its own object: g: the object, the arguments; the object behind, the answer -/
def MutD (K : PySem.W.Frag) (r : V → List V → Hp → VK → Prop) (g : Cell → List D → Option (Cell × D)) : Prop :=
  ∀ (W : Wd) (H : Hp) (a : Addr) (vs : List V) (ds : List D) (c c' : Cell) (d : D) (Q : VK), Mu W a → CellOk K W H a c → Rps K W H vs ds → g c ds = some (c', d) →
    (∀ u v, CellOk K W (upd H a u) a c' → Rp K W (upd H a u) v d → Q v (upd H a u)) → r (.ref a) vs H Q
def isLst : Cell → Bool
  | .lst _ => true
  | _ => false
/-- x.m(..) as a statement, x the frame's own -/
def sMut (g : Cell → List D → Option (Cell × D)) (i : Nat) (fs : Ars) : Stm := fun ρ S => match ρ[i]? with
  | some (.ow c) => (fs ρ S).bind fun p => (g c p.1).map fun z => .nx (ρ.set i (.ow z.1)) p.2
  | _ => none
section
variable {X : Cx} {st : Stmt} {f fi fo : Ex} {fs : Ars}
theorem mut_d {K : PySem.W.Frag} {r : V → List V → Hp → VK → Prop} {g : Cell → List D → Option (Cell × D)} (hd : MutD K r g) (hl : ∀ c ds z, g c ds = some z → isLst c = true) {i : Nat} {Z : Ends} {σ : L2.St} {H : Hp} (h : tS K (sMut g i fs) Z σ H) :
    tDrop (tBM K "list" r (tVar i) (tA K fs)) Z σ H := by
  obtain ⟨W, ρ, S, o, rl, hf, k⟩ := h
  unfold sMut at hf
  split at hf
  · rename_i c hi
    cases e1 : fs ρ S with
    | none => rw [e1] at hf; cases hf
    | some p =>
      rw [e1, Option.bind_some] at hf
      obtain ⟨z, e2, e3⟩ := Option.map_eq_some_iff.mp hf
      cases e3
      obtain ⟨a, h1, h2, h3⟩ := rl.sl i _ hi
      have lc := hl _ _ _ e2
      cases c with
      | dct _ _ => cases lc
      | lst xs =>
        obtain ⟨vs, hv, hz, rs⟩ := id h3
        refine ⟨.ref a, h1, .inl ⟨rfl, _, .of hv⟩, W, ρ, S, p.1, p.2, rl, e1, fun ws H1 s1 st1 r1 => ?_⟩
        have rl1 := rl.stepE s1 st1
        have n := rl.wf.dis i a h2
        have hv1 : H1 a = some (.lst vs) := s1.keep a _ hv n.1
        have h31 : CellOk K W H1 a (.lst xs) := ⟨vs, hv1, hz, rs.stepE s1⟩
        refine hd W H1 a ws p.1 _ z.1 z.2 _ (.inr (.inr ⟨i, h2⟩)) h31 r1 e2 fun u v cc rv => ?_
        obtain ⟨s2, rl2⟩ := own_put rl1 hi h2 cc ⟨_, hv1, trivial⟩
        exact k W σ _ (s1.toS.trans s2) rl2
  · cases hf
theorem st_mut {r : V → List V → Hp → VK → Prop} {g : Cell → List D → Option (Cell × D)} {i : Nat} (h : PS X st (tDrop (tBM X.K "list" r (tVar i) (tA X.K fs)))) (hd : MutD X.K r g) (hl : ∀ c ds z, g c ds = some z → isLst c = true) : ST X st (sMut g i fs) := ps_imp h fun _ _ _ h => mut_d hd hl h
def gAppend : Cell → List D → Option (Cell × D)
  | .lst xs, [y] => if xs.length < sizeLine then some (.lst (xs ++ [y]), .non) else none
  | _, _ => none
theorem append_d {K : PySem.W.Frag} : MutD K rAppend gAppend := fun W H a vs ds c c' d Q m cc rs h k => by
  unfold gAppend at h
  split at h
  · rename_i xs y
    by_cases z : xs.length < sizeLine
    · rw [if_pos z] at h
      cases h
      obtain ⟨ws, e, hz, rw'⟩ := cc
      cases rs with
      | @cons y1 _ _ _ r1 r2 =>
        cases r2
        refine ⟨a, ws, y1, rfl, rfl, e, by rw [rw'.length]; exact z, k _ _ ⟨_, upd_same, by rw [List.length_append, rw'.length]; exact z, ?_⟩ .non⟩
        have kp : Kps K W H W (upd H a (.lst (ws ++ [y1]))) := kps_cell e trivial m
        exact (rw'.append (.cons r1 .nil)).keeps kp
    · rw [if_neg z] at h; cases h
  · cases h
theorem append_l : ∀ c ds z, gAppend c ds = some z → isLst c = true := fun c ds z h => by
  cases c with
  | lst xs => rfl
  | dct ks vs => cases h
def insAt (xs : List D) (i : Int) (y : D) : List D := xs.insertIdx (if i < 0 then (i + xs.length).toNat else min i.toNat xs.length) y
/-- x[k] = e, x the frame's own list -/
def sSetIx (i : Nat) (f fi : Ex) : Stm := fun ρ S => (f ρ S).bind fun p => match ρ[i]? with
  | some (.ow (.lst xs)) => (fi ρ p.2).bind fun q => match q.1 with
    | .int k => (ixN xs.length k).map fun j => .nx (ρ.set i (.ow (.lst (xs.set j p.1)))) q.2
    | _ => none
  | _ => none
theorem setIx_d {K : PySem.W.Frag} {i : Nat} {Z : Ends} {σ : L2.St} {H : Hp} (h : tS K (sSetIx i f fi) Z σ H) : tAsg (tD K f) (gSub (tVar i) (tQ K fi) rSetL) Z σ H := by
  obtain ⟨W, ρ, S, o, rl, hf, k⟩ := h
  unfold sSetIx at hf
  cases e1 : f ρ S with
  | none => rw [e1] at hf; cases hf
  | some p =>
    rw [e1, Option.bind_some] at hf
    split at hf
    · rename_i xs hi
      cases e2 : fi ρ p.2 with
      | none => rw [e2] at hf; cases hf
      | some q =>
        rw [e2, Option.bind_some] at hf
        obtain ⟨kd, S2⟩ := q
        cases kd with
        | int kk =>
          obtain ⟨j, e3, e4⟩ := Option.map_eq_some_iff.mp hf
          cases e4
          refine ⟨W, ρ, S, p.1, p.2, rl, e1, fun v H1 s1 st1 r1 => ?_⟩
          have rl1 := rl.stepE s1 st1
          obtain ⟨a, h1, h2, h3⟩ := rl1.sl i _ hi
          refine ⟨.ref a, h1, W, ρ, p.2, _, S2, rl1, e2, fun v2 H2 s2 st2 r2 => ?_⟩
          have rl2 := rl1.stepE s2 st2
          obtain ⟨vs, hv, hz, rs⟩ := id h3
          have n := rl.wf.dis i a h2
          have hv2 : H2 a = some (.lst vs) := s2.keep a _ hv n.1
          have rs2 := rs.stepE s2
          refine ⟨a, vs, kk, j, rfl, rq_int r2, hv2, by rw [rs.length]; exact e3, ?_⟩
          have kp : Kps K W H2 W (upd H2 a (.lst (vs.set j v))) := kps_cell hv2 trivial (.inr (.inr ⟨i, h2⟩))
          obtain ⟨s3, rl3⟩ := own_put (c' := .lst (xs.set j p.1)) rl2 hi h2 ⟨_, upd_same, by rw [List.length_set]; exact hz, (rs2.set j (r1.stepE s2)).keeps kp⟩ ⟨_, hv2, trivial⟩
          exact k W σ _ ((s1.trans s2).toS.trans s3) rl3
        | _ => cases hf
    · cases hf
theorem st_setIx {i : Nat} (h : PS X st (tAsg (tD X.K f) (gSub (tVar i) (tQ X.K fi) rSetL))) : ST X st (sSetIx i f fi) := ps_imp h fun _ _ _ h => setIx_d h
/-- c[k] = e, c a shared list -/
def sSetR (fo f fi : Ex) : Stm := fun ρ S => (f ρ S).bind fun p => (fo ρ p.2).bind fun q => (fi ρ q.2).bind fun r => match q.1, r.1 with
  | .ref l, .int k => match r.2[l]? with
    | some (.lst xs) => (ixN xs.length k).map fun j => .nx ρ (r.2.set l (.lst (xs.set j p.1)))
    | _ => none
  | _, _ => none
theorem setR_d {K : PySem.W.Frag} {Z : Ends} {σ : L2.St} {H : Hp} (h : tS K (sSetR fo f fi) Z σ H) : tAsg (tD K f) (gSub (tD K fo) (tQ K fi) rSetL) Z σ H := by
  obtain ⟨W, ρ, S, o, rl, hf, k⟩ := h
  unfold sSetR at hf
  cases e1 : f ρ S with
  | none => rw [e1] at hf; cases hf
  | some p =>
    rw [e1, Option.bind_some] at hf
    cases e2 : fo ρ p.2 with
    | none => rw [e2] at hf; cases hf
    | some q =>
      rw [e2, Option.bind_some] at hf
      cases e3 : fi ρ q.2 with
      | none => rw [e3] at hf; cases hf
      | some r =>
        rw [e3, Option.bind_some] at hf
        obtain ⟨qd, S2⟩ := q
        obtain ⟨kd, S3⟩ := r
        cases qd with
        | ref l =>
          cases kd with
          | int kk =>
            cases e4 : S3[l]? with
            | none => simp only [e4] at hf; cases hf
            | some cc =>
              cases cc with
              | dct _ _ => simp only [e4] at hf; cases hf
              | lst xs =>
                simp only [e4] at hf
                obtain ⟨j, e5, e6⟩ := Option.map_eq_some_iff.mp hf
                cases e6
                refine ⟨W, ρ, S, p.1, p.2, rl, e1, fun v H1 s1 st1 r1 => ?_⟩
                have rl1 := rl.stepE s1 st1
                refine ⟨W, ρ, p.2, _, S2, rl1, e2, fun v2 H2 s2 st2 r2 => ?_⟩
                have rl2 := rl1.stepE s2 st2
                refine ⟨W, ρ, S2, _, S3, rl2, e3, fun v3 H3 s3 st3 r3 => ?_⟩
                have rl3 := rl2.stepE s3 st3
                cases r2 with
                | @ref a _ hl =>
                  obtain ⟨vs, hv, hz, rs⟩ := st3.2 l a _ hl e4
                  refine ⟨a, vs, kk, j, rfl, rq_int r3, hv, by rw [rs.length]; exact e5, ?_⟩
                  have kp : Kps K W H3 W (upd H3 a (.lst (vs.set j v))) := kps_cell hv trivial (.inr (.inl (List.mem_of_getElem? hl)))
                  obtain ⟨s4, rl4⟩ := rl3.storeSet (c' := .lst (xs.set j p.1)) hl e4 ⟨_, upd_same, by rw [List.length_set]; exact hz, (rs.set j ((r1.stepE s2).stepE s3)).keeps kp⟩ ⟨_, hv, trivial⟩
                  exact k W σ _ (((s1.trans s2).trans s3).toS.trans s4) rl4
          | _ => cases hf
        | _ => cases hf
theorem st_setR (h : PS X st (tAsg (tD X.K f) (gSub (tD X.K fo) (tQ X.K fi) rSetL))) : ST X st (sSetR fo f fi) := ps_imp h fun _ _ _ h => setR_d h
end

/-! ## 10. defs and their calls -/
abbrev Fn := List D → Sto → Option (D × Sto)
def rho0 (n : Nat) (ds : List D) : Rho := ds.map Sl.sh ++ List.replicate (n - ds.length) .un
def fnOut (S : Sto) : Option Out → Option (D × Sto)
  | some (.nx _ S') => if S'.length = S.length then some (.non, S') else none
  | some (.rt d S') => if S'.length = S.length then some (d, S') else none
  | _ => none
def fnD (n : Nat) (b : Stm) : Fn := fun ds S => fnOut S (b (rho0 n ds) S)
/-- called with data ds over the store S, it gives what F says -/
def spD (K : PySem.W.Frag) (n : Nat) (F : Fn) : Sp := fun vs H Q _ => ∃ (W : Wd) (ds : List D) (S : Sto) (d : D) (S' : Sto), ds.length = n ∧ Rps K W H vs ds ∧ StOk K W H S ∧ WfW W H ∧ F ds S = some (d, S') ∧
  ∀ v H', StepE W.θ H H' → StOk K W H' S' → Rp K W H' v d → Q v H'
theorem rho0_length {n : Nat} {ds : List D} (h : ds.length ≤ n) : (rho0 n ds).length = n := by unfold rho0; simp; omega
theorem rho0_slot {K : PySem.W.Frag} {W : Wd} {H : Hp} {N : List Str} {vs : List V} {ds : List D} (rs : Rps K W H vs ds) (i : Nat) (s : Sl) (h : (rho0 N.length ds)[i]? = some s) : SlOk K W H (L2.start N vs) i s := by
  unfold rho0 at h
  by_cases hi : i < ds.length
  · rw [List.getElem?_append_left (by simpa using hi), List.getElem?_map] at h
    obtain ⟨d, hd, rfl⟩ := Option.map_eq_some_iff.mp h
    obtain ⟨v, hv, rv⟩ := rs.get hd
    refine ⟨v, ?_, rv⟩
    unfold L2.start
    rw [List.getElem?_append_left (by simpa [rs.length] using hi), List.getElem?_map, hv]
    rfl
  · rw [List.getElem?_append_right (by simpa using hi), List.getElem?_replicate] at h
    split at h
    · cases h; trivial
    · cases h
section
variable {P : Program} {w : World} {K : PySem.W.Frag} {mg : Str → Option Value} {base : Heap}
theorem fn_ok {x qual : Str} {st : Stmt} {f : Addr} {fd : FuncData} {N ps : List Str} {k : Nat} {b : Stm} (F : Fun K x qual st f fd) (Sc : FnScope N ps (defScope st)) (hl : ps.length ≤ N.length)
    (hb : ∀ (cdv : Value) (A : Around) (outer : List Env) (s : Shared) (H : Hp) (E : XK), Room k (A.deeper (envOfC qual (defScope st) s.heap.objs.size f cdv)) → SS (cxOf CX0 P w K mg base N qual (defScope st) f cdv A outer s H E).nox (defBody st) b) :
    FnOk P w K mg base CX0 (k + 1) f fd ps (spD K ps.length (fnD N.length b)) := by
  refine F.ok Sc (fun vs H Q E h => ?_) (fun cdv A outer s H vs Q E hr h => ?_)
  · obtain ⟨W, ds, S, d, S', hn, rs, _⟩ := h
    rw [rs.length]; exact hn
  · obtain ⟨W, ds, S, d, S', hn, rs, st0, wf, hf, k0⟩ := h
    refine ⟨_, hb cdv A outer s H E hr, ?_⟩
    have m0 : ∀ b, Mu (⟨W.θ, Mu W, fun _ => none⟩ : Wd) b ↔ Mu W b := fun b => by
      constructor
      · rintro (m | m | ⟨j, m⟩)
        · exact m
        · exact .inr (.inl m)
        · cases m
      · exact .inl
    have kp0 : Kps K W H (⟨W.θ, Mu W, fun _ => none⟩ : Wd) H := Kps.less rfl fun b m => (m0 b).mp m
    have wf0 : WfW (⟨W.θ, Mu W, fun _ => none⟩ : Wd) H := ⟨wf.nd, (fun i j a h => (by cases h)), (fun i a h => (by cases h)), fun a m => wf.dom a ((m0 a).mp m)⟩
    have rs0 := rs.keeps kp0
    have rl0 : Rel K (⟨W.θ, Mu W, fun _ => none⟩ : Wd) H (L2.start N vs) (rho0 N.length ds) S := by
      refine ⟨?_, rho0_slot rs0, st0.keeps rfl kp0 fun _ _ => rfl, wf0⟩
      rw [rho0_length (by rw [hn]; exact hl)]
      unfold L2.start
      rw [List.length_append, List.length_map, List.length_replicate, rs.length]
      omega
    unfold fnD at hf
    cases e1 : b (rho0 N.length ds) S with
    | none => rw [e1] at hf; cases hf
    | some o =>
      rw [e1] at hf
      refine ⟨_, _, S, o, rl0, e1, ?_⟩
      have fin : ∀ {W' : Wd} {H' : Hp} {S1 : Sto} {v : V} {d : D}, StepS (⟨W.θ, Mu W, fun _ => none⟩ : Wd) H W' H' → StOk K W' H' S1 → Rp K W' H' v d → S1.length = S.length → StepE W.θ H H' ∧ StOk K W H' S1 ∧ Rp K W H' v d := fun {W' H' S1 v d} s st r hlen => by
        obtain ⟨t, ht⟩ := s.th
        have e : W'.θ = W.θ := by
          have h1 := st.1
          have h2 := st0.1
          have h3 := congrArg List.length ht
          rw [List.length_append] at h3
          have h4 : (⟨W.θ, Mu W, fun _ => none⟩ : Wd).θ.length = W.θ.length := rfl
          have : t.length = 0 := by omega
          rw [List.length_eq_zero_iff.mp this, List.append_nil] at ht
          exact ht
        have kl : Kps K W' H' W H' := Kps.less e.symm fun b m => .inl (by rw [s.m0]; exact m)
        refine ⟨⟨fun b u h n => (s.keep b u h fun z => ?_).1, s.tups, s.frzs, s.dom⟩, st.keeps e.symm kl fun _ _ => rfl, r.keeps kl⟩
        rcases z with z | ⟨j, z⟩
        · exact n z
        · cases z
      cases o with
      | nx ρ' S1 =>
        unfold fnOut at hf
        by_cases hlen : S1.length = S.length
        · simp only [if_pos hlen] at hf
          cases hf
          intro W' σ' H' s r
          obtain ⟨q1, q2, q3⟩ := fin (v := .non) (d := .non) s r.st .non hlen
          exact k0 .non H' q1 q2 q3
        · simp only [if_neg hlen] at hf; cases hf
      | rt d' S1 =>
        unfold fnOut at hf
        by_cases hlen : S1.length = S.length
        · simp only [if_pos hlen] at hf
          cases hf
          intro W' v H' s st wf' r
          obtain ⟨q1, q2, q3⟩ := fin s st r hlen
          exact k0 v H' q1 q2 q3
        · simp only [if_neg hlen] at hf; cases hf
      | bk _ _ => cases hf
      | ct _ _ => cases hf
end
def eCall (F : Fn) (fs : Ars) : Ex := fun ρ S => (fs ρ S).bind fun p => F p.1 p.2
section
variable {X : Cx} {e : Expr} {fs : Ars}
theorem e_call {F : Fn} {n : Nat} (h : PE X e (tCall (spD X.K n F) [] E0 (tA X.K fs))) (hn : ∀ (ρ : Rho) (S S' : Sto) (ds : List D), fs ρ S = some (ds, S') → ds.length = n) : E X e (eCall F fs) := pe_imp h fun σ H Q ⟨W, ρ, S, d, S', rl, hf, k⟩ => by
  unfold eCall at hf
  cases e1 : fs ρ S with
  | none => rw [e1] at hf; cases hf
  | some p =>
    rw [e1, Option.bind_some] at hf
    refine ⟨W, ρ, S, p.1, p.2, rl, e1, fun vs H1 s1 st1 r1 => ?_⟩
    show spD X.K n F (vs ++ []) H1 Q E0
    rw [List.append_nil]
    exact ⟨W, p.1, p.2, d, S', hn _ _ _ _ e1, r1, st1, rl.wf.stepE s1, hf, fun v H2 s2 st2 r2 => k v H2 (s1.trans s2) st2 r2⟩
end
end DL

set_option Elab.async false
set_option linter.all false
set_option maxRecDepth 100000
namespace DL
open PySem PySem.Spec PyProof.Rows L2

/-! ## 11. operators -/
section
variable {K : PySem.W.Frag} {W : Wd} {H : Hp}
theorem rp_bl {v : V} {b : Bool} (r : Rq K W H v (.bl b)) : v = .bl b := by
  cases r with
  | of r => cases r; rfl
theorem rq_non {v : V} (r : Rq K W H v .non) : v = .non := by
  cases r with
  | of r => cases r; rfl
theorem rq_str {v : V} {x : Str} (r : Rq K W H v (.str x)) : v = .str x := by
  cases r with
  | of r => cases r; rfl
theorem rq_ty {v : V} {x : String} (r : Rq K W H v (.ty x)) : v = .ty x := by
  cases r with
  | of r => cases r; rfl
/-- an operator of two ints -/
def liftI (g : Int → Int → Option D) : D → D → Option D
  | .int i, .int j => g i j
  | _, _ => none
theorem liftI_split {g : Int → Int → Option D} {x y d : D} (h : liftI g x y = some d) : ∃ i j, x = .int i ∧ y = .int j ∧ g i j = some d := by
  unfold liftI at h
  split at h
  · exact ⟨_, _, rfl, rfl, h⟩
  · cases h
theorem int_d {C : Int → Int → Prop} {f : Int → Int → Int} {g : Int → Int → Option D} (hg : ∀ i j d, g i j = some d → C i j ∧ d = .int (f i j)) : OpD K (rI C fun i j => .int (f i j)) (liftI g) := fun W H v1 v2 d1 d2 d Q wf r1 r2 h k => by
  obtain ⟨i, j, rfl, rfl, e⟩ := liftI_split h
  obtain ⟨c, rfl⟩ := hg i j d e
  exact ⟨i, j, rq_int r1, rq_int r2, c, k _ H (.refl _) (.int _)⟩
theorem int0_d {f : Int → Int → Int} : OpD K (rI0 fun i j => .int (f i j)) (liftI fun i j => some (.int (f i j))) := fun W H v1 v2 d1 d2 d Q wf r1 r2 h k => by
  obtain ⟨i, j, rfl, rfl, e⟩ := liftI_split h
  cases e
  exact ⟨i, j, rq_int r1, rq_int r2, k _ H (.refl _) (.int _)⟩
theorem intB_d {f : Int → Int → Bool} : OpD K (rI0 fun i j => .bl (f i j)) (liftI fun i j => some (.bl (f i j))) := fun W H v1 v2 d1 d2 d Q wf r1 r2 h k => by
  obtain ⟨i, j, rfl, rfl, e⟩ := liftI_split h
  cases e
  exact ⟨i, j, rq_int r1, rq_int r2, k _ H (.refl _) (.bl _)⟩
def D.sub : D → D → Option D := liftI fun i j => some (.int (i - j))
theorem sub_d : OpD K (rI0 fun i j => .int (i - j)) D.sub := int0_d
def okMul (i j : Int) : Bool := decide (i.natAbs.log2 + j.natAbs.log2 < 1000000)
def D.mul : D → D → Option D := liftI fun i j => if okMul i j = true then some (.int (i * j)) else none
theorem mul_d : OpD K (rI CMulW fun i j => .int (i * j)) D.mul := int_d fun i j d h => by
  by_cases c : okMul i j = true
  · simp only [if_pos c] at h; cases h; exact ⟨of_decide_eq_true (p := i.natAbs.log2 + j.natAbs.log2 < 1000000) c, rfl⟩
  · simp only [if_neg c] at h; cases h
def okDiv (j : Int) : Bool := decide (0 < j ∧ j.natAbs.log2 < 9000)
def D.fdiv : D → D → Option D := liftI fun i j => if okDiv j = true then some (.int (i / j)) else none
theorem fdiv_d : OpD K (rI CDivW fun i j => .int (i / j)) D.fdiv := int_d fun i j d h => by
  by_cases c : okDiv j = true
  · simp only [if_pos c] at h; cases h; exact ⟨of_decide_eq_true (p := 0 < j ∧ j.natAbs.log2 < 9000) c, rfl⟩
  · simp only [if_neg c] at h; cases h
def D.mod : D → D → Option D := liftI fun i j => if j ≠ 0 then some (.int (i.fmod j)) else none
theorem mod_d : OpD K (rI (fun _ j => j ≠ 0) fun i j => .int (i.fmod j)) D.mod := int_d fun i j d h => by
  by_cases c : j ≠ 0
  · simp only [if_pos c] at h; cases h; exact ⟨c, rfl⟩
  · simp only [if_neg c] at h; cases h
def D.pow : D → D → Option D := liftI fun i j => if 0 ≤ j ∧ j ≤ 1000000 ∧ i.natAbs < 2 ^ 64 then some (.int (i ^ j.toNat)) else none
theorem pow_d : OpD K (rI CPow fun i j => .int (i ^ j.toNat)) D.pow := int_d fun i j d h => by
  by_cases c : 0 ≤ j ∧ j ≤ 1000000 ∧ i.natAbs < 2 ^ 64
  · simp only [if_pos c] at h; cases h; exact ⟨c, rfl⟩
  · simp only [if_neg c] at h; cases h
def D.lt : D → D → Option D := liftI fun i j => some (.bl (decide (i < j)))
def D.le : D → D → Option D := liftI fun i j => some (.bl (decide (i ≤ j)))
def D.gt : D → D → Option D := liftI fun i j => some (.bl (decide (j < i)))
def D.ge : D → D → Option D := liftI fun i j => some (.bl (decide (j ≤ i)))
theorem lt_d : OpD K (rI0 fun i j => .bl (decide (i < j))) D.lt := intB_d
theorem le_d : OpD K (rI0 fun i j => .bl (decide (i ≤ j))) D.le := intB_d
theorem gt_d : OpD K (rI0 fun i j => .bl (decide (j < i))) D.gt := intB_d
theorem ge_d : OpD K (rI0 fun i j => .bl (decide (j ≤ i))) D.ge := intB_d
/-- + of ints, tuples, lists, texts -/
def D.add : D → D → Option D
  | .int i, .int j => some (.int (i + j))
  | .tup xs, .tup ys => if xs.length + ys.length ≤ sizeLine then some (.tup (xs ++ ys)) else none
  | .lst xs, .lst ys => if xs.length + ys.length ≤ sizeLine then some (.lst (xs ++ ys)) else none
  | .str x, .str y => if x.length + y.length ≤ sizeLine then some (.str (x ++ y)) else none
  | _, _ => none
def rAddD (K : PySem.W.Frag) : R2 := fun x y H Q => rI0 (fun i j => .int (i + j)) x y H Q ∨ rCatZ K x y H Q ∨ rCat x y H Q ∨ ∃ i j, x = .str i ∧ y = .str j ∧ i.length + j.length ≤ sizeLine ∧ Q (.str (i ++ j)) H
theorem op_addD {X : Cx} : OpR X (binaryOp .Add) (rAddD X.K) := op_add.or (op_catZ.or (op_cat.or op_add_str))
theorem fresh_mu (wf : WfW W H) {p : Addr} (n : H p = none) : ¬ Mu W p := fun m => by
  obtain ⟨o, e⟩ := wf.dom p m
  rw [n] at e; cases e
theorem rq_lstH {v : V} {xs : List D} (r : Rq K W H v (.lst xs)) : ∃ a vs, v = .ref a ∧ H a = some (.lst vs) ∧ vs.length ≤ sizeLine ∧ Rps K W H vs xs := by
  cases r with
  | of r =>
    cases r with
    | lst n q z rs => exact ⟨_, _, rfl, q, z, rs⟩
  | lst n q z rs => exact ⟨_, _, rfl, q, z, rs⟩
theorem add_d : OpD K (rAddD K) D.add := fun W H v1 v2 d1 d2 d Q wf r1 r2 h k => by
  unfold D.add at h
  split at h
  · cases h
    exact .inl ⟨_, _, rq_int r1, rq_int r2, k _ H (.refl _) (.int _)⟩
  · rename_i xs ys
    by_cases c : xs.length + ys.length ≤ sizeLine
    · rw [if_pos c] at h
      cases h
      obtain ⟨a, vs, rfl, q1, z1, s1⟩ := rq_tup r1
      obtain ⟨b, ws, rfl, q2, z2, s2⟩ := rq_tup r2
      refine .inr (.inl ⟨a, b, vs, ws, rfl, rfl, q1.sqt, q2.sqt, by rw [s1.length, s2.length]; exact c, fun e => ?_, fun e1 e2 => ?_, fun e1 e2 p o hp ho => ?_⟩)
      · subst e
        cases s1
        exact k _ H (.refl _) (.tup q2 z2 s2)
      · subst e2
        cases s2
        refine k _ H (.refl _) (.tup q1 z1 ?_)
        rw [List.append_nil]; exact s1
      · have sm : Same H (upd H p (.frz o (.tup (vs ++ ws)))) := upd_Same hp
        exact k _ _ sm (.tup (.new ho) (by rw [List.length_append, s1.length, s2.length]; exact c) ((s1.append s2).stepE (.same sm)))
    · rw [if_neg c] at h; cases h
  · rename_i xs ys
    by_cases c : xs.length + ys.length ≤ sizeLine
    · rw [if_pos c] at h
      cases h
      obtain ⟨a, vs, rfl, q1, z1, s1⟩ := rq_lstH r1
      obtain ⟨b, ws, rfl, q2, z2, s2⟩ := rq_lstH r2
      refine .inr (.inr (.inl ⟨a, b, vs, ws, rfl, rfl, q1, q2, by rw [s1.length, s2.length]; exact c, fun p hp => ?_⟩))
      have sm : Same H (upd H p (.lst (vs ++ ws))) := upd_Same hp
      exact k _ _ sm (.lst (fresh_mu wf hp) upd_same (by rw [List.length_append, s1.length, s2.length]; exact c) ((s1.append s2).stepE (.same sm)))
    · rw [if_neg c] at h; cases h
  · rename_i x y
    by_cases c : x.length + y.length ≤ sizeLine
    · rw [if_pos c] at h
      cases h
      exact .inr (.inr (.inr ⟨x, y, rq_str r1, rq_str r2, c, k _ H (.refl _) (.str _)⟩))
    · rw [if_neg c] at h; cases h
  · cases h
def D.cat : D → D → Option D
  | .lst xs, .lst ys => if xs.length + ys.length ≤ sizeLine then some (.lst (xs ++ ys)) else none
  | _, _ => none
theorem cat_f : OpF K rCat D.cat := fun W H v1 v2 d1 d2 d Q wf r1 r2 h k => by
  unfold D.cat at h
  split at h
  · rename_i xs ys
    by_cases c : xs.length + ys.length ≤ sizeLine
    · rw [if_pos c] at h
      cases h
      obtain ⟨a, vs, rfl, q1, z1, s1⟩ := rq_lstH r1
      obtain ⟨b, ws, rfl, q2, z2, s2⟩ := rq_lstH r2
      exact ⟨a, b, vs, ws, rfl, rfl, q1, q2, by rw [s1.length, s2.length]; exact c, fun p hp => k p _ hp (by rw [List.length_append, s1.length, s2.length]; exact c) (s1.append s2)⟩
    · rw [if_neg c] at h; cases h
  · cases h
def D.isNon : D → Bool
  | .non => true
  | _ => false
def D.isN : D → D → Option D
  | x, .non => some (.bl x.isNon)
  | _, _ => none
def D.notN : D → D → Option D
  | x, .non => some (.bl (!x.isNon))
  | _, _ => none
theorem isN_v {v : V} {d : D} (r : Rq K W H v d) : decide (v = V.non) = d.isNon := by
  cases r with
  | of r => cases r <;> simp [D.isNon]
  | lst => simp [D.isNon]
  | dct => simp [D.isNon]
theorem isN_d : OpD K (fun x y H Q => y = .non ∧ Q (.bl (decide (x = .non))) H) D.isN := fun W H v1 v2 d1 d2 d Q wf r1 r2 h k => by
  unfold D.isN at h
  split at h
  · cases h
    exact ⟨rq_non r2, k _ H (.refl _) (by rw [isN_v r1]; exact .bl _)⟩
  · cases h
theorem notN_d : OpD K (fun x y H Q => y = .non ∧ Q (.bl (!decide (x = .non))) H) D.notN := fun W H v1 v2 d1 d2 d Q wf r1 r2 h k => by
  unfold D.notN at h
  split at h
  · cases h
    refine ⟨rq_non r2, k _ H (.refl _) ?_⟩
    rw [isN_v r1]
    exact .bl _
  · cases h

/-! ### == of data -/
mutual
def D.toP : D → PyData
  | .non => .none
  | .bl b => .bool b
  | .int i => .int i
  | .str x => .str x
  | .tup xs => .tuple (D.toPs xs)
  | .lst xs => .list (D.toPs xs)
  | .ty _ => .none
  | .ref _ => .none
  | .scr _ => .none
  | .dct _ _ => .none
def D.toPs : List D → List PyData
  | [] => []
  | x :: xs => x.toP :: D.toPs xs
end
mutual
/-- data to be compared: nested no deeper than n -/
def D.fit : D → Nat → Bool
  | .non, _ => true
  | .bl _, _ => true
  | .int _, _ => true
  | .str _, _ => true
  | .tup xs, n + 1 => D.fits xs n
  | .lst xs, n + 1 => D.fits xs n
  | _, _ => false
def D.fits : List D → Nat → Bool
  | [], _ => true
  | x :: xs, n => x.fit n && D.fits xs n
end
mutual
theorem fit_dp {v : V} : ∀ {d : D} {n : Nat}, d.fit n = true → Rp K W H v d → Dp K H v d.toP
  | .non, _, _, r => by cases r; exact .non
  | .bl b, _, _, r => by cases r; exact .bl b
  | .int i, _, _, r => by cases r; exact .int i
  | .str x, _, _, r => by cases r; exact .str x
  | .tup xs, n + 1, h, r => by
    cases r with
    | tup q z rs => exact .tup q.sqt (fits_dp (n := n) (by simpa [D.fit] using h) rs)
  | .lst xs, n + 1, h, r => by
    cases r with
    | lst m q z rs => exact .lst (.of q) (fits_dp (n := n) (by simpa [D.fit] using h) rs)
  | .tup xs, 0, h, _ => by simp [D.fit] at h
  | .lst xs, 0, h, _ => by simp [D.fit] at h
  | .ty _, _, h, _ => by simp [D.fit] at h
  | .ref _, _, h, _ => by simp [D.fit] at h
  | .scr _, _, h, _ => by simp [D.fit] at h
  | .dct _ _, _, h, _ => by simp [D.fit] at h
theorem fits_dp : ∀ {ds : List D} {vs : List V} {n : Nat}, D.fits ds n = true → Rps K W H vs ds → DpAll K H vs (D.toPs ds)
  | [], _, _, _, r => by cases r; exact .nil
  | d :: ds, _, n, h, r => by
    have h' : d.fit n = true ∧ D.fits ds n = true := by simpa [D.fits] using h
    cases r with
    | cons a b => exact .cons (fit_dp h'.1 a) (fits_dp h'.2 b)
end
theorem fit_dq {v : V} {d : D} {n : Nat} (h : d.fit n = true) (r : Rq K W H v d) : Dp K H v d.toP := by
  cases r with
  | of r => exact fit_dp h r
  | lst m q z rs =>
    cases n with
    | zero => simp [D.fit] at h
    | succ n => exact .lst (.of q) (fits_dp (n := n) (by simpa [D.fit] using h) rs)
  | dct => simp [D.fit] at h
mutual
theorem toP_plain : ∀ d : D, d.toP.plain = true
  | .non => rfl
  | .bl b => rfl
  | .int i => rfl
  | .str x => rfl
  | .tup xs => by simp only [D.toP, PyData.plain]; exact toPs_plain xs
  | .lst xs => by simp only [D.toP, PyData.plain]; exact toPs_plain xs
  | .ty _ => rfl
  | .ref _ => rfl
  | .scr _ => rfl
  | .dct _ _ => rfl
theorem toPs_plain : ∀ ds : List D, PyData.plainAll (D.toPs ds) = true
  | [] => rfl
  | d :: ds => by simp only [D.toPs, PyData.plainAll, toP_plain d, toPs_plain ds, Bool.and_self]
end
mutual
theorem fit_depth : ∀ {d : D} {n : Nat}, d.fit n = true → d.toP.depth ≤ n
  | .non, _, _ => by simp [D.toP, PyData.depth]
  | .bl b, _, _ => by simp [D.toP, PyData.depth]
  | .int i, _, _ => by simp [D.toP, PyData.depth]
  | .str x, _, _ => by simp [D.toP, PyData.depth]
  | .tup xs, n + 1, h => by
    have := fits_depth (ds := xs) (n := n) (by simpa [D.fit] using h)
    simp only [D.toP, PyData.depth]
    omega
  | .lst xs, n + 1, h => by
    have := fits_depth (ds := xs) (n := n) (by simpa [D.fit] using h)
    simp only [D.toP, PyData.depth]
    omega
  | .tup xs, 0, h => by simp [D.fit] at h
  | .lst xs, 0, h => by simp [D.fit] at h
  | .ty _, _, h => by simp [D.fit] at h
  | .ref _, _, h => by simp [D.fit] at h
  | .scr _, _, h => by simp [D.fit] at h
  | .dct _ _, _, h => by simp [D.fit] at h
theorem fits_depth : ∀ {ds : List D} {n : Nat}, D.fits ds n = true → PyData.depthAll (D.toPs ds) ≤ n
  | [], _, _ => by simp [D.toPs, PyData.depthAll]
  | d :: ds, n, h => by
    have h' : d.fit n = true ∧ D.fits ds n = true := by simpa [D.fits] using h
    have h1 := fit_depth h'.1
    have h2 := fits_depth h'.2
    simp only [D.toPs, PyData.depthAll]
    omega
end
def D.eqv (a b : D) : Bool := PyData.eqv a.toP b.toP
def D.eq (a b : D) : Option D := if (a.fit 60 && b.fit 60) = true then some (.bl (a.eqv b)) else none
def D.ne (a b : D) : Option D := if (a.fit 60 && b.fit 60) = true then some (.bl (!a.eqv b)) else none
def rEqP (K : PySem.W.Frag) : R2 := fun x y H Q => ∃ d e, Dp K H x d ∧ Dp K H y e ∧ d.plain = true ∧ e.plain = true ∧ d.depth ≤ 60 ∧ Q (.bl (PyData.eqv d e)) H
def rNeP (K : PySem.W.Frag) : R2 := fun x y H Q => ∃ d e, Dp K H x d ∧ Dp K H y e ∧ d.plain = true ∧ e.plain = true ∧ d.depth ≤ 60 ∧ Q (.bl (!PyData.eqv d e)) H
theorem op_eqP {X : Cx} (hu : X.A.units + 64 < cLine) : OpR X (compareOp .Eq) (rEqP X.K) := by
  intro pins s σ H x y v u Q I rx ry h
  obtain ⟨d, e, hd, he, sd, se, dd, q⟩ := h
  obtain ⟨as, r1⟩ := Dp.reads I d x v hd rx
  obtain ⟨bs, r2⟩ := Dp.reads I e y u he ry
  refine SeqAt.eq_plain r1 r2 sd se ?_ ⟨.bl _, H, I, rfl, q⟩
  have := Nat.min_le_left d.depth e.depth
  omega
theorem op_neP {X : Cx} (hu : X.A.units + 64 < cLine) : OpR X (compareOp .NotEq) (rNeP X.K) := by
  intro pins s σ H x y v u Q I rx ry h
  obtain ⟨d, e, hd, he, sd, se, dd, q⟩ := h
  obtain ⟨as, r1⟩ := Dp.reads I d x v hd rx
  obtain ⟨bs, r2⟩ := Dp.reads I e y u he ry
  refine SeqAt.ne_plain r1 r2 sd se ?_ ⟨.bl _, H, I, rfl, q⟩
  have := Nat.min_le_left d.depth e.depth
  omega
theorem eq_d : OpD K (rEqP K) D.eq := fun W H v1 v2 d1 d2 d Q wf r1 r2 h k => by
  unfold D.eq at h
  by_cases c : (d1.fit 60 && d2.fit 60) = true
  · rw [if_pos c] at h
    cases h
    have c' := Bool.and_eq_true_iff.mp c
    exact ⟨_, _, fit_dq c'.1 r1, fit_dq c'.2 r2, toP_plain _, toP_plain _, fit_depth c'.1, k _ H (.refl _) (.bl _)⟩
  · rw [if_neg c] at h; cases h
theorem ne_d : OpD K (rNeP K) D.ne := fun W H v1 v2 d1 d2 d Q wf r1 r2 h k => by
  unfold D.ne at h
  by_cases c : (d1.fit 60 && d2.fit 60) = true
  · rw [if_pos c] at h
    cases h
    have c' := Bool.and_eq_true_iff.mp c
    exact ⟨_, _, fit_dq c'.1 r1, fit_dq c'.2 r2, toP_plain _, toP_plain _, fit_depth c'.1, k _ H (.refl _) (.bl _)⟩
  · rw [if_neg c] at h; cases h
/-! ### in -/
def D.isIn (x y : D) : Option D := match y with
  | .lst ys => if (x.fit 50 && D.fits ys 50) = true then some (.bl (ys.any fun z => z.eqv x)) else none
  | .tup ys => if (x.fit 50 && D.fits ys 50) = true then some (.bl (ys.any fun z => z.eqv x)) else none
  | _ => none
def D.notIn (x y : D) : Option D := match y with
  | .lst ys => if (x.fit 50 && D.fits ys 50) = true then some (.bl (!ys.any fun z => z.eqv x)) else none
  | .tup ys => if (x.fit 50 && D.fits ys 50) = true then some (.bl (!ys.any fun z => z.eqv x)) else none
  | _ => none
def rInP (K : PySem.W.Frag) (neg : Bool) : R2 := fun x y H Q => ∃ d ds, Dp K H x d ∧ (Dp K H y (.list ds) ∨ Dp K H y (.tuple ds)) ∧ d.plain = true ∧ PyData.plainAll ds = true ∧ d.depth ≤ 50 ∧ Q (.bl (xor neg (ds.any fun z => PyData.eqv z d))) H
theorem op_inP {X : Cx} (hu : X.A.units + 64 < cLine) : OpR X (compareOp .In) (rInP X.K false) := by
  intro pins s σ H x y v u Q I rx ry h
  obtain ⟨d, ds, hd, he, sd, se, dd, q⟩ := h
  obtain ⟨as, r1⟩ := Dp.reads I d x v hd rx
  have m := Nat.min_le_right (PyData.depthAll ds) d.depth
  rcases he with he | he
  · obtain ⟨bs, r2⟩ := Dp.reads I _ y u he ry
    exact SeqAt.in_list_data r2 r1 se sd (by omega) ⟨.bl _, H, I, rfl, by simpa using q⟩
  · obtain ⟨bs, r2⟩ := Dp.reads I _ y u he ry
    exact SeqAt.in_tuple_data r2 r1 se sd (by omega) ⟨.bl _, H, I, rfl, by simpa using q⟩
theorem op_notInP {X : Cx} (hu : X.A.units + 64 < cLine) : OpR X (compareOp .NotIn) (rInP X.K true) := by
  intro pins s σ H x y v u Q I rx ry h
  obtain ⟨d, ds, hd, he, sd, se, dd, q⟩ := h
  obtain ⟨as, r1⟩ := Dp.reads I d x v hd rx
  have m := Nat.min_le_right (PyData.depthAll ds) d.depth
  rcases he with he | he
  · obtain ⟨bs, r2⟩ := Dp.reads I _ y u he ry
    exact SeqAt.notIn_list_data r2 r1 se sd (by omega) ⟨.bl _, H, I, rfl, by simpa using q⟩
  · obtain ⟨bs, r2⟩ := Dp.reads I _ y u he ry
    exact SeqAt.notIn_tuple_data r2 r1 se sd (by omega) ⟨.bl _, H, I, rfl, by simpa using q⟩
theorem toPs_map : ∀ ds : List D, D.toPs ds = ds.map D.toP
  | [] => rfl
  | d :: ds => by simp only [D.toPs, List.map_cons, toPs_map ds]
theorem in_d (neg : Bool) {g : D → D → Option D} (hg : ∀ x y d, g x y = some d → ∃ ys, (y = .lst ys ∨ y = .tup ys) ∧ x.fit 50 = true ∧ D.fits ys 50 = true ∧ d = .bl (xor neg (ys.any fun z => z.eqv x))) : OpD K (rInP K neg) g := fun W H v1 v2 d1 d2 d Q wf r1 r2 h k => by
  obtain ⟨ys, e, f1, f2, rfl⟩ := hg _ _ _ h
  refine ⟨d1.toP, D.toPs ys, fit_dq f1 r1, ?_, toP_plain _, toPs_plain _, fit_depth f1, k _ H (.refl _) ?_⟩
  · rcases e with rfl | rfl
    · obtain ⟨a, vs, rfl, q, z, rs⟩ := rq_lstH r2
      exact .inl (.lst (.of q) (fits_dp f2 rs))
    · obtain ⟨a, vs, rfl, q, z, rs⟩ := rq_tup r2
      exact .inr (.tup q.sqt (fits_dp f2 rs))
  · rw [toPs_map, List.any_map]
    exact .bl _
theorem isIn_d : OpD K (rInP K false) D.isIn := in_d false fun x y d h => by
  unfold D.isIn at h
  split at h
  · rename_i ys
    by_cases c : (x.fit 50 && D.fits ys 50) = true
    · rw [if_pos c] at h; cases h
      have c' := Bool.and_eq_true_iff.mp c
      exact ⟨ys, .inl rfl, c'.1, c'.2, by simp⟩
    · rw [if_neg c] at h; cases h
  · rename_i ys
    by_cases c : (x.fit 50 && D.fits ys 50) = true
    · rw [if_pos c] at h; cases h
      have c' := Bool.and_eq_true_iff.mp c
      exact ⟨ys, .inr rfl, c'.1, c'.2, by simp⟩
    · rw [if_neg c] at h; cases h
  · cases h
theorem notIn_d : OpD K (rInP K true) D.notIn := in_d true fun x y d h => by
  unfold D.notIn at h
  split at h
  · rename_i ys
    by_cases c : (x.fit 50 && D.fits ys 50) = true
    · rw [if_pos c] at h; cases h
      have c' := Bool.and_eq_true_iff.mp c
      exact ⟨ys, .inl rfl, c'.1, c'.2, by simp⟩
    · rw [if_neg c] at h; cases h
  · rename_i ys
    by_cases c : (x.fit 50 && D.fits ys 50) = true
    · rw [if_pos c] at h; cases h
      have c' := Bool.and_eq_true_iff.mp c
      exact ⟨ys, .inr rfl, c'.1, c'.2, by simp⟩
    · rw [if_neg c] at h; cases h
  · cases h
end
/-- -e of an int -/
def D.neg : D → Option D
  | .int i => some (.int (-i))
  | _ => none
def eUn (g : D → Option D) (f : Ex) : Ex := fun ρ S => (f ρ S).bind fun p => (g p.1).map fun z => (z, p.2)
theorem e_neg {X : Cx} {a : Expr} {f : Ex} {pos : Pos} (h : B X a f) : E X (.UnaryOp .USub a pos) (eUn D.neg f) := pe_imp (pe_un un_neg h) fun σ H Q ⟨W, ρ, S, d, S', rl, hf, k⟩ => by
  unfold eUn at hf
  cases e1 : f ρ S with
  | none => rw [e1] at hf; cases hf
  | some p =>
    rw [e1, Option.bind_some] at hf
    obtain ⟨x, S1⟩ := p
    cases x with
    | int i =>
      cases hf
      exact ⟨W, ρ, S, _, _, rl, e1, fun v H1 s1 st1 r1 => ⟨i, rq_int r1, k _ H1 s1 st1 (.int _)⟩⟩
    | _ => cases hf
end DL

set_option Elab.async false
set_option linter.all false
set_option maxRecDepth 100000
namespace DL
open PySem PySem.Spec PyProof.Rows L2

/-! ## 12. built-in functions -/
section
variable {K : PySem.W.Frag} {W : Wd} {H : Hp}
theorem rqs1 {vs : List V} {d : D} (r : Rqs K W H vs [d]) : ∃ v, vs = [v] ∧ Rq K W H v d := by
  cases r with
  | cons a b => cases b; exact ⟨_, rfl, a⟩
theorem rqs2 {vs : List V} {d d' : D} (r : Rqs K W H vs [d, d']) : ∃ v v', vs = [v, v'] ∧ Rq K W H v d ∧ Rq K W H v' d' := by
  cases r with
  | cons a b =>
    cases b with
    | cons a' b => cases b; exact ⟨_, _, rfl, a, a'⟩
def gGcd : List D → Option D
  | [.int a, .int b] => some (.int ((Nat.gcd a.natAbs b.natAbs : Nat) : Int))
  | _ => none
theorem gcd_d : CallD K rGcd gGcd := fun W H vs ds d Q wf r h k => by
  unfold gGcd at h
  split at h
  · cases h
    obtain ⟨v, v', rfl, r1, r2⟩ := rqs2 r
    exact ⟨_, _, by rw [rq_int r1, rq_int r2], k _ H (.refl _) (.int _)⟩
  · cases h
def gAbs : List D → Option D
  | [.int i] => some (.int (if i < 0 then -i else i))
  | _ => none
theorem abs_d : CallD K (fun xs H Q => ∃ i, xs = [.int i] ∧ Q (.int (if i < 0 then -i else i)) H) gAbs := fun W H vs ds d Q wf r h k => by
  unfold gAbs at h
  split at h
  · cases h
    obtain ⟨v, rfl, r1⟩ := rqs1 r
    exact ⟨_, by rw [rq_int r1], k _ H (.refl _) (.int _)⟩
  · cases h
def gMax2 : List D → Option D
  | [.int i, .int j] => some (.int (if j > i then j else i))
  | _ => none
theorem max2_d : CallD K (fun xs H Q => ∃ i j, xs = [.int i, .int j] ∧ Q (.int (if j > i then j else i)) H) gMax2 := fun W H vs ds d Q wf r h k => by
  unfold gMax2 at h
  split at h
  · cases h
    obtain ⟨v, v', rfl, r1, r2⟩ := rqs2 r
    exact ⟨_, _, by rw [rq_int r1, rq_int r2], k _ H (.refl _) (.int _)⟩
  · cases h
def gMin2 : List D → Option D
  | [.int i, .int j] => some (.int (if j < i then j else i))
  | _ => none
theorem min2_d : CallD K (fun xs H Q => ∃ i j, xs = [.int i, .int j] ∧ Q (.int (if j < i then j else i)) H) gMin2 := fun W H vs ds d Q wf r h k => by
  unfold gMin2 at h
  split at h
  · cases h
    obtain ⟨v, v', rfl, r1, r2⟩ := rqs2 r
    exact ⟨_, _, by rw [rq_int r1, rq_int r2], k _ H (.refl _) (.int _)⟩
  · cases h
def gInt : List D → Option D
  | [.int i] => some (.int i)
  | [.bl b] => some (.int (if b then 1 else 0))
  | _ => none
theorem int_c : CallD K (fun xs H Q => (∃ i, xs = [.int i] ∧ Q (.int i) H) ∨ ∃ k, xs = [.bl k] ∧ Q (.int (if k then 1 else 0)) H) gInt := fun W H vs ds d Q wf r h k => by
  unfold gInt at h
  split at h
  · cases h
    obtain ⟨v, rfl, r1⟩ := rqs1 r
    exact .inl ⟨_, by rw [rq_int r1], k _ H (.refl _) (.int _)⟩
  · cases h
    obtain ⟨v, rfl, r1⟩ := rqs1 r
    exact .inr ⟨_, by rw [rp_bl r1], k _ H (.refl _) (.int _)⟩
  · cases h
def gLen : List D → Option D
  | [.lst xs] => some (.int xs.length)
  | [.tup xs] => some (.int xs.length)
  | [.str x] => if x.length ≤ sizeLine then some (.int x.length) else none
  | _ => none
theorem len_d : CallD K (fun xs H Q => ∃ x n, xs = [x] ∧ LenV K x H n ∧ Q (.int (n : Nat)) H) gLen := fun W H vs ds d Q wf r h k => by
  unfold gLen at h
  split at h
  · cases h
    obtain ⟨v, rfl, r1⟩ := rqs1 r
    obtain ⟨a, ws, rfl, q, z, rs⟩ := rq_lstH r1
    exact ⟨_, ws.length, rfl, .inl ⟨_, .of q, rfl⟩, k _ H (.refl _) (by rw [rs.length]; exact .int _)⟩
  · cases h
    obtain ⟨v, rfl, r1⟩ := rqs1 r
    obtain ⟨a, ws, rfl, q, z, rs⟩ := rq_tup r1
    exact ⟨_, ws.length, rfl, .inr ⟨_, q.sqt, rfl⟩, k _ H (.refl _) (by rw [rs.length]; exact .int _)⟩
  · rename_i x
    by_cases z : x.length ≤ sizeLine
    · rw [if_pos z] at h; cases h
      obtain ⟨v, rfl, r1⟩ := rqs1 r
      exact ⟨.str x, x.length, by rw [rq_str r1], ⟨z, rfl⟩, k _ H (.refl _) (.int _)⟩
    · rw [if_neg z] at h; cases h
  · cases h
/-- all are ints -/
def intsOf : List D → Option (List Int)
  | [] => some []
  | .int i :: r => (intsOf r).map (i :: ·)
  | _ => none
theorem intsOf_rps : ∀ {ds : List D} {vs : List V} {ns : List Int}, intsOf ds = some ns → Rps K W H vs ds → vs = ns.map V.int
  | [], vs, ns, h, r => by cases h; cases r; rfl
  | .int i :: ds, vs, ns, h, r => by
    simp only [intsOf] at h
    obtain ⟨ms, h1, rfl⟩ := Option.map_eq_some_iff.mp h
    cases r with
    | cons a b => rw [rp_int a, intsOf_rps h1 b]; rfl
  | .non :: _, _, _, h, _ => by simp [intsOf] at h
  | .bl _ :: _, _, _, h, _ => by simp [intsOf] at h
  | .str _ :: _, _, _, h, _ => by simp [intsOf] at h
  | .ty _ :: _, _, _, h, _ => by simp [intsOf] at h
  | .tup _ :: _, _, _, h, _ => by simp [intsOf] at h
  | .lst _ :: _, _, _, h, _ => by simp [intsOf] at h
  | .ref _ :: _, _, _, h, _ => by simp [intsOf] at h
  | .scr _ :: _, _, _, h, _ => by simp [intsOf] at h
  | .dct _ _ :: _, _, _, h, _ => by simp [intsOf] at h
theorem intsOf_map : ∀ ns : List Int, intsOf (ns.map D.int) = some ns
  | [] => rfl
  | n :: ns => by simp [intsOf, intsOf_map ns]
/-- all are truth values -/
def boolsOf : List D → Option (List Bool)
  | [] => some []
  | .bl i :: r => (boolsOf r).map (i :: ·)
  | _ => none
theorem boolsOf_rps : ∀ {ds : List D} {vs : List V} {ns : List Bool}, boolsOf ds = some ns → Rps K W H vs ds → vs = ns.map V.bl
  | [], vs, ns, h, r => by cases h; cases r; rfl
  | .bl i :: ds, vs, ns, h, r => by
    simp only [boolsOf] at h
    obtain ⟨ms, h1, rfl⟩ := Option.map_eq_some_iff.mp h
    cases r with
    | cons a b => rw [rp_bl (.of a), boolsOf_rps h1 b]; rfl
  | .non :: _, _, _, h, _ => by simp [boolsOf] at h
  | .int _ :: _, _, _, h, _ => by simp [boolsOf] at h
  | .str _ :: _, _, _, h, _ => by simp [boolsOf] at h
  | .ty _ :: _, _, _, h, _ => by simp [boolsOf] at h
  | .tup _ :: _, _, _, h, _ => by simp [boolsOf] at h
  | .lst _ :: _, _, _, h, _ => by simp [boolsOf] at h
  | .ref _ :: _, _, _, h, _ => by simp [boolsOf] at h
  | .scr _ :: _, _, _, h, _ => by simp [boolsOf] at h
  | .dct _ _ :: _, _, _, h, _ => by simp [boolsOf] at h
theorem boolsOf_map : ∀ ns : List Bool, boolsOf (ns.map D.bl) = some ns
  | [] => rfl
  | n :: ns => by simp [boolsOf, boolsOf_map ns]
def gSum : List D → Option D
  | [.lst xs] => (intsOf xs).map fun ns => .int ns.sum
  | _ => none
theorem sum_d : CallD K (rSum K) gSum := fun W H vs ds d Q wf r h k => by
  unfold gSum at h
  split at h
  · obtain ⟨ns, e1, rfl⟩ := Option.map_eq_some_iff.mp h
    obtain ⟨v, rfl, r1⟩ := rqs1 r
    obtain ⟨a, ws, rfl, q, z, rs⟩ := rq_lstH r1
    exact ⟨a, ns, rfl, by rw [← intsOf_rps e1 rs]; exact .of q, k _ H (.refl _) (.int _)⟩
  · cases h
def gAll : List D → Option D
  | [.lst xs] => (boolsOf xs).map fun ns => .bl (ns.all id)
  | _ => none
theorem all_d : CallD K (rAll K) gAll := fun W H vs ds d Q wf r h k => by
  unfold gAll at h
  split at h
  · obtain ⟨ns, e1, rfl⟩ := Option.map_eq_some_iff.mp h
    obtain ⟨v, rfl, r1⟩ := rqs1 r
    obtain ⟨a, ws, rfl, q, z, rs⟩ := rq_lstH r1
    exact ⟨a, ns, rfl, by rw [← boolsOf_rps e1 rs]; exact .of q, k _ H (.refl _) (.bl _)⟩
  · cases h
def gAny : List D → Option D
  | [.lst xs] => (boolsOf xs).map fun ns => .bl (ns.any id)
  | _ => none
theorem any_d : CallD K (rAny K) gAny := fun W H vs ds d Q wf r h k => by
  unfold gAny at h
  split at h
  · obtain ⟨ns, e1, rfl⟩ := Option.map_eq_some_iff.mp h
    obtain ⟨v, rfl, r1⟩ := rqs1 r
    obtain ⟨a, ws, rfl, q, z, rs⟩ := rq_lstH r1
    exact ⟨a, ns, rfl, by rw [← boolsOf_rps e1 rs]; exact .of q, k _ H (.refl _) (.bl _)⟩
  · cases h
def gTuple : List D → Option D
  | [.lst xs] => some (.tup xs)
  | [.tup xs] => some (.tup xs)
  | _ => none
theorem tuple_d : CallD K (rTupleZ K) gTuple := fun W H vs ds d Q wf r h k => by
  unfold gTuple at h
  split at h
  · cases h
    obtain ⟨v, rfl, r1⟩ := rqs1 r
    obtain ⟨a, ws, rfl, q, z, rs⟩ := rq_lstH r1
    refine ⟨a, ws, rfl, .inl ⟨.of q, fun l o hl ho => ?_⟩⟩
    have sm : Same H (upd H l (.frz o (.tup ws))) := upd_Same hl
    exact k _ _ sm (.tup (.new ho) z (rs.stepE (.same sm)))
  · cases h
    obtain ⟨v, rfl, r1⟩ := rqs1 r
    obtain ⟨a, ws, rfl, q, z, rs⟩ := rq_tup r1
    exact ⟨a, ws, rfl, .inr ⟨q.sqt, k _ H (.refl _) (.tup q z rs)⟩⟩
  · cases h
def gList : List D → Option D
  | [.lst xs] => some (.lst xs)
  | [.tup xs] => some (.lst xs)
  | _ => none
theorem list_f : CallF K (fun xs H Q => ∃ p ys, xs = [.ref p] ∧ (SqL K H p ys ∨ SqT K H p ys) ∧ ∀ l, H l = none → Q (.ref l) (upd H l (.lst ys))) gList := fun W H vs ds d Q wf r h k => by
  unfold gList at h
  split at h
  · cases h
    obtain ⟨v, rfl, r1⟩ := rqs1 r
    obtain ⟨a, ws, rfl, q, z, rs⟩ := rq_lstH r1
    exact ⟨a, ws, rfl, .inl (.of q), fun l hl => k l _ hl z rs⟩
  · cases h
    obtain ⟨v, rfl, r1⟩ := rqs1 r
    obtain ⟨a, ws, rfl, q, z, rs⟩ := rq_tup r1
    exact ⟨a, ws, rfl, .inr q.sqt, fun l hl => k l _ hl z rs⟩
  · cases h
/-! isinstance -/
def D.isA : D → String → Option Bool
  | .non, n => kitB "NoneType" n
  | .bl _, n => kitB "bool" n
  | .int _, n => kitB "int" n
  | .str _, n => kitB "str" n
  | .tup _, n => kitB "tuple" n
  | .lst _, n => kitB "list" n
  | .dct _ _, n => kitB "dict" n
  | _, _ => none
theorem sqt_tyx {a : Addr} {vs : List V} (h : SqT K H a vs) : TyX K H (.ref a) (.type "tuple") := by
  rcases h with (h | ⟨o, h⟩) | ⟨o, its, n, h, hc, _⟩
  · exact .base (.tup h)
  · exact .fTuple h
  · exact .kTuple h hc
def gIsi : List D → Option D
  | [d, .ty n] => (d.isA n).map .bl
  | _ => none
theorem isi_d : CallD K (rIsi K) gIsi := fun W H vs ds d Q wf r h k => by
  unfold gIsi at h
  split at h
  · rename_i d1 n
    obtain ⟨b, e1, rfl⟩ := Option.map_eq_some_iff.mp h
    obtain ⟨v, v', rfl, r1, r2⟩ := rqs2 r
    have fin : ∀ {T : String}, TyX K H v (.type T) → kitB T n = some b → rIsi K [v, v'] H Q := fun t e => ⟨v, v', _, _, b, rfl, by rw [rq_ty r2]; exact .ty n, t, kit_ty e, k _ H (.refl _) (.bl _)⟩
    cases r1 with
    | of r1 =>
      cases r1 with
      | non => exact fin (.base .non) e1
      | bl b => exact fin (.base (.bl b)) e1
      | int i => exact fin (.base (.int i)) e1
      | str x => exact fin (.base (.str x)) e1
      | tup q z rs => exact fin (sqt_tyx q.sqt) e1
      | lst n q z rs => exact fin (.base (.lst q)) e1
      | dct n q z rs => exact fin (.base (.dK q)) e1
      | _ => cases e1
    | lst n q z rs => exact fin (.base (.lst q)) e1
    | dct n q z rs => exact fin (.base (.dK q)) e1
  · cases h
/-! sorted -/
def D.le' (a b : D) : Bool := !PySem.W.dataLt b.toP a.toP
def D.neTup : D → Bool
  | .tup (_ :: _) => true
  | _ => false
def D.plainKey : D → Bool
  | .bl _ => true
  | .int _ => true
  | .str _ => true
  | .lst _ => true
  | _ => false
def canSort (xs : List D) : Bool := xs.all (fun x => x.fit 40) && (xs.all fun x => xs.all fun y => PySem.W.alike x.toP y.toP) && (xs.all D.neTup || xs.all D.plainKey)
def gSorted : List D → Option D
  | [.lst xs] => if canSort xs = true then some (.lst (xs.mergeSort D.le')) else none
  | [.tup xs] => if canSort xs = true then some (.lst (xs.mergeSort D.le')) else none
  | _ => none
end
end DL
namespace DL
open PySem PySem.W PySem.Calls PyProof.Rows
section
variable {P : Program} {w : World} {A : Around} {E : Value → Shared → Prop} {s : Shared}
/-- sorted(x), x a list or a tuple of data: a new list at p, all else as it was -/
theorem sorted_seq (k : Kd) {β : Type} {F : Value → β → Prop} {enc : β → PyData} {vs : List Value} {bs : List β} {a : Addr} {Q : Value → Shared → Prop} (has : k.Has s.heap a vs.toArray) (each : EachIs F vs bs) (rd : EachIs (fun v b => ∃ as, Reads s.heap v (enc b) as) vs bs)
    (alike : AllAlike (bs.map enc)) (able : Sortable (bs.map enc)) (small : bs.length ≤ sizeLine) (room : ∀ b, b ∈ bs → A.units + 2 + (enc b).depth < cLine)
    (fin : ∀ (h1 h' : Heap) (c : Nat) (out : List Value), (∀ b o, s.heap.get? b = some o → h1.get? b = some o) → (∀ b o, h1.get? b = some o → h'.get? b = some o) → h'.get? h1.objs.size = some (seqObj "list" out.toArray c) → EachIs F out (bs.mergeSort (dataLe false enc)) → Q (.ref h1.objs.size) { s with heap := h' }) :
    wpAny (model P w) A (call (.builtin "sorted") [.ref a]) Q E s := by
  have len : vs.length ≤ sizeLine := by rw [each.length]; exact small
  have src : ∃ T o n, (T = "list" ∨ T = "tuple") ∧ s.heap.get? a = some o ∧ o.cls = .type T ∧ o.data = .seq vs.toArray n := match k, has with
    | .l, ⟨o, e, c, n, d⟩ => ⟨_, o, n, .inl rfl, e, c, d⟩
    | .t, ⟨o, e, c, n, d⟩ => ⟨_, o, n, .inr rfl, e, c, d⟩
  obtain ⟨T, o, n, hT, e0, c0, d0⟩ := src
  refine call_function_entry kind_sorted plain_sorted entry_sorted (args_sorted1 _) ?_
  unfold Builtin.«sorted»
  refine wpAny_bind (m := checkCount "sorted" 1 1 _) (wpAny_pure (wpAny_bind (wpAny_collect_seq a hT e0 c0 d0 (fun h1 old => wpAny_bind (wpAny_newList ?_ len)) (by simpa using len))))
  have at_ : (h1.push (seqObj "list" vs.toArray 0)).get? h1.objs.size = some (seqObj "list" vs.toArray 0) := Heap.get?_push_size _ rfl
  have mid : ∀ b o, s.heap.get? b = some o → (sortingHeap (h1.push (seqObj "list" vs.toArray 0)) h1.objs.size vs).get? b = some o := fun b o q => sortingHeap_old (Nat.ne_of_lt (Heap.lt_size (old b o q))) (Heap.get?_push_of_some _ (old b o q))
  have rd' : EachIs (fun v b => ∃ as, Reads (sortingHeap (h1.push (seqObj "list" vs.toArray 0)) h1.objs.size vs) v (enc b) as) vs bs := rd.mono fun _ _ ⟨as, r⟩ => ⟨as, PyProof.Rows.Reads.keeps mid r⟩
  obtain ⟨c, there⟩ := sortedHeap_at (out := (sortVals (dataKind (sortingHeap (h1.push (seqObj "list" vs.toArray 0)) h1.objs.size vs) (bs.map enc)) false vs vs).toArray) at_
  have S := SortsAt.data (prog := P) (w := w) (A := A.in1.in1) (s := { s with heap := sortingHeap (h1.push (seqObj "list" vs.toArray 0)) h1.objs.size vs }) (each_map (R := fun v d => ∃ as, Reads (sortingHeap (h1.push (seqObj "list" vs.toArray 0)) h1.objs.size vs) v d as) enc rd') alike able (bound_map room)
  refine wpAny_bind (wpAny_holding (wpAny_call_entry slot_list_sort ⟨_, at_, rfl⟩ entry_list_sort (list_sort_vals (s := { s with heap := h1.push (seqObj "list" vs.toArray 0) }) at_ S len ⟨_, rfl, wpAny_pure ⟨_, rfl, ?_⟩⟩) (args_list_sort _)))
  refine fin h1 _ c _ old (fun b o q => ?_) there (sortVals_data false each rd' alike)
  have lt := Heap.lt_size q
  exact (sortedHeap_old (Nat.ne_of_lt lt) (by rw [size_push']; exact Nat.lt_succ_of_lt lt)).trans (Heap.get?_push_of_some _ q)
end
end DL
namespace DL
open PySem PySem.Spec PyProof.Rows L2
/-- sorted(x), x a list or a tuple of data -/
def rSortedD (K : PySem.W.Frag) : List V → Hp → VK → Prop := fun xs H Q => ∃ (a : Addr) (vs : List V) (ps : List PyData), xs = [.ref a] ∧ (SqL K H a vs ∨ SqT K H a vs) ∧ DpAll K H vs ps ∧ PySem.W.AllAlike ps ∧ PySem.W.Sortable ps ∧ (∀ p ∈ ps, p.depth ≤ 40) ∧ vs.length ≤ sizeLine ∧
  ∀ p, H p = none → Q (.ref p) (upd H p (.lst (((vs.zip ps).mergeSort (PySem.W.dataLe false (·.2))).map (·.1))))
section
variable {X : Cx}
theorem each_of {α β γ : Type} {F : α → β → Prop} : ∀ {xs : List α} {us : List β}, Paired F xs us → ∀ {ps : List γ}, xs.length = ps.length → PySem.W.EachIs (fun u (b : α × γ) => F b.1 u) us (xs.zip ps)
  | _, _, .nil, [], _ => .nil
  | _, _, .cons a r, p :: ps, h => .cons a (each_of r (by simpa using h))
theorem dp_each {pins : List (Addr × Obj)} {σ : L2.St} {H : Hp} {s : Shared} (I : Inv X pins σ H s) : ∀ {vs : List V} {us : List Value} {ps : List PyData}, Vals vs us → DpAll X.K H vs ps → PySem.W.EachIs (fun u (b : V × PyData) => ∃ as, Reads s.heap u b.2 as) us (vs.zip ps)
  | _, _, _, .nil, .nil => .nil
  | _, _, _, .cons a r, .cons d t => .cons (Dp.reads I _ _ _ d a) (dp_each I r t)
theorem dpAll_length {K : PySem.W.Frag} {H : Hp} : ∀ {vs : List V} {ps : List PyData}, DpAll K H vs ps → vs.length = ps.length
  | _, _, .nil => rfl
  | _, _, .cons _ t => by simp [dpAll_length t]
theorem each_vals {γ : Type} : ∀ {us : List Value} {bs : List (V × γ)}, PySem.W.EachIs (fun u (b : V × γ) => RelV b.1 u) us bs → Vals (bs.map (·.1)) us
  | _, _, .nil => .nil
  | _, _, .cons a r => .cons a (each_vals r)
theorem zip_snd {α β : Type} : ∀ {xs : List α} {ys : List β}, xs.length = ys.length → (xs.zip ys).map (·.2) = ys
  | [], [], _ => rfl
  | _ :: xs, _ :: ys, h => by simp [zip_snd (xs := xs) (ys := ys) (by simpa using h)]
theorem cr_sortedD (hu : X.A.units + 64 < cLine) : CallR X (.builtin "sorted") (rSortedD X.K) := by
  rintro pins s σ H _ us Q I r ⟨a, vs, ps, rfl, src, dp, alike, able, deep, small, q⟩
  obtain ⟨_, rfl, e⟩ := vals1 r
  cases e
  have len := dpAll_length dp
  have snd : (vs.zip ps).map (·.2) = ps := zip_snd len
  have short : (vs.zip ps).length ≤ sizeLine := by rw [List.length_zip]; exact Nat.le_trans (Nat.min_le_left _ _) small
  obtain ⟨k, sq⟩ : ∃ k : Kd, k.Sq X.K H a vs := src.elim (fun x => ⟨.l, x⟩) fun x => ⟨.t, x⟩
  obtain ⟨its, rv, has⟩ := k.told I sq
  refine sorted_seq k (enc := fun b : V × PyData => b.2) has (each_of rv len) (dp_each I rv dp) (by rw [snd]; exact alike) (by rw [snd]; exact able) short (fun b hb => ?_) fun h1 h' c out old1 old2 at_ each => ?_
  · have := deep b.2 (List.of_mem_zip hb).2
    omega
  · have J : Inv X pins σ H { s with heap := h1 } := I.kept (t' := s.toks) old1
    refine ⟨.ref h1.objs.size, _, J.laid (t' := s.toks) (o := .lst (((vs.zip ps).mergeSort (PySem.W.dataLe false (·.2))).map (·.1))) old2 (Nat.le_refl _) ⟨?_, out, c, each_vals each, at_⟩, rfl, q _ (J.hok.fresh (Nat.le_refl _))⟩
    rw [List.length_map, List.length_mergeSort]
    exact short
end
section
variable {K : PySem.W.Frag} {W : Wd} {H : Hp}
theorem rps_zip : ∀ {vs : List V} {xs : List D}, Rps K W H vs xs → ∀ p ∈ vs.zip xs, Rp K W H p.1 p.2
  | _, _, .nil, p, h => by simp at h
  | _, _, .cons a b, p, h => by
    rw [List.zip_cons_cons, List.mem_cons] at h
    rcases h with rfl | h
    · exact a
    · exact rps_zip b p h
theorem rps_pairs : ∀ {l : List (V × D)}, (∀ p ∈ l, Rp K W H p.1 p.2) → Rps K W H (l.map (·.1)) (l.map (·.2))
  | [], _ => .nil
  | p :: l, h => .cons (h p List.mem_cons_self) (rps_pairs fun q hq => h q (List.mem_cons_of_mem _ hq))
theorem zip_map_snd {α β γ : Type} (f : β → γ) : ∀ (xs : List α) (ys : List β), xs.zip (ys.map f) = (xs.zip ys).map fun p => (p.1, f p.2)
  | [], _ => by simp
  | _ :: _, [] => by simp
  | x :: xs, y :: ys => by simp [zip_map_snd f xs ys]
theorem sort_pairs (vs : List V) (xs : List D) (h : vs.length = xs.length) :
    ((vs.zip (xs.map D.toP)).mergeSort (PySem.W.dataLe false (·.2))).map (·.1) = ((vs.zip xs).mergeSort fun p q => D.le' p.2 q.2).map (·.1) ∧ xs.mergeSort D.le' = ((vs.zip xs).mergeSort fun p q => D.le' p.2 q.2).map (·.2) := by
  constructor
  · rw [zip_map_snd, ← List.map_mergeSort (r := fun p q => D.le' p.2 q.2) (fun a _ b _ => rfl), List.map_map]
    rfl
  · rw [List.map_mergeSort (s := D.le') (fun a _ b _ => rfl), zip_snd h]
theorem neTup_toP {d : D} (h : d.neTup = true) : ∃ x r, d.toP = .tuple (x :: r) := by
  cases d with
  | tup xs =>
    cases xs with
    | nil => cases h
    | cons x xs => exact ⟨_, _, rfl⟩
  | _ => cases h
theorem plainKey_toP {d : D} (h : d.plainKey = true) : d.toP ≠ .none ∧ ∀ xs, d.toP ≠ .tuple xs := by
  cases d with
  | bl b => exact ⟨(fun z => nomatch z), (fun _ z => nomatch z)⟩
  | int b => exact ⟨(fun z => nomatch z), (fun _ z => nomatch z)⟩
  | str b => exact ⟨(fun z => nomatch z), (fun _ z => nomatch z)⟩
  | lst b => exact ⟨(fun z => nomatch z), (fun _ z => nomatch z)⟩
  | _ => cases h
theorem sorted_at {xs : List D} {a : Addr} {vs : List V} {Q : VK} (hs : SqL K H a vs ∨ SqT K H a vs) (z : vs.length ≤ sizeLine) (rs : Rps K W H vs xs) (c : canSort xs = true) (k : NewOk K W H Q (.lst (xs.mergeSort D.le'))) : rSortedD K [.ref a] H Q := by
  unfold canSort at c
  simp only [Bool.and_eq_true, List.all_eq_true] at c
  obtain ⟨⟨c1, c2⟩, c3⟩ := c
  have hfit : D.fits xs 40 = true := by
    have : ∀ ys : List D, (∀ x ∈ ys, x.fit 40 = true) → D.fits ys 40 = true := fun ys => by
      induction ys with
      | nil => intro _; rfl
      | cons y ys ih => intro h; simp only [D.fits, h y List.mem_cons_self, ih fun x hx => h x (List.mem_cons_of_mem _ hx), Bool.and_self]
    exact this xs c1
  obtain ⟨q1, q2⟩ := sort_pairs vs xs rs.length
  refine ⟨a, vs, D.toPs xs, rfl, hs, fits_dp hfit rs, ?_, ?_, ?_, z, fun p hp => ?_⟩
  · rw [toPs_map]
    intro d hd d' hd'
    obtain ⟨x, hx, rfl⟩ := List.mem_map.mp hd
    obtain ⟨y, hy, rfl⟩ := List.mem_map.mp hd'
    exact c2 x hx y hy
  · rw [toPs_map]
    rcases Bool.or_eq_true_iff.mp c3 with c3 | c3
    · refine .inl fun d hd => ?_
      obtain ⟨x, hx, rfl⟩ := List.mem_map.mp hd
      exact neTup_toP (List.all_eq_true.mp c3 x hx)
    · refine .inr fun d hd => ?_
      obtain ⟨x, hx, rfl⟩ := List.mem_map.mp hd
      exact plainKey_toP (List.all_eq_true.mp c3 x hx)
  · rw [toPs_map]
    intro d hd
    obtain ⟨x, hx, rfl⟩ := List.mem_map.mp hd
    exact fit_depth (c1 x hx)
  · rw [toPs_map, q1]
    have rs' : Rps K W H (((vs.zip xs).mergeSort fun p q => D.le' p.2 q.2).map (·.1)) (xs.mergeSort D.le') := by
      rw [q2]
      exact rps_pairs fun p hp => rps_zip rs p ((List.mergeSort_perm _ _).mem_iff.mp hp)
    refine k p _ hp ?_ rs'
    rw [List.length_map, List.length_mergeSort, List.length_zip]
    exact Nat.le_trans (Nat.min_le_left _ _) z
theorem sorted_f : CallF K (rSortedD K) gSorted := fun W H vs ds d Q wf r h k => by
  unfold gSorted at h
  split at h
  · rename_i xs
    by_cases c : canSort xs = true
    · rw [if_pos c] at h; cases h
      obtain ⟨v, rfl, r1⟩ := rqs1 r
      obtain ⟨a, ws, rfl, q, z, rs⟩ := rq_lstH r1
      exact sorted_at (.inl (.of q)) z rs c k
    · rw [if_neg c] at h; cases h
  · rename_i xs
    by_cases c : canSort xs = true
    · rw [if_pos c] at h; cases h
      obtain ⟨v, rfl, r1⟩ := rqs1 r
      obtain ⟨a, ws, rfl, q, z, rs⟩ := rq_tup r1
      exact sorted_at (.inr q.sqt) z rs c k
    · rw [if_neg c] at h; cases h
  · cases h
end
end DL

set_option Elab.async false
set_option linter.all false
set_option maxRecDepth 100000
/-! ## zip over drawn sources whose last pair is still in use -/
namespace DL
open PySem PySem.Spec PyProof.Rows L2
section
variable {P : Program} {w : World} {A : Around} {E : Value → Shared → Prop} {s : Shared} {z TI TO T i1 i2 : Addr} {f1 f2 : List Addr} {n1 n2 i : Nat} {P1 P2 : Nat → Value → Prop} {S1 S2 : Nat → Heap → Prop} {fl : Bool} {oT : Obj}
theorem held_item {Q : Fin → Shared → Prop} (S : ZipSep2 z TI TO i1 i2 f1 f2) (D1 : Draws P w A i1 f1 n1 P1 S1) (D2 : Draws P w A i2 f2 n2 P2 S2) (hz : IsZipHeld s.heap z TI TO T fl) (hT : s.heap.get? T = some oT) (hI : IsTupOf2 s.heap TI (.ref i1) (.ref i2))
    (a1 : S1 i s.heap) (a2 : S2 i s.heap) (l1 : i < n1) (l2 : i < n2)
    (next : ∀ u v h' tk, P1 i u → P2 i v → IsZipHeld h' z TI TO T true → S1 (i + 1) h' → S2 (i + 1) h' → h'.get? s.heap.objs.size = some (pairObj u v) → h'.objs.size = s.heap.objs.size + 1 →
      (∀ c o, c ≠ z → c ≠ i1 → c ≠ i2 → s.heap.get? c = some o → h'.get? c = some o) → Q (.done (.ret (.ref s.heap.objs.size))) { s with heap := h', toks := tk }) :
    wpAny (model P w) A (Builtin.«zip.__next__» ⟨[.ref z], []⟩) Q E s := by
  unfold Builtin.«zip.__next__»
  refine wpAny_bind (m := slotArgs "__next__" 0 _) (wpAny_pure ?_)
  refine wpAny_bind (wpAny_field hz rfl rfl ?_)
  refine wpAny_bind (wpAny_field hz rfl rfl ?_)
  refine wpAny_bind (wpAny_seqItems hI rfl ?_)
  refine wpAny_bind (wpAny_tupleHeld_zip hz hT fun h1 z1 o1 => ?_)
  have b1 := D1.over a1 o1 S.zf1
  have b2 := D2.over a2 o1 S.zf2
  simp only [Bool.false_eq_true, if_false, ← Array.forIn_toList, List.forIn_cons, List.forIn_nil]
  -- the first source
  refine wpAny_bind (wpAny_bind (wpAny_bind (wpAny_holding ?_)))
  show wpAny _ _ (Builtin.SmallTypes.nextOf (.ref i1) >>= fun x => pure (some x)) _ _ _
  refine wpAny_bind (D1.item i _ _ _ l1 b1 fun u h2 k2 pu c1 o2 => wpAny_pure (wpAny_pure (wpAny_bind (wpAny_bind (wpAny_holding ?_)))))
  show wpAny _ _ (Builtin.SmallTypes.nextOf (.ref i2) >>= fun x => pure (some x)) _ _ _
  refine wpAny_bind (D2.item i _ _ _ l2 (D2.over b2 o2 S.sep1_2) fun v h3 k3 pv c2 o3 => wpAny_pure (wpAny_pure (wpAny_pure ?_)))
  have e : h3.objs.size = s.heap.objs.size := o3.1.trans (o2.1.trans o1.1)
  refine wpAny_bind (wpAny_newTuple (wpAny_pure ?_) (show 2 ≤ sizeLine by decide))
  rw [show (h3.objs.size : Addr) = s.heap.objs.size from e]
  have on : ∀ c o, h3.get? c = some o → (h3.push (pairObj u v)).get? c = some o := fun c o => Heap.get?_push_of_some _
  have z3 : IsZipHeld h3 z TI TO T true := (o3.2 _ S.zi2).trans ((o2.2 _ S.zi1).trans z1)
  have w1 : S1 (i + 1) h3 := D1.over c1 o3 S.sep2_1
  refine next u v (h3.push (pairObj u v)) k3 pu pv (on _ _ z3) (D1.frame _ _ _ w1 fun b _ => on b) (D2.frame _ _ _ c2 fun b _ => on b) ?_ ?_ fun c o n n1 n2 x => on c o ?_
  · rw [← e]; exact Heap.get?_push_size _ rfl
  · rw [Heap.size_push, e]
  · exact o3.extBut c o n2 (o2.extBut c o n1 (o1.extBut c o n x))
theorem held_end {Q : Fin → Shared → Prop} (S : ZipSep2 z TI TO i1 i2 f1 f2) (D1 : Draws P w A i1 f1 n1 P1 S1) (D2 : Draws P w A i2 f2 n2 P2 S2) (hz : IsZipHeld s.heap z TI TO T fl) (hT : s.heap.get? T = some oT) (hI : IsTupOf2 s.heap TI (.ref i1) (.ref i2))
    (a1 : S1 i s.heap) (a2 : S2 i s.heap) (l1 : i ≤ n1) (l2 : i ≤ n2) (short : i = n1 ∨ i = n2)
    (stop : ∀ h' tk e, (∀ c o, c ≠ z → c ≠ i1 → c ≠ i2 → s.heap.get? c = some o → h'.get? c = some o) → (∃ o, h'.get? e = some o ∧ o.cls = .type "StopIteration") → E (.ref e) { s with heap := h', toks := tk }) :
    wpAny (model P w) A (Builtin.«zip.__next__» ⟨[.ref z], []⟩) Q E s := by
  unfold Builtin.«zip.__next__»
  refine wpAny_bind (m := slotArgs "__next__" 0 _) (wpAny_pure ?_)
  refine wpAny_bind (wpAny_field hz rfl rfl (wpAny_bind (wpAny_field hz rfl rfl (wpAny_bind (wpAny_seqItems hI rfl ?_)))))
  refine wpAny_bind (wpAny_tupleHeld_zip hz hT fun h1 z1 o1 => ?_)
  have b1 := D1.over a1 o1 S.zf1
  have b2 := D2.over a2 o1 S.zf2
  simp only [Bool.false_eq_true, if_false, ← Array.forIn_toList, List.forIn_cons, List.forIn_nil]
  refine wpAny_bind (wpAny_bind (wpAny_bind (wpAny_holding ?_)))
  show wpAny _ _ (Builtin.SmallTypes.nextOf (.ref i1) >>= fun x => pure (some x)) _ _ _
  by_cases c : i = n1
  · subst c
    exact wpAny_bind (D1.done _ _ _ b1 fun h2 e o2 => stop h2 s.toks e fun c o n n1 n2 x => o2 c o n1 (o1.extBut c o n x))
  · have c2 : i = n2 := short.resolve_left c
    subst c2
    refine wpAny_bind (D1.item i _ _ _ (by omega) b1 fun u h2 k2 pu c1 o2 => wpAny_pure (wpAny_pure (wpAny_bind (wpAny_bind (wpAny_holding ?_)))))
    show wpAny _ _ (Builtin.SmallTypes.nextOf (.ref i2) >>= fun x => pure (some x)) _ _ _
    exact wpAny_bind (D2.done _ _ _ (D2.over b2 o2 S.sep1_2) fun h3 e o3 => stop h3 k2 e fun c o n n1 n2 x => o3 c o n2 (o2.extBut c o n1 (o1.extBut c o n x)))
end
section
variable {P : Program} {w : World} {A : Around} {E : Value → Shared → Prop} {s : Shared} {z TI TO i1 i2 : Addr} {f1 f2 : List Addr} {n1 n2 i : Nat} {P1 P2 : Nat → Value → Prop} {S1 S2 : Nat → Heap → Prop}
/-- a zip at its place i; its last pair, if there is one, is in use, and is not d -/
def ZipRun (d z TI TO i1 i2 : Addr) (S1 S2 : Nat → Heap → Prop) (i : Nat) (h : Heap) : Prop :=
  IsTupOf2 h TI (.ref i1) (.ref i2) ∧ S1 i h ∧ S2 i h ∧ ((IsZip h z TI TO .none ∧ ∃ u v, IsTupOf2 h TO u v) ∨ ∃ T fl oT, IsZipHeld h z TI TO T fl ∧ h.get? T = some oT ∧ T ≠ d ∧ T ≠ z ∧ T ≠ i1 ∧ T ≠ i2)
variable {d : Addr}
theorem run_item {Q : Option Value → Shared → Prop} (S : ZipSep2 z TI TO i1 i2 f1 f2) (D1 : Draws P w A.in1 i1 f1 n1 P1 S1) (D2 : Draws P w A.in1 i2 f2 n2 P2 S2) (r : ZipRun d z TI TO i1 i2 S1 S2 i s.heap) (ld : d < s.heap.objs.size) (l1 : i < n1) (l2 : i < n2)
    (next : ∀ u v h' tk, P1 i u → P2 i v → ZipRun d z TI TO i1 i2 S1 S2 (i + 1) h' → h'.get? s.heap.objs.size = some (pairObj u v) → (∀ c o, c ∉ [z, TO, i1, i2] → s.heap.get? c = some o → h'.get? c = some o) →
      Q (some (.ref s.heap.objs.size)) { s with heap := h', toks := tk }) : wpAny (model P w) A (pyNext (.ref z)) Q E s := by
  obtain ⟨hI, a1, a2, ⟨hz, u0, v0, hO⟩ | ⟨T, fl, oT, hz, hT, td, tz, t1, t2⟩⟩ := r
  · have old : ∀ c, (∃ o, s.heap.get? c = some o) → s.heap.objs.size ≠ c := fun c ⟨o, e⟩ => Nat.ne_of_gt (Heap.lt_size e)
    refine wpAny_pyNext_zipD2_item S D1 D2 hz hI hO a1 a2 l1 l2 fun u v h' tk pu pv z' _ w1 w2 e _ mv => ?_
    refine next u v h' tk pu pv ⟨mv TI _ S.TIz S.TITO S.TIi1 S.TIi2 hI, w1, w2, .inr ⟨_, false, _, z', e, Nat.ne_of_gt ld, old z ⟨_, hz⟩, old i1 (D1.live _ _ a1), old i2 (D2.live _ _ a2)⟩⟩ e fun c o n => ?_
    simp only [List.mem_cons, List.not_mem_nil, or_false, not_or] at n
    exact mv c o n.1 n.2.1 n.2.2.1 n.2.2.2
  · have ty : s.TypeIs (.ref z) "zip" := ⟨_, hz, rfl⟩
    unfold pyNext
    refine wpAny_bind (wpAny_attempt (wpAny_callSpecial?_slot (name := Str.ofString "__next__") ty F.slot_zip_next (wpAny_call_entry F.slot_zip_next ty F.entry_zip_next ?_ (F.args_zip_next_1 _))))
    refine held_item S D1 D2 hz hT hI a1 a2 l1 l2 fun u v h' tk pu pv z' w1 w2 e _ mv => ⟨_, rfl, wpAny_pure ?_⟩
    refine next u v h' tk pu pv ⟨mv TI _ S.TIz S.TIi1 S.TIi2 hI, w1, w2, .inr ⟨T, true, oT, z', mv T _ tz t1 t2 hT, td, tz, t1, t2⟩⟩ e fun c o n => ?_
    simp only [List.mem_cons, List.not_mem_nil, or_false, not_or] at n
    exact mv c o n.1 n.2.2.1 n.2.2.2
theorem run_end {Q : Option Value → Shared → Prop} (S : ZipSep2 z TI TO i1 i2 f1 f2) (D1 : Draws P w A.in1 i1 f1 n1 P1 S1) (D2 : Draws P w A.in1 i2 f2 n2 P2 S2) (r : ZipRun d z TI TO i1 i2 S1 S2 i s.heap) (l1 : i ≤ n1) (l2 : i ≤ n2) (short : i = n1 ∨ i = n2)
    (stop : ∀ h' tk, (∀ c o, c ∉ [z, TO, i1, i2] → s.heap.get? c = some o → h'.get? c = some o) → Q none { s with heap := h', toks := tk }) : wpAny (model P w) A (pyNext (.ref z)) Q E s := by
  obtain ⟨hI, a1, a2, ⟨hz, u0, v0, hO⟩ | ⟨T, fl, oT, hz, hT, _⟩⟩ := r
  · refine wpAny_pyNext_zipD2_end S D1 D2 hz hI hO a1 a2 l1 l2 short fun h' tk mv => stop h' tk fun c o n => ?_
    simp only [List.mem_cons, List.not_mem_nil, or_false, not_or] at n
    exact mv c o n.1 n.2.1 n.2.2.1 n.2.2.2
  · have ty : s.TypeIs (.ref z) "zip" := ⟨_, hz, rfl⟩
    unfold pyNext
    refine wpAny_bind (wpAny_attempt (wpAny_callSpecial?_slot (name := Str.ofString "__next__") ty F.slot_zip_next (wpAny_call_entry F.slot_zip_next ty F.entry_zip_next ?_ (F.args_zip_next_1 _))))
    refine held_end S D1 D2 hz hT hI a1 a2 l1 l2 short fun h' tk e mv ⟨o, ho, cl⟩ => ?_
    refine wpAny_bind (wpAny_isInstance (T := "StopIteration") (b := true) ⟨o, ho, cl⟩ isSubtype_stop (wpAny_pure (stop h' tk fun c o n => ?_)))
    simp only [List.mem_cons, List.not_mem_nil, or_false, not_or] at n
    exact mv c o n.1 n.2.2.1 n.2.2.2
end
abbrev SrcAt (k : Kd) (it a : Addr) (us : Array Value) (i : Nat) (h : Heap) : Prop := 0 ≤ i ∧ k.Wk h it a i ∧ k.Has h a us
theorem srcAt_move (k : Kd) {it a : Addr} {us : Array Value} {i : Nat} {h h' : Heap} (x : SrcAt k it a us i h) (m1 : ∀ o, h.get? it = some o → h'.get? it = some o) (m2 : ∀ o, h.get? a = some o → h'.get? a = some o) : SrcAt k it a us i h' :=
  ⟨x.1, k.wk_at x.2.1 m1, k.has_at x.2.2 m2⟩
theorem has_there (k : Kd) {h : Heap} {a : Addr} {us : Array Value} (x : k.Has h a us) : ∃ o, h.get? a = some o := match k, x with
  | .l, ⟨o, e, _⟩ => ⟨o, e⟩
  | .t, ⟨o, e, _⟩ => ⟨o, e⟩
/-- the run of a zip over two sources stays where what it reads stays -/
theorem zipRun_move (k1 k2 : Kd) {d z TI TO i1 i2 a b : Addr} {us vs : Array Value} {i : Nat} {h h' : Heap} (r : ZipRun d z TI TO i1 i2 (SrcAt k1 i1 a us) (SrcAt k2 i2 b vs) i h) (nd : d ∉ [z, TI, TO, i1, i2, a, b])
    (mv : ∀ c o, c ≠ d → h.get? c = some o → h'.get? c = some o) : ZipRun d z TI TO i1 i2 (SrcAt k1 i1 a us) (SrcAt k2 i2 b vs) i h' := by
  simp only [List.mem_cons, List.not_mem_nil, or_false, not_or] at nd
  obtain ⟨dz, dI, dO, d1, d2, da, db⟩ := nd
  obtain ⟨r1, r2, r3, r4⟩ := r
  refine ⟨mv _ _ (Ne.symm dI) r1, srcAt_move k1 r2 (fun o => mv _ o (Ne.symm d1)) (fun o => mv _ o (Ne.symm da)), srcAt_move k2 r3 (fun o => mv _ o (Ne.symm d2)) (fun o => mv _ o (Ne.symm db)), ?_⟩
  rcases r4 with ⟨x, u, v, y⟩ | ⟨T, fl, oT, x, y, td, rest⟩
  · exact .inl ⟨mv _ _ (Ne.symm dz) x, u, v, mv _ _ (Ne.symm dO) y⟩
  · exact .inr ⟨T, fl, oT, mv _ _ (Ne.symm dz) x, mv _ _ td y, td, rest⟩
end DL

set_option Elab.async false
set_option linter.all false
set_option maxRecDepth 100000
set_option maxHeartbeats 1000000
/-! ## what an iterator without a length gives, gathered into a list and a tuple: each step is told what was gathered -/
namespace DL
open PySem PySem.Spec PyProof.Rows L2
abbrev IsL (h : Heap) (S : Addr) (acc : Array Value) (c : Nat) : Prop := h.get? S = some { cls := .type "list", dict := none, data := .seq acc c, slots := #[] }
/-- what an iterator gives, gathered into the list at S; St knows what is gathered -/
structure Gath (prog : Program) (w : World) (A : Around) (I S n : Nat) (St : Nat → Array Value → Shared → Prop) (Fi : Array Value → Shared → Prop) : Prop where
  item : ∀ (i : Nat) (acc : Array Value) (c : Nat) (s : Shared) (Q : Option Value → Shared → Prop) (E : Value → Shared → Prop), i < n → St i acc s → IsL s.heap S acc c →
    (∀ v s', St (i + 1) (acc.push v) s' → IsL s'.heap S acc c → Q (some v) s') → wpAny (model prog w) A (pyNext (.ref I)) Q E s
  done : ∀ (acc : Array Value) (c : Nat) (s : Shared) (Q : Option Value → Shared → Prop) (E : Value → Shared → Prop), St n acc s → IsL s.heap S acc c →
    (∀ s', Fi acc s' → IsL s'.heap S acc c → Q none s') → wpAny (model prog w) A (pyNext (.ref I)) Q E s
  frame : ∀ (i : Nat) (acc : Array Value) (s : Shared) (h' : Heap), St i acc s → (∀ b o, b ≠ S → s.heap.get? b = some o → h'.get? b = some o) → St i acc { s with heap := h' }
section
variable {P : Program} {w : World} {A : Around} {R : Result → Shared → Prop} {I S n : Nat} {St : Nat → Array Value → Shared → Prop} {Fi : Array Value → Shared → Prop}
theorem gath_loop (G : Gath P w A.in1 I S n St Fi) (small : n ≤ sizeLine) (res : Value) (i : Nat) (s : Shared) (acc : Array Value) (c : Nat) (le : i ≤ n) (sz : acc.size = i) (st : St i acc s) (ls : IsL s.heap S acc c)
    (out : ∀ s' acc' c', acc'.size = n → Fi acc' s' → IsL s'.heap S acc' c' → R (.ok (.ret res)) s') : codeAny (model P w) A (.builtin "list.extend.loop" ⟨[.ref S, .ref I, res], []⟩) R s := by
  refine codeAny_builtin F.entry_extend_loop ?_
  rw [Around.under_plainId F.plain_extend_loop _]
  refine wpAny_bind (m := pyNext (.ref I)) ?_
  rcases Nat.lt_or_ge i n with lt | ge
  · refine G.item i acc c s _ _ lt st ls fun v s' st' ls' => wpAny_bind (m := updateSeq S (·.push v)) (wpAny_updateSeq ls' rfl ?_ (by omega) (by show (acc.push v).size ≤ sizeLine + 1; simp; omega))
    exact wpAny_pure ⟨plainId_quiet F.plain_extend_loop _, gath_loop G small res (i + 1) _ (acc.push v) _ lt (by simp [sz]) (G.frame _ _ s' _ st' fun b o ne e => (Heap.get?_update_other _ _ ne.symm).trans e) (Heap.get?_update_self _ ls' rfl) out⟩
  · obtain rfl : i = n := Nat.le_antisymm le ge
    exact G.done acc c s _ _ st ls fun s' f ls' => wpAny_pure (out s' acc c sz f ls')
termination_by n - i
end
section
variable {P : Program} {w : World} {A : Around} {E : Value → Shared → Prop} {s : Shared} {I n : Nat} {St : Nat → Array Value → Shared → Prop} {Fi : Array Value → Shared → Prop}
theorem zip_no_len : typeLookup (.type "zip") "__len__" = pure none := by
  rw [typeLookup_type, builtinLookup_eq_fast]
  kernel_rfl
theorem zip_no_hint : typeLookup (.type "zip") "__length_hint__" = pure none := by
  rw [typeLookup_type, builtinLookup_eq_fast]
  kernel_rfl
/-- a zip tells no length -/
theorem zip_hint {Q : Bool → Shared → Prop} (zt : s.TypeIs (.ref I) "zip") (q : Q true s) : wpAny (model P w) A (Builtin.List.listLengthHint (.ref I)) Q E s := by
  unfold Builtin.List.listLengthHint
  exact wpAny_bind (wpAny_specialOf zt zip_no_len (wpAny_bind (m := specialOf (.ref I) "__length_hint__") (wpAny_specialOf zt zip_no_hint (wpAny_pure q))))
theorem gath_collect {Q : List Value → Shared → Prop} (G : Gath P w A.in1 I s.heap.objs.size n St Fi) (self : ∀ A' s' Q' E', St 0 #[] s' → Q' (.ref I) s' → wpAny (model P w) A' (pyIter (.ref I)) Q' E' s')
    (ty : ∀ i a s, St i a s → s.TypeIs (.ref I) "zip") (low : I < s.heap.objs.size) (st : ∀ h', (∀ b o, s.heap.get? b = some o → h'.get? b = some o) → h'.objs.size = s.heap.objs.size + 1 → St 0 #[] { s with heap := h' })
    (fin : ∀ s' acc, acc.size = n → Fi acc s' → Q acc.toList s') (small : n ≤ sizeLine) : wpAny (model P w) A (collect (.ref I)) Q E s := by
  unfold collect
  refine wpAny_bind (wpAny_runValue (codeAny_builtin F.entry_proto_collect ?_))
  rw [Around.under_plainId F.plain_proto_collect _]
  refine wpAny_bind (m := newList []) (wpAny_newObj_type (wpAny_pure ⟨plainId_quiet F.plain_list_iadd _, codeAny_builtin F.entry_list_iadd ?_⟩))
  rw [Around.under_plainId F.plain_list_iadd _]
  have room := st (s.heap.push { cls := .type "list", data := .seq #[] }) (fun _ _ => Heap.get?_push_of_some _) (Heap.size_push ..)
  have zt := ty 0 _ _ room
  have l0 : IsL (s.heap.push { cls := .type "list", data := .seq #[] }) s.heap.objs.size #[] 0 := Heap.get?_push_size _ rfl
  have other : Builtin.List.listSameRef (.ref s.heap.objs.size) (.ref I) = false := by simp [Builtin.List.listSameRef, Nat.ne_of_gt low]
  show wpAny _ _ (Builtin.List.listExtendWith (.ref s.heap.objs.size) (.ref I) (.ref s.heap.objs.size)) _ _ _
  unfold Builtin.List.listExtendWith
  refine wpAny_bind (wpAny_typeOf zt ?_)
  simp only [other, show (Value.type "zip" == Value.type "list") = false by decide, show (Value.type "zip" == Value.type "tuple") = false by decide, Bool.or_self, Bool.false_eq_true, if_false]
  refine wpAny_bind (self _ _ _ _ room (wpAny_bind (wpAny_holding (zip_hint zt ?_))))
  refine wpAny_bind (m := rule _) (wpAny_rule (wpAny_bind (m := Builtin.List.listTouch (.ref s.heap.objs.size)) (wpAny_bind (m := updateSeq s.heap.objs.size (·.push .none)) (wpAny_updateSeq l0 rfl ?_))))
  have l1 := Heap.get?_update_self (Obj.mapSeq (·.push Value.none)) l0 rfl
  refine wpAny_updateSeq l1 rfl (wpAny_pure ⟨plainId_quiet F.plain_extend_loop _, ?_⟩)
  refine gath_loop G small _ 0 _ #[] _ (Nat.zero_le n) rfl (G.frame 0 #[] ({ s with heap := s.heap.push { cls := .type "list", data := .seq #[] } }) _ room fun b o ne e => ?_) (Heap.get?_update_self (Obj.mapSeq (·.pop)) l1 rfl) fun s' acc' c' sz f ls => wpAny_bind (m := load s.heap.objs.size) (wpAny_load ls (wpAny_pure (fin s' acc' sz f)))
  exact (Heap.get?_update_other _ _ ne.symm).trans ((Heap.get?_update_other _ _ ne.symm).trans e)
theorem gath_tuple {Q : Value → Shared → Prop} (G : Gath P w A.in1.in1.in1 I s.heap.objs.size n St Fi) (self : ∀ A' s' Q' E', St 0 #[] s' → Q' (.ref I) s' → wpAny (model P w) A' (pyIter (.ref I)) Q' E' s')
    (ty : ∀ i a s, St i a s → s.TypeIs (.ref I) "zip") (zt : s.TypeIs (.ref I) "zip") (low : I < s.heap.objs.size) (st : ∀ h', (∀ b o, s.heap.get? b = some o → h'.get? b = some o) → h'.objs.size = s.heap.objs.size + 1 → St 0 #[] { s with heap := h' })
    (fin : ∀ s' acc, acc.size = n → Fi acc s' → Q (.ref s'.heap.objs.size) { s' with heap := s'.heap.push { cls := .type "tuple", data := .seq acc.toList.toArray } }) (small : n ≤ sizeLine) :
    wpAny (model P w) A (call (.type "tuple") [.ref I]) Q E s := by
  refine callType_codes (Q₁ := fun v s1 => s1.TypeIs v "tuple" ∧ Q v s1) F.called_tuple (F.typeCall_tuple_1 _) F.entry_object_init ?_
    fun v s1 got => ⟨got.1, F.args_object_init_2 v _, object_init_meets F.called_tuple.init.lookup F.called_tuple.made (by decide) P w A.in1 _ s1 ⟨got.1, rfl, got.2⟩⟩
  refine codeAny_of_tree (wpAny_bind (m := checkBuiltinCall "tuple.__new__" _) (wpAny_of_eq (F.newCall_tuple_1 _) (wpAny_pure ⟨plainId_quiet F.plain_tuple_new _, codeAny_builtin F.entry_tuple_new ?_⟩)))
  rw [Around.under_plainId F.plain_tuple_new _]
  have f1 := sub_tuple_self
  have f2 := init_tuple_lookup
  have f3 := madeHere_tuple
  have f4 : (Value.type "zip" == Value.type "tuple") = false := by decide
  wp_walk using wpAny_typeOf zt, gath_collect G self ty low st
  all_goals first | exact small | skip
  intro s' acc sz f
  refine wpAny_bind (wpAny_pure (wpAny_bind (m := Builtin.Tuple.tupleExact _) (wpAny_newObj_type (wpAny_pure ⟨⟨_, Heap.get?_push_size _ rfl, rfl⟩, fin s' acc sz f⟩) ?_)))
  show acc.toList.toArray.size ≤ sizeLine
  simpa [sz] using small
end
/-! ### tuple(zip(x, y)) of two tuples -/
/-- the pairs that were gathered: each a new tuple of the items at its place -/
structure ZGot (X : Cx) (pins : List (Addr × Obj)) (σ : L2.St) (H : Hp) (xs ys : List V) (i : Nat) (acc : Array Value) (s : Shared) (Hi : Hp) (ts : List V) : Prop where
  inv : Inv X pins σ Hi s
  sm : Same H Hi
  rel : Vals ts acc.toList
  len : ts.length = i
  prs : ∀ (j : Nat) (v : V), ts[j]? = some v → ∃ (T : Addr) (o : Obj) (x y : V), v = .ref T ∧ Hi T = some (.frz o (.tup [x, y])) ∧ o.dict = none ∧ xs[j]? = some x ∧ ys[j]? = some y
theorem ZGot.more {X : Cx} {pins : List (Addr × Obj)} {σ : L2.St} {H Hi : Hp} {xs ys ts : List V} {i : Nat} {acc : Array Value} {s s' : Shared} {T : Addr} {o : Obj} {x y : V} (g : ZGot X pins σ H xs ys i acc s Hi ts) (n : Hi T = none) (od : o.dict = none) (hx : xs[i]? = some x) (hy : ys[i]? = some y)
    (I : Inv X pins σ (upd Hi T (.frz o (.tup [x, y]))) s') : ZGot X pins σ H xs ys (i + 1) (acc.push (.ref T)) s' (upd Hi T (.frz o (.tup [x, y]))) (ts ++ [.ref T]) where
  inv := I
  sm := fun b u e => (upd_ne (ne_of_none (g.sm b u e) n)).trans (g.sm b u e)
  rel := by
    rw [Array.toList_push]
    exact g.rel.append (.cons rfl .nil)
  len := by rw [List.length_append, g.len]; rfl
  prs := fun j v e => by
    rcases Nat.lt_or_ge j ts.length with lt | ge
    · rw [List.getElem?_append_left lt] at e
      obtain ⟨T', o', x', y', a1, a2, r⟩ := g.prs j v e
      exact ⟨T', o', x', y', a1, (upd_ne (ne_of_none a2 n)).trans a2, r⟩
    · rw [List.getElem?_append_right ge] at e
      obtain ⟨z, rfl⟩ := List.getElem?_eq_some_iff.mp e
      have jl : j = ts.length := by simp only [List.length_cons, List.length_nil] at z; omega
      subst jl
      exact ⟨T, o, x, y, by simp, upd_same, od, by rw [g.len]; exact hx, by rw [g.len]; exact hy⟩
/-- what tuple(zip(x, y)) makes of the pair of argument tuples -/
def rTupZip (K : PySem.W.Frag) (vs : List V) (H : Hp) (Q : VK) : Prop := ∃ a b xs ys, vs = [.ref a, .ref b] ∧ SqT K H a xs ∧ SqT K H b ys ∧ xs.length ≤ sizeLine ∧
  ∀ (H' : Hp) (ts : List V) (p : Addr) (o : Obj), Same H H' → ts.length = min xs.length ys.length →
    (∀ (j : Nat) (v : V), ts[j]? = some v → ∃ (T : Addr) (o : Obj) (x y : V), v = .ref T ∧ H' T = some (.frz o (.tup [x, y])) ∧ o.dict = none ∧ xs[j]? = some x ∧ ys[j]? = some y) →
    H' p = none → o.dict = none → Q (.ref p) (upd H' p (.frz o (.tup ts)))
theorem pe_tupzip {X : Cx} {e e2 : Expr} {ta : TA} {p q pos qpos : Pos} (hcalm : X.calm = true) (hgT : Gl X "tuple") (hmT : X.mg "tuple" = none) (hg : Gl X "zip") (hm : X.mg "zip" = none) (ha : PA X [e, e2] ta)
    (hs : starEach [e, e2] X.env = (false, eval e X.env) :: starEach [e2] X.env := by rfl) (hpl : (backTo pos (starEach [e2] X.env)).any (·.1) = false := by rfl)
    (hsT : starEach [(.Call (.Name "zip" q) [e, e2] [] pos)] X.env = [(false, eval (.Call (.Name "zip" q) [e, e2] [] pos) X.env)] := by rfl) :
    PE X (.Call (.Name "tuple" p) [.Call (.Name "zip" q) [e, e2] [] pos] [] qpos) (tCB (rTupZip X.K) ta) := by
  refine ⟨fun pins s σ H Q I w => wpAny_Call_Name_kw (ld_blt I hgT hmT (by rfl) (PyProof.Rows.callWith_type1 ?_ hsT rfl) (by decide) (by decide))⟩
  rw [hsT]
  refine Calls.spliced_cons (Call_ (ld_blt I hg hm PyProof.Rows.boot_zip (PyProof.Rows.callWith_type1 (thn (ha.run pos pins s σ H _ I w) ?_) hs hpl)))
  rintro us s1 ⟨_, H1, J, r, a, b, xs, ys, rfl, qx, qy, small, q⟩
  obtain ⟨_, _, rfl, e1, e2⟩ := refs2 r
  cases e1
  cases e2
  obtain ⟨us, rx, px, _⟩ := J.tuple qx
  obtain ⟨vs, ry, py, _⟩ := J.tuple qy
  have la : a < s1.heap.objs.size := Kd.t.has_lt (vs := us.toArray) px
  have lb : b < s1.heap.objs.size := Kd.t.has_lt (vs := vs.toArray) py
  refine zip_begins2 (Kd.t.begins a us.toArray) (Kd.t.begins b vs.toArray) px py fun h' z p o w1 w2 sz old => Calls.spliced_nil ?_
  have S := zip_sep2 (N := s1.heap.objs.size) (fp1 := [a]) (fp2 := [b]) (fun c hc => List.mem_singleton.mp hc ▸ la) (fun c hc => List.mem_singleton.mp hc ▸ lb)
  have x1 : Kd.t.Has h' a us.toArray := Kd.t.has_at px (old a)
  have y1 : Kd.t.Has h' b vs.toArray := Kd.t.has_at py (old b)
  have nx := k1_apart .t x1 (Kd.t.wk0 w1)
  have ny := k1_apart .t y1 (Kd.t.wk0 w2)
  have cells : ∀ c ∈ [s1.heap.objs.size + 4, s1.heap.objs.size + 3, s1.heap.objs.size, s1.heap.objs.size + 1, h'.objs.size], s1.heap.objs.size ≤ c ∧ c ≤ h'.objs.size := fun c hc => by
    simp only [List.mem_cons, List.not_mem_nil, or_false] at hc
    rcases hc with rfl | rfl | rfl | rfl | rfl <;> rw [sz] <;> constructor <;> first | exact Nat.le_add_right _ _ | exact Nat.le_refl _ | exact Nat.add_le_add_left (by decide) _
  have lx : us.toArray.size = xs.length := List.size_toArray.trans rx.length.symm
  have ly : vs.toArray.size = ys.length := List.size_toArray.trans ry.length.symm
  have off : h'.objs.size ∉ [s1.heap.objs.size + 4, s1.heap.objs.size + 3, s1.heap.objs.size, s1.heap.objs.size + 1] := by
    rw [sz]
    simp only [List.mem_cons, List.not_mem_nil, or_false, not_or]
    refine ⟨?_, ?_, ?_, ?_⟩ <;> exact fun e => by have e : s1.heap.objs.size + 5 = _ := e; omega
  have off2 : h'.objs.size ∉ [s1.heap.objs.size + 4, s1.heap.objs.size + 2, s1.heap.objs.size + 3, s1.heap.objs.size, s1.heap.objs.size + 1, a, b] := by
    have la' : a < s1.heap.objs.size + 5 := Nat.lt_of_lt_of_le la (Nat.le_add_right _ _)
    have lb' : b < s1.heap.objs.size + 5 := Nat.lt_of_lt_of_le lb (Nat.le_add_right _ _)
    rw [sz]
    simp only [List.mem_cons, List.not_mem_nil, or_false, not_or]
    refine ⟨?_, ?_, ?_, ?_, ?_, Nat.ne_of_gt la', Nat.ne_of_gt lb'⟩ <;> exact fun e => by have e : s1.heap.objs.size + 5 = _ := e; omega
  have D1 : Draws X.prog X.w X.A.in1.in1.in1.in1 s1.heap.objs.size [s1.heap.objs.size, a] us.toArray.size (fun i x => us.toArray[i]? = some x) (SrcAt .t s1.heap.objs.size a us.toArray) := by
    have z := Kd.t.draws (P := X.prog) (w := X.w) (A := X.A.in1.in1.in1.in1) (J.ok.hd hcalm) nx us.toArray 0
    rwa [Nat.zero_max] at z
  have D2 : Draws X.prog X.w X.A.in1.in1.in1.in1 (s1.heap.objs.size + 1) [s1.heap.objs.size + 1, b] vs.toArray.size (fun i x => vs.toArray[i]? = some x) (SrcAt .t (s1.heap.objs.size + 1) b vs.toArray) := by
    have z := Kd.t.draws (P := X.prog) (w := X.w) (A := X.A.in1.in1.in1.in1) (J.ok.hd hcalm) ny vs.toArray 0
    rwa [Nat.zero_max] at z
  have start : ZGot X pins σ H1 xs ys 0 #[] { s1 with heap := h' } H1 [] := ⟨J.kept (t' := s1.toks) old, fun _ _ e => e, .nil, rfl, fun j v e => by simp at e⟩
  have G : Gath X.prog X.w X.A.in1.in1.in1 (s1.heap.objs.size + 4) h'.objs.size (min us.toArray.size vs.toArray.size)
      (fun i acc s' => ∃ Hi ts, ZGot X pins σ H1 xs ys i acc s' Hi ts ∧ (∀ c ∈ [s1.heap.objs.size + 4, s1.heap.objs.size + 3, s1.heap.objs.size, s1.heap.objs.size + 1, h'.objs.size], FpOk X pins Hi c) ∧
        ZipRun h'.objs.size (s1.heap.objs.size + 4) (s1.heap.objs.size + 2) (s1.heap.objs.size + 3) s1.heap.objs.size (s1.heap.objs.size + 1) (SrcAt .t s1.heap.objs.size a us.toArray) (SrcAt .t (s1.heap.objs.size + 1) b vs.toArray) i s'.heap ∧
        (i = 0 → IsZip s'.heap (s1.heap.objs.size + 4) (s1.heap.objs.size + 2) (s1.heap.objs.size + 3) .none))
      (fun acc s' => ∃ Hi ts, ZGot X pins σ H1 xs ys (min us.toArray.size vs.toArray.size) acc s' Hi ts) := by
    have wide : ∀ c, c ∉ [s1.heap.objs.size + 4, s1.heap.objs.size + 3, s1.heap.objs.size, s1.heap.objs.size + 1, h'.objs.size] → c ∉ [s1.heap.objs.size + 4, s1.heap.objs.size + 3, s1.heap.objs.size, s1.heap.objs.size + 1] := fun c n m => n (List.mem_append_left [h'.objs.size] m)
    refine ⟨?_, ?_, ?_⟩
    · rintro i acc c s' Q' E' lt ⟨Hi, ts, g, fp, run, _⟩ ls next
      have top : h'.objs.size < s'.heap.objs.size := Heap.lt_size ls
      have li := Nat.lt_of_lt_of_le lt (Nat.min_le_left _ _)
      have lj := Nat.lt_of_lt_of_le lt (Nat.min_le_right _ _)
      have hx : xs[i]? = some xs[i] := List.getElem?_eq_getElem (lx ▸ li)
      have hy : ys[i]? = some ys[i] := List.getElem?_eq_getElem (ly ▸ lj)
      refine run_item S D1 D2 run top li lj fun u v h2 tk hu hv run' e mv => next _ _ ⟨_, _, g.more (g.inv.hok.fresh (Nat.le_refl _)) rfl hx hy (pair_new (s := s') g.inv fp (fun c o n => mv c o (wide c n)) e (vals_arr rx hx hu) (vals_arr ry hy hv)), fun c hc => ?_, run', fun z => absurd z (Nat.succ_ne_zero i)⟩ (mv _ _ off ls)
      exact ⟨(upd_ne (Nat.ne_of_lt (Nat.lt_of_le_of_lt (cells c hc).2 top))).trans (fp c hc).1, (fp c hc).2⟩
    · rintro acc c s' Q' E' ⟨Hi, ts, g, fp, run, _⟩ ls stop
      exact run_end S D1 D2 run (Nat.min_le_left _ _) (Nat.min_le_right _ _) (by omega) fun h2 tk mv => stop _ ⟨Hi, ts, { g with inv := g.inv.turnedL (fun c o n => mv c o (wide c n)) fp }⟩ (mv _ _ off ls)
    · rintro i acc s' h2 ⟨Hi, ts, g, fp, run, first⟩ mv
      have nS : ∀ c, c ∉ [s1.heap.objs.size + 4, s1.heap.objs.size + 3, s1.heap.objs.size, s1.heap.objs.size + 1, h'.objs.size] → c ≠ h'.objs.size := fun c n e => n (by simp [e])
      exact ⟨Hi, ts, { g with inv := g.inv.turnedL (t' := s'.toks) (fun c o n => mv c o (nS c n)) fp }, fp, zipRun_move .t .t run off2 mv, fun e => mv _ _ (fun q => off (by simp [← q])) (first e)⟩
  refine gath_tuple (s := { s1 with heap := h' }) G (fun A' s' Q' E' ⟨_, _, _, _, _, first⟩ go => wpAny_pyIter_zip (first rfl) go) (fun i acc s' ⟨_, _, _, _, run, _⟩ => ?_) ⟨_, z, rfl⟩ ?_ (fun h2 mv _ => ⟨H1, [], ⟨(J.kept (t' := s1.toks) old).kept (t' := s1.toks) mv, start.sm, start.rel, start.len, start.prs⟩, fun c hc => J.fpOk (cells c hc).1 (J.hok.fresh (cells c hc).1), ?_, fun _ => mv _ _ z⟩) ?_ ?_
  · rcases run.2.2.2 with ⟨zz, _⟩ | ⟨_, _, _, zz, _⟩ <;> exact ⟨_, zz, rfl⟩
  · show s1.heap.objs.size + 4 < h'.objs.size
    rw [sz]; exact Nat.lt_succ_self _
  · exact ⟨mv _ _ p, srcAt_move .t ⟨Nat.le_refl _, Kd.t.wk0 w1, x1⟩ (mv _) (mv _), srcAt_move .t ⟨Nat.le_refl _, Kd.t.wk0 w2, y1⟩ (mv _) (mv _), .inl ⟨mv _ _ z, _, _, mv _ _ o⟩⟩
  · rintro s' acc _ ⟨Hi, ts, g⟩
    have tl : ts.length = min xs.length ys.length := by rw [g.len, lx, ly]
    exact tup_end g.inv g.rel (by rw [tl]; exact Nat.le_trans (Nat.min_le_left _ _) small) fun pp oo n d => q Hi ts pp oo g.sm tl g.prs n d
  · rw [lx]; exact Nat.le_trans (Nat.min_le_left _ _) small
end DL

set_option Elab.async false
set_option linter.all false
set_option maxRecDepth 100000
namespace DL
open PySem PySem.Spec PyProof.Rows L2

/-! ## 13. tuple(zip(x, y)) -/
def zipPair (xs ys : List D) : List D := (xs.zip ys).map fun p => .tup [p.1, p.2]
def gTupZip : List D → Option D
  | [.tup xs, .tup ys] => some (.tup (zipPair xs ys))
  | _ => none
section
variable {K : PySem.W.Frag} {W : Wd} {H : Hp}
theorem rps_of : ∀ {vs : List V} {ds : List D}, vs.length = ds.length → (∀ (j : Nat) (v : V) (d : D), vs[j]? = some v → ds[j]? = some d → Rp K W H v d) → Rps K W H vs ds
  | [], [], _, _ => .nil
  | v :: vs, d :: ds, h, k => .cons (k 0 v d rfl rfl) (rps_of (by simpa using h) fun j v' d' e e' => k (j + 1) v' d' (by simpa using e) (by simpa using e'))
theorem tupzip_d : CallD K (rTupZip K) gTupZip := fun W H vs ds d Q wf r h k => by
  unfold gTupZip at h
  split at h
  · rename_i xs ys
    cases h
    obtain ⟨v, v', rfl, r1, r2⟩ := rqs2 r
    obtain ⟨a, ws, rfl, q, z, rs⟩ := rq_tup r1
    obtain ⟨a', ws', rfl, q', z', rs'⟩ := rq_tup r2
    refine ⟨a, a', ws, ws', rfl, q.sqt, q'.sqt, z, fun H' ts p o sm hl hp hn ho => ?_⟩
    have l1 := rs.length
    have l2 := rs'.length
    have sm2 : Same H' (upd H' p (.frz o (.tup ts))) := upd_Same hn
    refine k _ _ (fun b u e => sm2 b u (sm b u e)) (.tup (.new ho) (by omega) (rps_of ?_ fun j v d e e' => ?_))
    · rw [hl]; unfold zipPair; rw [List.length_map, List.length_zip]; omega
    · obtain ⟨T, o', x, y, rfl, hT, hd, hx, hy⟩ := hp j v e
      unfold zipPair at e'
      rw [List.getElem?_map] at e'
      obtain ⟨pp, ep, rfl⟩ := Option.map_eq_some_iff.mp e'
      obtain ⟨dx, hdx, rx⟩ := rs.get' hx
      obtain ⟨dy, hdy, ry⟩ := rs'.get' hy
      obtain ⟨e3, e4⟩ := List.getElem?_zip_eq_some.mp ep
      rw [hdx] at e3
      rw [hdy] at e4
      cases e3
      cases e4
      have sm3 : Same H (upd H' p (.frz o (.tup ts))) := fun b u e => sm2 b u (sm b u e)
      exact .tup (.inl ⟨o', sm2 _ _ hT, hd⟩) (by show 2 ≤ sizeLine; decide) (.cons (rx.stepE (.same sm3)) (.cons (ry.stepE (.same sm3)) .nil))
  · cases h
end

/-! ## 14. dict(x), x a tuple of pairs -/
/-- dict(xs), xs a list or a tuple of pairs: later pairs win -/
def rDictZ (K : PySem.W.Frag) : List V → Hp → VK → Prop := fun xs H Q => ∃ (a : Addr) (ps : List Addr) (kvs : List (Key × V)), xs = [.ref a] ∧ TupAt K H a (ps.map V.ref) ∧ Paired (fun p kv => SqT K H p [kV kv.1, kv.2]) ps kvs ∧ ps.length ≤ sizeLine ∧
  ∀ p, H p = none → Q (.ref p) (upd H p (.dK (mergeK [] kvs)))
section
variable {X : Cx}
theorem pairs_ofZ {pins : List (Addr × Obj)} {σ : L2.St} {H : Hp} {s : Shared} (I : Inv X pins σ H s) : ∀ {ps : List Addr} {kvs : List (Key × V)}, Paired (fun p kv => SqT X.K H p [kV kv.1, kv.2]) ps kvs →
    ∃ (prs : List (Key × Value)) (vps : List (Value × Value)), KV kvs prs ∧ prs.length = ps.length ∧ vps.length = ps.length ∧ ∀ (j : Nat) (q : Value × Value), vps[j]? = some q → ∃ (b : Addr) (k : Key), ps[j]? = some b ∧ IsTup s.heap b #[q.1, q.2] ∧ prs[j]? = some (k, q.2) ∧ keyIs k q.1 = true
  | _, _, .nil => ⟨[], [], .nil, rfl, rfl, fun j q e => by simp at e⟩
  | _, _, .cons (a := p) (b := kv) h t => by
    obtain ⟨prs, vps, r, hl, hl2, hp⟩ := pairs_ofZ I t
    obtain ⟨its, rv, ht, _⟩ := I.tuple h
    obtain ⟨u, y, ei, ru, ry⟩ := vals2 rv
    subst ei
    refine ⟨(kv.1, y) :: prs, (u, y) :: vps, .cons ⟨rfl, ry⟩ r, by rw [List.length_cons, List.length_cons, hl], by rw [List.length_cons, List.length_cons, hl2], fun j q e => ?_⟩
    cases j with
    | zero =>
      have e' : (u, y) = q := Option.some.inj e
      subst e'
      exact ⟨p, kv.1, rfl, ht, rfl, kV_is (P := X.prog) (w := X.w) ru⟩
    | succ j =>
      obtain ⟨b, k, e1, e2, e3, e4⟩ := hp j q (by simpa using e)
      exact ⟨b, k, by simpa using e1, e2, by simpa using e3, e4⟩
theorem TupAt.plain {pins : List (Addr × Obj)} {σ : L2.St} {H : Hp} {s : Shared} (I : Inv X pins σ H s) {a : Addr} {vs : List V} (h : TupAt X.K H a vs) : ∃ its : Array Value, PlainSeq "tuple" s.heap a its ∧ Vals vs its.toList := by
  rcases h with ⟨o, h, hd⟩ | ⟨o, its, n, h1, h2, hd, h3, h4, h5⟩
  · have q := I.hok a _ h
    obtain ⟨e, z, vs', r, o', e', c, n, dd⟩ := q
    rw [e] at e'
    cases e'
    exact ⟨_, ⟨o, n, e, c, hd, dd⟩, r⟩
  · exact ⟨its, ⟨o, n, I.kIn a o h1, h2, hd, h3⟩, h5⟩
theorem call_dictZ (hcalm : X.calm = true) : CallR X (.type "dict") (rDictZ X.K) := by
  intro pins s σ H xs us Q I r q
  obtain ⟨a, ps, kvs, ex, hq, hp, hz, q⟩ := q
  subst ex
  obtain ⟨u, eu, rx⟩ := vals1 r
  subst eu
  cases rx
  obtain ⟨its, hpl, rv⟩ := TupAt.plain I hq
  have ei := refs_at rv
  obtain ⟨prs, vps, rel, hl, hl2, hpr⟩ := pairs_ofZ I hp
  have hits : ∀ (j : Nat) (b : Addr), ps[j]? = some b → its[j]? = some (.ref b) := fun j b e => by
    rw [← Array.getElem?_toList, ei, List.getElem?_map, e]; rfl
  have hsz : its.size = ps.length := by rw [← Array.length_toList, ei, List.length_map]
  have items : PySem.PairItems s.heap its (fun j => ps.getD j 0) vps := ⟨by rw [hsz, hl2], fun j k v e => by
    obtain ⟨b, kk, e1, e2, e3, e4⟩ := hpr j (k, v) e
    have eb : ps.getD j 0 = b := by rw [List.getD_eq_getElem?_getD, e1]; rfl
    refine ⟨?_, ?_⟩
    · show its[j]? = some (.ref (ps.getD j 0)); rw [eb]; exact hits j b e1
    · show PySem.PairAt s.heap (ps.getD j 0) k v; rw [eb]; exact .inl e2⟩
  refine PySem.call_dict_pairs (knd := mixKind X.prog X.w) (kvs := prs) (PySem.PairArg.tuple (prog := X.prog) (w := X.w) a its (fun j => ps.getD j 0) vps) (I.ok.hd hcalm) ⟨hpl, items⟩ ⟨by rw [hl, hl2], fun i key v hr => ?_⟩ (by rw [hl2]; exact hz) fun h' tk hd' k => ?_
  · obtain ⟨b, kk, e1, e2, e3, e4⟩ := hpr i (key, v) hr
    exact ⟨kk, e3, e4⟩
  · have hm : (s.heap.objs.size == sysModules) = false := beq_eq_false_iff_ne.mpr (Nat.ne_of_gt I.big)
    have hlen : (mergeK [] kvs).length ≤ sizeLine := by
      refine Nat.le_trans (length_mergeK kvs []) ?_
      rw [List.length_nil, Nat.zero_add, rel.length, hl]
      exact hz
    exact ⟨.ref s.heap.objs.size, upd H s.heap.objs.size (.dK (mergeK [] kvs)), I.laid (t' := tk) (fun b o e => k b o (by simp) e) (Nat.le_refl _) (show ObjOk X.prog X.w _ _ _ (.dK (mergeK [] kvs)) from ⟨hlen, hm, merged [] prs, KV.merge rel .nil, hd'⟩), rfl, q _ (I.hok.fresh (Nat.le_refl _))⟩
end
def D.key : D → Option Key
  | .int i => some (.inl i)
  | .str x => some (.inr x)
  | _ => none
def pairsOf : List D → Option (List (Key × D))
  | [] => some []
  | .tup [k, v] :: r => k.key.bind fun q => (pairsOf r).map ((q, v) :: ·)
  | _ => none
def putD (kvs : List (Key × D)) (k : Key) (v : D) : List (Key × D) :=
  if (kvs.any fun kv => decide (kv.1 = k)) = true then kvs.map (fun kv => if kv.1 = k then (kv.1, v) else kv) else kvs ++ [(k, v)]
def mergeD (kvs more : List (Key × D)) : List (Key × D) := more.foldl (fun acc kv => putD acc kv.1 kv.2) kvs
def gDict : List D → Option D
  | [.tup xs] => (pairsOf xs).map fun kvs => .dct ((mergeD [] kvs).map (·.1)) ((mergeD [] kvs).map (·.2))
  | _ => none
section
variable {K : PySem.W.Frag} {W : Wd} {H : Hp}
abbrev RKV (K : PySem.W.Frag) (W : Wd) (H : Hp) : List (Key × V) → List (Key × D) → Prop := Paired fun p q => p.1 = q.1 ∧ Rp K W H p.2 q.2
theorem rkv_any {k : Key} : ∀ {ps : List (Key × V)} {qs : List (Key × D)}, RKV K W H ps qs → (ps.any fun kv => decide (kv.1 = k)) = (qs.any fun kv => decide (kv.1 = k))
  | _, _, .nil => rfl
  | _, _, .cons a b => by simp only [List.any_cons, a.1, rkv_any b]
theorem rkv_app : ∀ {ps : List (Key × V)} {qs : List (Key × D)} {ps' : List (Key × V)} {qs' : List (Key × D)}, RKV K W H ps qs → RKV K W H ps' qs' → RKV K W H (ps ++ ps') (qs ++ qs')
  | _, _, _, _, .nil, h => h
  | _, _, _, _, .cons a b, h => .cons a (rkv_app b h)
theorem rkv_map {k : Key} {v : V} {d : D} (r : Rp K W H v d) : ∀ {ps : List (Key × V)} {qs : List (Key × D)}, RKV K W H ps qs → RKV K W H (ps.map fun kv => if kv.1 = k then (kv.1, v) else kv) (qs.map fun kv => if kv.1 = k then (kv.1, d) else kv)
  | _, _, .nil => .nil
  | _, _, .cons (a := p) (b := q) a b => by
    refine .cons ?_ (rkv_map r b)
    by_cases e : q.1 = k
    · simp only [a.1, e, if_pos]; exact ⟨trivial, r⟩
    · simp only [a.1, if_neg e]; exact ⟨trivial, a.2⟩
theorem rkv_put {k : Key} {v : V} {d : D} {ps : List (Key × V)} {qs : List (Key × D)} (h : RKV K W H ps qs) (r : Rp K W H v d) : RKV K W H (putK ps k v) (putD qs k d) := by
  unfold putK putD
  rw [rkv_any h]
  split
  · exact rkv_map r h
  · exact rkv_app h (.cons ⟨rfl, r⟩ .nil)
theorem rkv_merge : ∀ {ps : List (Key × V)} {qs : List (Key × D)} {acc : List (Key × V)} {acc' : List (Key × D)}, RKV K W H ps qs → RKV K W H acc acc' → RKV K W H (mergeK acc ps) (mergeD acc' qs)
  | _, _, _, _, .nil, h => h
  | _, _, acc, acc', .cons (a := p) (b := q) a b, h => by
    have : RKV K W H (putK acc p.1 p.2) (putD acc' q.1 q.2) := by rw [a.1]; exact rkv_put h a.2
    show RKV K W H (mergeK (putK acc p.1 p.2) _) (mergeD (putD acc' q.1 q.2) _)
    exact rkv_merge b this
theorem rkv_rps : ∀ {ps : List (Key × V)} {qs : List (Key × D)}, RKV K W H ps qs → ps = (qs.map (·.1)).zip (ps.map (·.2)) ∧ Rps K W H (ps.map (·.2)) (qs.map (·.2))
  | _, _, .nil => ⟨rfl, .nil⟩
  | _, _, .cons (a := p) (b := q) a b => by
    obtain ⟨h1, h2⟩ := rkv_rps b
    refine ⟨?_, .cons a.2 h2⟩
    rw [List.map_cons, List.map_cons, List.zip_cons_cons, ← h1, ← a.1]
theorem key_v {v : V} {d : D} {k : Key} (r : Rp K W H v d) (h : d.key = some k) : v = kV k := by
  cases d with
  | int i => cases h; exact rp_int r
  | str x => cases h; exact rq_str (.of r)
  | _ => cases h
theorem pairs_rps : ∀ {ds : List D} {vs : List V} {kvs : List (Key × D)}, pairsOf ds = some kvs → Rps K W H vs ds →
    ∃ (ps : List Addr) (kvs' : List (Key × V)), vs = ps.map V.ref ∧ Paired (fun p kv => SqT K H p [kV kv.1, kv.2]) ps kvs' ∧ RKV K W H kvs' kvs
  | [], _, _, h, r => by cases h; cases r; exact ⟨[], [], rfl, .nil, .nil⟩
  | .tup [k, v] :: ds, _, kvs, h, r => by
    simp only [pairsOf] at h
    obtain ⟨q, e1, h⟩ := Option.bind_eq_some_iff.mp h
    obtain ⟨kvs1, e2, rfl⟩ := Option.map_eq_some_iff.mp h
    cases r with
    | cons a b =>
      obtain ⟨ps, kvs', rfl, p1, p2⟩ := pairs_rps e2 b
      obtain ⟨t, ws, rfl, ht, _, rs⟩ := rq_tup (.of a)
      cases rs with
      | cons ra rb =>
        cases rb with
        | cons rb rc =>
          cases rc
          cases key_v ra e1
          exact ⟨t :: ps, (q, _) :: kvs', rfl, .cons ht.sqt p1, .cons ⟨rfl, rb⟩ p2⟩
  | .tup [] :: _, _, _, h, _ => by simp [pairsOf] at h
  | .tup [_] :: _, _, _, h, _ => by simp [pairsOf] at h
  | .tup (_ :: _ :: _ :: _) :: _, _, _, h, _ => by simp [pairsOf] at h
  | .int _ :: _, _, _, h, _ => by simp [pairsOf] at h
  | .non :: _, _, _, h, _ => by simp [pairsOf] at h
  | .bl _ :: _, _, _, h, _ => by simp [pairsOf] at h
  | .str _ :: _, _, _, h, _ => by simp [pairsOf] at h
  | .ty _ :: _, _, _, h, _ => by simp [pairsOf] at h
  | .lst _ :: _, _, _, h, _ => by simp [pairsOf] at h
  | .ref _ :: _, _, _, h, _ => by simp [pairsOf] at h
  | .scr _ :: _, _, _, h, _ => by simp [pairsOf] at h
  | .dct _ _ :: _, _, _, h, _ => by simp [pairsOf] at h
theorem dict_f : CallF K (rDictZ K) gDict := fun W H vs ds d Q wf r h k => by
  unfold gDict at h
  split at h
  · obtain ⟨kvs, e1, rfl⟩ := Option.map_eq_some_iff.mp h
    obtain ⟨v, rfl, r1⟩ := rqs1 r
    obtain ⟨a, ws, rfl, q, z, rs⟩ := rq_tup r1
    obtain ⟨ps, kvs', rfl, p1, p2⟩ := pairs_rps e1 rs
    refine ⟨a, ps, kvs', rfl, q, p1, by simpa using z, fun p hp => ?_⟩
    obtain ⟨m1, m2⟩ := rkv_rps (rkv_merge p2 .nil)
    rw [m1]
    exact k p _ hp (by rw [List.length_map, List.length_map]; have := m2.length; simpa using this.symm) m2
  · cases h

/-! ### d.get(k, x) -/
def dFind (ks : List Key) (ds : List D) (k : Key) : Option D := ((ks.zip ds).find? fun kv => decide (kv.1 = k)).map (·.2)
theorem find_rps {k : Key} : ∀ {ks : List Key} {vs : List V} {ds : List D}, Rps K W H vs ds →
    (valV (ks.zip vs) k = none ∧ dFind ks ds k = none) ∨ ∃ v d, valV (ks.zip vs) k = some v ∧ dFind ks ds k = some d ∧ Rp K W H v d
  | [], _, _, _ => .inl ⟨by simp [valV], by simp [dFind]⟩
  | _ :: _, _, _, .nil => .inl ⟨by simp [valV], by simp [dFind]⟩
  | k' :: ks, _, _, .cons (v := v) (d := d) a b => by
    by_cases e : k' = k
    · exact .inr ⟨v, d, by simp [valV, e], by simp [dFind, e], a⟩
    · rcases find_rps (k := k) (ks := ks) b with ⟨h1, h2⟩ | ⟨v', d', h1, h2, h3⟩
      · exact .inl ⟨by simpa [valV, e] using h1, by simpa [dFind, e] using h2⟩
      · exact .inr ⟨v', d', by simpa [valV, e] using h1, by simpa [dFind, e] using h2, h3⟩
end
def eGet2 (fo fe ff : Ex) : Ex := fun ρ S => (fo ρ S).bind fun p => (fe ρ p.2).bind fun q => (ff ρ q.2).bind fun r => match p.1 with
  | .dct ks ds => q.1.key.map fun k => ((dFind ks ds k).getD r.1, r.2)
  | _ => none
theorem rq_dct {K : PySem.W.Frag} {W : Wd} {H : Hp} {v : V} {ks : List Key} {ds : List D} (r : Rq K W H v (.dct ks ds)) : ∃ a vs, v = .ref a ∧ H a = some (.dK (ks.zip vs)) ∧ ks.length = vs.length ∧ Rps K W H vs ds := by
  cases r with
  | of r => cases r with
    | dct n h z rs => exact ⟨_, _, rfl, h, z, rs⟩
  | dct n h z rs => exact ⟨_, _, rfl, h, z, rs⟩
section
variable {X : Cx} {o e f : Expr} {fo fe ff : Ex} {apos cpos : Pos}
theorem e_get2 (hu : X.A.units + 1 < cLine) (ho : B X o fo) (he : E X e fe) (hf : E X f ff) (m : M2 X o "get" apos e f cpos) : E X (.Call (.Attribute o "get" apos) [e, f] [] cpos) (eGet2 fo fe ff) := pe_imp (pe_dget2 hu ho he hf m) fun σ H Q ⟨W, ρ, S, d, S', rl, hf, k⟩ => by
  unfold eGet2 at hf
  obtain ⟨⟨pd, S1⟩, e1, hf⟩ := Option.bind_eq_some_iff.mp hf
  obtain ⟨⟨qd, S2⟩, e2, hf⟩ := Option.bind_eq_some_iff.mp hf
  obtain ⟨⟨rd, S3⟩, e3, hf⟩ := Option.bind_eq_some_iff.mp hf
  cases pd with
  | dct ks ds =>
    obtain ⟨kk, e4, hf⟩ := Option.map_eq_some_iff.mp hf
    cases hf
    refine ⟨W, ρ, S, _, S1, rl, e1, fun v1 H1 s1 st1 r1 => ?_⟩
    have rl1 := rl.stepE s1 st1
    obtain ⟨a, vs, rfl, _, _, _⟩ := rq_dct r1
    refine ⟨a, rfl, ?_, W, ρ, S1, qd, S2, rl1, e2, fun v2 H2 s2 st2 r2 => ?_⟩
    · obtain ⟨a', vs, e, h, _, _⟩ := rq_dct r1
      cases e
      exact .inl ⟨_, .inl h⟩
    have rl2 := rl1.stepE s2 st2
    refine ⟨W, ρ, S2, rd, S3, rl2, e3, fun v3 H3 s3 st3 r3 => ?_⟩
    cases key_v r2 e4
    obtain ⟨a', vs, e, h, hl, rs⟩ := rq_dct (r1.stepE (s2.trans s3))
    cases e
    refine ⟨valV (ks.zip vs) kk, .k h, k _ _ ((s1.trans s2).trans s3) st3 ?_⟩
    rcases find_rps (k := kk) (ks := ks) rs with ⟨h1, h2⟩ | ⟨v', d', h1, h2, h3⟩
    · rw [h1, h2]; exact r3
    · rw [h1, h2]; exact h3
  | _ => cases hf
end

/-! ## 15. x.insert(i, y) -/
def gInsert : Cell → List D → Option (Cell × D)
  | .lst xs, [.int i, y] => if xs.length < sizeLine ∧ 0 ≤ i ∧ i < 2 ^ 63 then some (.lst (xs.take i.toNat ++ [y] ++ xs.drop i.toNat), .non) else none
  | _, _ => none
theorem insert_d {K : PySem.W.Frag} : MutD K (fun x vs H Q => ∃ (l : Addr) (xs : List V) (i : Int) (y : V), x = .ref l ∧ vs = [.int i, y] ∧ H l = some (.lst xs) ∧ xs.length < sizeLine ∧ 0 ≤ i ∧ i < 2 ^ 63 ∧
    Q .non (upd H l (.lst (xs.take i.toNat ++ [y] ++ xs.drop i.toNat)))) gInsert := fun W H a vs ds c c' d Q m cc rs h k => by
  unfold gInsert at h
  split at h
  · rename_i xs i y
    by_cases z : xs.length < sizeLine ∧ 0 ≤ i ∧ i < 2 ^ 63
    · rw [if_pos z] at h
      cases h
      obtain ⟨ws, e, hz, rw'⟩ := cc
      cases rs with
      | @cons y1 _ _ _ r1 r2 =>
        cases r2 with
        | @cons y2 _ _ _ r2 r3 =>
          cases r3
          cases rp_int r1
          have kp : Kps K W H W (upd H a (.lst (ws.take i.toNat ++ [y2] ++ ws.drop i.toNat))) := kps_cell e trivial m
          refine ⟨a, ws, i, y2, rfl, rfl, e, by rw [rw'.length]; exact z.1, z.2.1, z.2.2, k _ _ ⟨_, upd_same, ?_, (((rw'.take i.toNat).append (.cons r2 .nil)).append (rw'.drop i.toNat)).keeps kp⟩ .non⟩
          have := rw'.length
          rw [List.length_append, List.length_append, List.length_take, List.length_drop, List.length_singleton]
          omega
    · rw [if_neg z] at h; cases h
  · cases h
theorem insert_l : ∀ c ds z, gInsert c ds = some z → isLst c = true := fun c ds z h => by
  cases c with
  | lst xs => rfl
  | dct ks vs => cases h

/-! ## 16. a new list goes into the store -/
def sPub (i : Nat) (g : Stm) : Stm := fun ρ S => match ρ[i]? with
  | some (.ow c) => g (ρ.set i (.sh (.ref S.length))) (S ++ [c])
  | _ => none
def Wd.pub (W : Wd) (i : Nat) (a : Addr) : Wd := { W with θ := W.θ ++ [a], α := fun j => if j = i then none else W.α j }
theorem pub_rel {K : PySem.W.Frag} {W : Wd} {H : Hp} {σ : L2.St} {ρ : Rho} {S : Sto} {i : Nat} {c : Cell} (rl : Rel K W H σ ρ S) (hi : ρ[i]? = some (.ow c)) : ∃ a, StepS W H (W.pub i a) H ∧ Rel K (W.pub i a) H σ (ρ.set i (.sh (.ref S.length))) (S ++ [c]) := by
  have wf := rl.wf
  obtain ⟨a, h1, h2, h3⟩ := rl.sl i _ hi
  have al : ∀ {j b}, (W.pub i a).α j = some b → j ≠ i ∧ W.α j = some b := fun {j b} h => by
    unfold Wd.pub at h
    by_cases e : j = i
    · simp only [e, if_pos] at h; cases h
    · simp only [if_neg e] at h; exact ⟨e, h⟩
  have tm : ∀ b, b ∈ (W.pub i a).θ → b ∈ W.θ ∨ b = a := fun b h => by simpa [Wd.pub] using h
  have mt : ∀ b, Mt (W.pub i a) b → Mt W b := fun b m => m.elim (fun z => (tm b z).elim .inl fun e => .inr ⟨i, by rw [e]; exact h2⟩) fun ⟨j, h⟩ => .inr ⟨j, (al h).2⟩
  have st : StepS W H (W.pub i a) H := ⟨rfl, ⟨[a], rfl⟩, fun b h n => (tm b h).elim (fun z => absurd z n) fun e => .inl ⟨i, by rw [e]; exact h2⟩, fun b o h n => ⟨h, fun m => n (mt b m)⟩, fun _ _ h => h, fun _ _ _ h => h, fun _ o h => ⟨o, h⟩⟩
  have ha := wf.dis i a h2
  refine ⟨a, st, by rw [List.length_set]; exact rl.len, fun j x e => ?_, ⟨by show (W.θ ++ [a]).length = _; rw [List.length_append, List.length_append, rl.st.1]; rfl, fun l b cc e1 e2 => ?_⟩, ⟨?_, fun j l b h1 h2 => wf.inj j l b (al h1).2 (al h2).2, fun j b h => ⟨fun m => ?_, (wf.dis j b (al h).2).2⟩, fun b m => wf.dom b (m.elim .inl fun z => .inr (mt b z))⟩⟩
  · by_cases hj : i = j
    · subst hj
      rw [List.getElem?_set_self (List.getElem?_eq_some_iff.mp hi).1] at e
      cases e
      refine ⟨.ref a, h1, .ref ?_⟩
      show (W.θ ++ [a])[S.length]? = some a
      rw [← rl.st.1, List.getElem?_append_right (Nat.le_refl _), Nat.sub_self]
      rfl
    · rw [List.getElem?_set_ne hj] at e
      have q := rl.sl j x e
      cases x with
      | un => trivial
      | sh d => obtain ⟨v, q1, q2⟩ := q; exact ⟨v, q1, q2.step st⟩
      | ow cc =>
        obtain ⟨b, q1, q2, q3⟩ := q
        exact ⟨b, q1, by show (if j = i then none else W.α j) = some b; rw [if_neg (Ne.symm hj)]; exact q2, q3.keeps st.keeps rfl⟩
  · have e1' : (W.θ ++ [a])[l]? = some b := e1
    rcases Nat.lt_or_ge l W.θ.length with z | z
    · rw [List.getElem?_append_left z] at e1'
      rw [List.getElem?_append_left (by rw [← rl.st.1]; exact z)] at e2
      exact (rl.st.2 l b cc e1' e2).keeps st.keeps rfl
    · rw [List.getElem?_append_right z] at e1'
      rw [List.getElem?_append_right (by rw [← rl.st.1]; exact z)] at e2
      have hz : l - W.θ.length = 0 := by
        cases hq : l - W.θ.length with
        | zero => rfl
        | succ n => rw [hq] at e1'; simp at e1'
      rw [hz] at e1'
      rw [← rl.st.1, hz] at e2
      cases e1'
      cases e2
      exact h3.keeps st.keeps rfl
  · show (W.θ ++ [a]).Nodup
    rw [List.nodup_append]
    refine ⟨wf.nd, by simp, fun x hx y hy => ?_⟩
    simp at hy
    subst hy
    exact fun e => ha.1 (e ▸ hx)
  · rcases tm b m with z | z
    · exact (wf.dis j b (al h).2).1 z
    · subst z
      exact (al h).1 (wf.inj j i b (al h).2 h2)
section
variable {X : Cx} {rest : List Stmt} {a : Stm}
theorem pub_d {K : PySem.W.Frag} {g : Stm} {i : Nat} {Z : Ends} {σ : L2.St} {H : Hp} (h : tS K (sPub i g) Z σ H) : tS K g Z σ H := by
  obtain ⟨W, ρ, S, o, rl, hf, k⟩ := h
  unfold sPub at hf
  split at hf
  · rename_i c e
    obtain ⟨b, s1, r1⟩ := pub_rel rl e
    exact ⟨_, _, _, o, r1, hf, k.before s1⟩
  · cases hf
theorem ss_pub (i : Nat) (h : SS X rest a) : SS X rest (sPub i a) := pss_imp h fun _ _ _ h => pub_d h
end

/-! ## 17. a def that gives a new list -/
def spN (K : PySem.W.Frag) (n : Nat) (F : Fn) : Sp := fun vs H Q _ => ∃ (W : Wd) (ds : List D) (S : Sto) (d : D) (S' : Sto), ds.length = n ∧ Rps K W H vs ds ∧ StOk K W H S ∧ WfW W H ∧ F ds S = some (d, S') ∧
  ∀ v H', StepE W.θ H H' → Rf K W H H' S' v d → Q v H'
def fnE (n : Nat) (f : Ex) : Fn := fun ds S => f (rho0 n ds) S
section
variable {P : Program} {w : World} {K : PySem.W.Frag} {mg : Str → Option Value} {base : Heap}
theorem fnN_ok {x qual : Str} {st : Stmt} {f : Addr} {fd : FuncData} {N ps : List Str} {k : Nat} {g : Ex} (F : Fun K x qual st f fd) (Sc : FnScope N ps (defScope st)) (hl : ps.length ≤ N.length)
    (hb : ∀ (cdv : Value) (A : Around) (outer : List Env) (s : Shared) (H : Hp) (E : XK), Room k (A.deeper (envOfC qual (defScope st) s.heap.objs.size f cdv)) → PSs (cxOf CX0 P w K mg base N qual (defScope st) f cdv A outer s H E).nox (defBody st) fun Z σ H => tF K g σ H Z.rt) :
    FnOk P w K mg base CX0 (k + 1) f fd ps (spN K ps.length (fnE N.length g)) := by
  refine F.ok Sc (fun vs H Q E h => ?_) (fun cdv A outer s H vs Q E hr h => ?_)
  · obtain ⟨W, ds, S, d, S', hn, rs, _⟩ := h
    rw [rs.length]; exact hn
  · obtain ⟨W, ds, S, d, S', hn, rs, st0, wf, hf, k0⟩ := h
    refine ⟨_, hb cdv A outer s H E hr, ?_⟩
    have m0 : ∀ b, Mu (⟨W.θ, Mu W, fun _ => none⟩ : Wd) b ↔ Mu W b := fun b => by
      constructor
      · rintro (m | m | ⟨j, m⟩)
        · exact m
        · exact .inr (.inl m)
        · cases m
      · exact .inl
    have kp0 : Kps K W H (⟨W.θ, Mu W, fun _ => none⟩ : Wd) H := Kps.less rfl fun b m => (m0 b).mp m
    have wf0 : WfW (⟨W.θ, Mu W, fun _ => none⟩ : Wd) H := ⟨wf.nd, (fun i j a h => (by cases h)), (fun i a h => (by cases h)), fun a m => wf.dom a ((m0 a).mp m)⟩
    have rs0 := rs.keeps kp0
    have rl0 : Rel K (⟨W.θ, Mu W, fun _ => none⟩ : Wd) H (L2.start N vs) (rho0 N.length ds) S := by
      refine ⟨?_, rho0_slot rs0, st0.keeps rfl kp0 fun _ _ => rfl, wf0⟩
      rw [rho0_length (by rw [hn]; exact hl)]
      unfold L2.start
      rw [List.length_append, List.length_map, List.length_replicate, rs.length]
      omega
    refine ⟨_, _, S, d, S', rl0, hf, fun v H' s r => k0 v H' s ?_⟩
    have kl : ∀ a, Kps K ((⟨W.θ, Mu W, fun _ => none⟩ : Wd).plus a) H' (W.plus a) H' := fun a => Kps.less rfl fun b m => mu_plus.mpr ((mu_plus.mp m).imp (m0 b).mpr id)
    cases r with
    | lst n e z st r => exact .lst n e z (st.keeps rfl (kl _) fun _ _ => rfl) (r.keeps (kl _))
    | dct n e z st r => exact .dct n e z (st.keeps rfl (kl _) fun _ _ => rfl) (r.keeps (kl _))
end
section
variable {X : Cx} {e : Expr} {fs : Ars}
theorem n_call {F : Fn} {n : Nat} (h : PE X e (tCall (spN X.K n F) [] E0 (tA X.K fs))) (hn : ∀ (ρ : Rho) (S S' : Sto) (ds : List D), fs ρ S = some (ds, S') → ds.length = n) : N X e (eCall F fs) := pe_imp h fun σ H Q ⟨W, ρ, S, d, S', rl, hf, k⟩ => by
  unfold eCall at hf
  cases e1 : fs ρ S with
  | none => rw [e1] at hf; cases hf
  | some p =>
    rw [e1, Option.bind_some] at hf
    refine ⟨W, ρ, S, p.1, p.2, rl, e1, fun vs H1 s1 st1 r1 => ?_⟩
    show spN X.K n F (vs ++ []) H1 Q E0
    rw [List.append_nil]
    exact ⟨W, p.1, p.2, d, S', hn _ _ _ _ e1, r1, st1, rl.wf.stepE s1, hf, fun v H2 s2 r2 => k v H2 (s1.trans s2) (r2.before s1)⟩
theorem ret_n {pos : Pos} {f : Ex} (h : N X e f) : PSs X [.Return (some e) pos] fun Z σ H => tF X.K f σ H Z.rt := by
  exact pss_imp (pss_one (ps_ret h)) fun Z σ H q => q
end
end DL

set_option Elab.async false
set_option linter.all false
set_option maxRecDepth 100000
namespace DL
open PySem PySem.Spec PyProof.Rows L2

/-! ## 18. a, b = x, y -/
def sPar (i j : Nat) (fs : Ars) : Stm := fun ρ S => (fs ρ S).bind fun p => match p.1 with
  | [x, y] => some (.nx ((ρ.set i (.sh x)).set j (.sh y)) p.2)
  | _ => none
def sPar3 (i j l : Nat) (fs : Ars) : Stm := fun ρ S => (fs ρ S).bind fun p => match p.1 with
  | [x, y, z] => some (.nx (((ρ.set i (.sh x)).set j (.sh y)).set l (.sh z)) p.2)
  | _ => none
section
variable {X : Cx} {st : Stmt} {fs : Ars}
theorem st_par {i j : Nat} (h : PS X st (tPar i j (tA X.K fs))) : ST X st (sPar i j fs) := ps_imp h fun Z σ H ⟨W, ρ, S, o, rl, hf, k⟩ => by
  unfold sPar at hf
  obtain ⟨⟨ds, S1⟩, e1, hf⟩ := Option.bind_eq_some_iff.mp hf
  refine ⟨W, ρ, S, ds, S1, rl, e1, fun vs H1 s1 st1 r1 => ?_⟩
  have rl1 := rl.stepE s1 st1
  match ds, hf with
  | [x, y], hf =>
    cases hf
    cases r1 with
    | @cons v _ _ _ r1 r2 =>
      cases r2 with
      | @cons v2 _ _ _ r2 r3 =>
        cases r3
        exact ⟨v, v2, rfl, k W _ H1 s1.toS ((rl1.setSh r1).setSh r2)⟩
theorem st_par3 {i j l : Nat} (h : PS X st (tPar3 i j l (tA X.K fs))) : ST X st (sPar3 i j l fs) := ps_imp h fun Z σ H ⟨W, ρ, S, o, rl, hf, k⟩ => by
  unfold sPar3 at hf
  obtain ⟨⟨ds, S1⟩, e1, hf⟩ := Option.bind_eq_some_iff.mp hf
  refine ⟨W, ρ, S, ds, S1, rl, e1, fun vs H1 s1 st1 r1 => ?_⟩
  have rl1 := rl.stepE s1 st1
  match ds, hf with
  | [x, y, z], hf =>
    cases hf
    cases r1 with
    | @cons v _ _ _ r1 r2 =>
      cases r2 with
      | @cons v2 _ _ _ r2 r3 =>
        cases r3 with
        | @cons v3 _ _ _ r3 r4 =>
          cases r4
          exact ⟨v, v2, v3, rfl, k W _ H1 s1.toS (((rl1.setSh r1).setSh r2).setSh r3)⟩
end
theorem tF_D {K : PySem.W.Frag} {f : Ex} {σ : L2.St} {H : Hp} {Q : VK} (h : tD K f σ H Q) : tF K f σ H Q := by
  obtain ⟨W, ρ, S, d, S', r, hf, k⟩ := h
  exact ⟨W, ρ, S, d, S', r, hf, fun v H' s rp => k v H' s rp.st (rp.rp r.wf)⟩
/-! ## 19. how many arguments -/
def AL (fs : Ars) (n : Nat) : Prop := ∀ (ρ : Rho) (S S' : Sto) (ds : List D), fs ρ S = some (ds, S') → ds.length = n
theorem al0 : AL aNil 0 := aNil_len
theorem alS {f : Ex} {fs : Ars} {n : Nat} (h : AL fs n) : AL (aCons f fs) (n + 1) := aCons_len h
/-! ## 20. what the names of builtins give -/
theorem bt_len : bootBuiltins "len" = some (.builtin "len") := by decide +kernel
theorem bt_sum : bootBuiltins "sum" = some (.builtin "sum") := by decide +kernel
theorem bt_all : bootBuiltins "all" = some (.builtin "all") := by decide +kernel
theorem bt_any : bootBuiltins "any" = some (.builtin "any") := by decide +kernel
theorem bt_abs : bootBuiltins "abs" = some (.builtin "abs") := by decide +kernel
theorem bt_max : bootBuiltins "max" = some (.builtin "max") := by decide +kernel
theorem bt_min : bootBuiltins "min" = some (.builtin "min") := by decide +kernel
theorem bt_sorted : bootBuiltins "sorted" = some (.builtin "sorted") := by decide +kernel
theorem bt_isinstance : bootBuiltins "isinstance" = some (.builtin "isinstance") := by decide +kernel
theorem bt_repr : bootBuiltins "repr" = some (.builtin "repr") := by decide +kernel
theorem bt_int : bootBuiltins "int" = some (.type "int") := by decide +kernel
theorem bt_tuple : bootBuiltins "tuple" = some (.type "tuple") := by decide +kernel
theorem bt_list : bootBuiltins "list" = some (.type "list") := by decide +kernel
theorem bt_dict : bootBuiltins "dict" = some (.type "dict") := by decide +kernel
theorem bt_set : bootBuiltins "set" = some (.type "set") := by decide +kernel
theorem bt_bool : bootBuiltins "bool" = some (.type "bool") := by decide +kernel
theorem bt_str : bootBuiltins "str" = some (.type "str") := by decide +kernel
end DL
namespace DL
open PySem PySem.Spec PyProof.Rows L2
/-! ## 21. a def of the top, as the walk finds it -/
structure DefAt (K : PySem.W.Frag) (mg : Str → Option Value) (x q : Str) (st : Stmt) (ps : List Str) where
  f : Addr
  d : FuncData
  F : Fun K x q st f d
  m : mg x = some (.ref f)
  k : PySem.W.keepIn K (.ref f) = true
  b : Binds K d ps []
end DL

set_option Elab.async false
set_option linter.all false
set_option maxRecDepth 100000
namespace DL
open PySem PySem.Spec PyProof.Rows L2

/-! ## 22. the law's def, and the top -/
def spLaw (K : PySem.W.Frag) : Sp := fun vs H Q _ => ∃ (a : Addr) (ns : List Int), vs = [.ref a] ∧ ScrAt K H a ns ∧ ns.length ≤ 63 ∧ ∀ H', Q (.bl true) H'
theorem scr_of {K : PySem.W.Frag} {H : Hp} {a : Addr} {ns : List Int} (o : Only H) (h : SqL K H a (ns.map V.int)) : ScrAt K H a ns := by
  rcases h with (h | ⟨ob, h⟩) | h
  · rcases o a with e | ⟨ob, xs, e⟩
    · rw [h] at e; cases e
    · rw [h] at e; cases e
  · exact .inl ⟨ob, h⟩
  · exact .inr h
section
variable {P : Program} {w : World} {K : PySem.W.Frag} {mg : Str → Option Value} {base : Heap}
theorem fnL_ok {x qual : Str} {st : Stmt} {f : Addr} {fd : FuncData} {N ps : List Str} {k : Nat} {b : Stm} (F : Fun K x qual st f fd) (Sc : FnScope N ps (defScope st)) (hl : ps.length ≤ N.length) (h1 : ps.length = 1)
    (hb : ∀ (cdv : Value) (A : Around) (outer : List Env) (s : Shared) (H : Hp) (E : XK), Room k (A.deeper (envOfC qual (defScope st) s.heap.objs.size f cdv)) → SS (cxOf CX0 P w K mg base N qual (defScope st) f cdv A outer s H E).nox (defBody st) b)
    (math : ∀ ns : List Int, ns.length ≤ 63 → ∃ S', b (rho0 N.length [.scr ns]) [] = some (.rt (.bl true) S')) :
    FnOk P w K mg base CX0 (k + 1) f fd ps (spLaw K) := by
  refine F.ok Sc (fun vs H Q E h => ?_) (fun cdv A outer s H vs Q E hr h => ?_)
  · obtain ⟨a, ns, rfl, _⟩ := h
    exact h1.symm
  · obtain ⟨a, ns, rfl, hs, hn, k0⟩ := h
    refine ⟨_, hb cdv A outer s H E hr, ?_⟩
    obtain ⟨S', e⟩ := math ns hn
    have hm : ∀ b, ¬ Mu (⟨[], fun _ => False, fun _ => none⟩ : Wd) b := fun b m => by
      rcases m with m | m | ⟨j, m⟩
      · exact m
      · cases m
      · cases m
    have wf0 : WfW (⟨[], fun _ => False, fun _ => none⟩ : Wd) H := ⟨List.nodup_nil, (fun i j a h => (by cases h)), (fun i a h => (by cases h)), fun a m => absurd m (hm a)⟩
    have hz : ns.length ≤ sizeLine := Nat.le_trans hn (by decide)
    have rs0 : Rps K (⟨[], fun _ => False, fun _ => none⟩ : Wd) H [.ref a] [.scr ns] := .cons (.scr hz hs) .nil
    have rl0 : Rel K (⟨[], fun _ => False, fun _ => none⟩ : Wd) H (L2.start N [.ref a]) (rho0 N.length [.scr ns]) [] := by
      refine ⟨?_, rho0_slot rs0, ⟨rfl, fun l a c e => by simp at e⟩, wf0⟩
      rw [rho0_length (by show 1 ≤ N.length; omega)]
      unfold L2.start
      rw [List.length_append, List.length_map, List.length_replicate]
      show 1 + (N.length - 1) = N.length
      omega
    exact ⟨_, _, _, _, rl0, e, fun W' v H' _ _ _ r => by cases r; exact k0 H'⟩
theorem defAt_mk {h : Heap} {x q : Str} {st : Stmt} {ps : List Str} {f : Addr} {oc : Value} {od an : Option Addr} {osl : Array (Option Value)} {kV doc pm cdv ct : Value} (X : K.In h) (G : h.Ns mainGlobals mg)
    (a : PySem.W.nsIn K mainGlobals x = some (some (.ref f))) (l : K.lookup f = some ⟨oc, od, .func (PySem.W.fnOf x q (defArgs st) (defBody st) (defScope st) .none kV doc pm an cdv ct), osl⟩)
    (c : PySem.W.codeIn K cdv q = true) (k : PySem.W.keepIn K (.ref f) = true)
    (b : ∀ (kV doc pm : Value) (an : Option Addr) (cdv ct : Value) (us : List Value), us.length = ps.length → bindArgs (PySem.W.fnOf x q (defArgs st) (defBody st) (defScope st) .none kV doc pm an cdv ct) ⟨us, []⟩ = pure (ps.zip us)) :
    mg x = some (.ref f) ∧ Fun K x q st f (PySem.W.fnOf x q (defArgs st) (defBody st) (defScope st) .none kV doc pm an cdv ct) ∧ Binds K (PySem.W.fnOf x q (defArgs st) (defBody st) (defScope st) .none kV doc pm an cdv ct) ps [] :=
  ⟨PySem.W.mg_of X G a, fun_mk (st := st) l c k, (fun_mk (st := st) l c k).binds b⟩
theorem walkD {l : PySem.W.OpenLaw} {k : Nat} {q : Program} {loose : List Str} {XP : (Str → Option Value) → Heap → Prop} {YP : World → Heap → Prop} {d : DefRec} {K : Params → PySem.W.Frag} (hr : Room k callerA) (hn : l.most = some 63) (hdf : d.params.defaults = [])
    (hY : ∀ (w : World) (h : Heap), YP w h → (K w.params).In h)
    (F : ∀ (w : World) (mg : Str → Option Value) (fa : Addr) (h : Heap), (K w.params).In h → h.Ns mainGlobals mg → mg d.name = some (.ref fa) →
      ∃ fd : FuncData, (∀ (s : Shared) (u : Value), BindsTo s fd ⟨[u], []⟩ [("script", u)]) ∧ ∀ base : Heap, (K w.params).In base → base.Ns mainGlobals mg → FnOk l.prog w (K w.params) mg base CX0 k fa fd ["script"] (spLaw (K w.params))) :
    PySem.W.WalkO q loose XP YP l.row.toRowW d [] (fun f vs => PySem.call f vs) :=
  L2.walk_of (n := 63) (k := k) (x := "script") (CX := fun _ => CX0) (sp := fun w => spLaw (K w.params)) hn (by decide) hdf hr hY F (fun _ _ a ns hl ho hS => ⟨a, ns, rfl, scr_of ho hS, hl, fun _ => rfl⟩) fun _ _ _ _ _ z => z
end
end DL

set_option Elab.async false
set_option linter.all false
set_option maxRecDepth 100000
set_option maxHeartbeats 4000000
/-! printed by gen.py: the walk through every def -/
namespace K64
open PySem PySem.Spec PyProof.Rows L2 DL
def top (i : Nat) : Stmt := PySem.Challenge.pw_causeworth_k64_values_of_doors.main.body.getD i (.Pass ⟨0, 0, 0, 0⟩)
abbrev s_fraction : Stmt := top 2
abbrev s_rows_of : Stmt := top 7
abbrev s_fits : Stmt := top 8
abbrev s_together : Stmt := top 13
abbrev s__law_start : Stmt := top 18
abbrev s__law_fill : Stmt := top 19
abbrev s__law_divisor : Stmt := top 21
abbrev s__law_rows : Stmt := top 22
abbrev s__law_weight : Stmt := top 24
abbrev s__law_same : Stmt := top 29
abbrev s_plus : Stmt := top 3
abbrev s_times : Stmt := top 4
abbrev s_over : Stmt := top 5
abbrev s_values_of : Stmt := top 12
abbrev s__law_take : Stmt := top 20
abbrev s__law_events : Stmt := top 25
abbrev s__law_plus : Stmt := top 26
abbrev s_total : Stmt := top 6
abbrev s__law_world : Stmt := top 23
abbrev s__law_mixed : Stmt := top 27
abbrev s_chance : Stmt := top 9
abbrev s__law_front : Stmt := top 28
abbrev s_chance_given : Stmt := top 10
abbrev s_adjusted : Stmt := top 14
abbrev s_behind_front : Stmt := top 15
abbrev s_front_value : Stmt := top 16
abbrev s_law : Stmt := top 30
structure Top (K : PySem.W.Frag) (mg : Str → Option Value) where
  D_fraction : DefAt K mg "fraction" "fraction" s_fraction ["above", "below"]
  D_rows_of : DefAt K mg "rows_of" "rows_of" s_rows_of ["sizes"]
  D_fits : DefAt K mg "fits" "fits" s_fits ["row", "event"]
  D_together : DefAt K mg "together" "together" s_together ["first", "second"]
  D__law_start : DefAt K mg "_law_start" "_law_start" s__law_start ["script"]
  D__law_fill : DefAt K mg "_law_fill" "_law_fill" s__law_fill ["c"]
  D__law_divisor : DefAt K mg "_law_divisor" "_law_divisor" s__law_divisor ["a", "b"]
  D__law_rows : DefAt K mg "_law_rows" "_law_rows" s__law_rows ["sizes"]
  D__law_weight : DefAt K mg "_law_weight" "_law_weight" s__law_weight ["told", "event"]
  D__law_same : DefAt K mg "_law_same" "_law_same" s__law_same ["value", "due"]
  D_plus : DefAt K mg "plus" "plus" s_plus ["a", "b"]
  D_times : DefAt K mg "times" "times" s_times ["a", "b"]
  D_over : DefAt K mg "over" "over" s_over ["a", "b"]
  D_values_of : DefAt K mg "values_of" "values_of" s_values_of ["world", "variables"]
  D__law_take : DefAt K mg "_law_take" "_law_take" s__law_take ["c", "many"]
  D__law_events : DefAt K mg "_law_events" "_law_events" s__law_events ["told", "variables"]
  D__law_plus : DefAt K mg "_law_plus" "_law_plus" s__law_plus ["a", "b"]
  D_total : DefAt K mg "total" "total" s_total ["fractions"]
  D__law_world : DefAt K mg "_law_world" "_law_world" s__law_world ["c"]
  D__law_mixed : DefAt K mg "_law_mixed" "_law_mixed" s__law_mixed ["told", "ys", "event", "xs"]
  D_chance : DefAt K mg "chance" "chance" s_chance ["world", "event"]
  D__law_front : DefAt K mg "_law_front" "_law_front" s__law_front ["told", "x", "u", "ys", "zs"]
  D_chance_given : DefAt K mg "chance_given" "chance_given" s_chance_given ["world", "event", "seen"]
  D_adjusted : DefAt K mg "adjusted" "adjusted" s_adjusted ["world", "xs", "ys", "zs"]
  D_behind_front : DefAt K mg "behind_front" "behind_front" s_behind_front ["world", "x", "ys", "event"]
  D_front_value : DefAt K mg "front_value" "front_value" s_front_value ["world", "x", "u", "ys", "zs"]
  D_law : DefAt K mg "law" "law" s_law ["script"]
  z_abs : mg "abs" = none
  z_all : mg "all" = none
  z_any : mg "any" = none
  z_bool : mg "bool" = none
  z_dict : mg "dict" = none
  z_int : mg "int" = none
  z_isinstance : mg "isinstance" = none
  z_len : mg "len" = none
  z_max : mg "max" = none
  z_range : mg "range" = none
  z_sorted : mg "sorted" = none
  z_sum : mg "sum" = none
  z_tuple : mg "tuple" = none
  z_zip : mg "zip" = none
  g_gcd : mg "gcd" = some (.builtin "math.gcd")
section
variable {P : Program} {w : World} {K : PySem.W.Frag} {mg : Str → Option Value} {base : Heap}
theorem sc_fraction : FnScope ["above", "below", "g"] ["above", "below"] (defScope s_fraction) := ⟨rfl, rfl, rfl, by decide +kernel, rfl, by decide +kernel, by decide +kernel⟩
def b_fraction : Stm :=
    (sSeq (sAsg (eCB gGcd (aCons (bVar 0) (aCons (bVar 1) aNil))) (gNm 2))
    (sRet (eTup (aCons (eBin D.fdiv (bVar 0) (bVar 2)) (aCons (eBin D.fdiv (bVar 1) (bVar 2)) aNil)))))
def F_fraction : Fn := fnD 3 b_fraction
theorem ok_fraction (T : Top K mg) : FnOk P w K mg base CX0 1 T.D_fraction.f T.D_fraction.d ["above", "below"] (spD K 2 F_fraction) := fn_ok T.D_fraction.F sc_fraction (by decide) fun cdv A outer s H E hr =>
    (ss_cons (st_set (ps_set (i := 2) sc_fraction.nd rfl (by first | exact Or.inl rfl | exact Or.inr rfl) (e_cb (pe_callBfun cr_gcd (by rfl) T.g_gcd (aq_cons (b_var (pv 0)) (aq_cons (b_var (pv 1)) aq_nil))) gcd_d)))
    (ss_one (st_ret (e_tup (a_cons (e_bin op_fdivW fdiv_d (b_var (pv 0)) (b_var (pv 2))) (a_cons (e_bin op_fdivW fdiv_d (b_var (pv 1)) (b_var (pv 2))) a_nil))))))
theorem sc_rows_of : FnScope ["sizes", "found", "size", "row", "x"] ["sizes"] (defScope s_rows_of) := ⟨rfl, rfl, rfl, by decide +kernel, rfl, by decide +kernel, by decide +kernel⟩
def b_rows_of : Stm :=
    (sSeq (sAsg (eLst (aCons (eTup aNil) aNil)) (gNm 1))
    (sSeq (sFor (iSeq (eVar 0)) (gNm 2)
    (sAsg (eLc2 (iSeq (bVar 1)) (gNm 3) tYs (iRng (aCons (bVar 2) aNil)) (gNm 4) tYs (eBin D.add (bVar 3) (eTup (aCons (eVar 4) aNil))) [3, 4] [4]) (gNm 1)))
    (sRet (eCB gTuple (aCons (bVar 1) aNil)))))
def F_rows_of : Fn := fnD 5 b_rows_of
theorem ok_rows_of (T : Top K mg) : FnOk P w K mg base CX0 1 T.D_rows_of.f T.D_rows_of.d ["sizes"] (spD K 1 F_rows_of) := fn_ok T.D_rows_of.F sc_rows_of (by decide) fun cdv A outer s H E hr =>
    (ss_cons (st_set (ps_set (i := 1) sc_rows_of.nd rfl (by first | exact Or.inl rfl | exact Or.inr rfl) (e_of (n_lst (a_cons (e_tup a_nil) a_nil)))))
    (ss_cons (st_for (vs := [2]) PassesOwn.never rfl (it_seq (e_var (pv 0))) (g_name (pg_name sc_rows_of.nd rfl (by first | exact Or.inl rfl | exact Or.inr rfl)) (by decide))
    (ss_one (st_set (asg_imp (ps_setLc2 (i := 1) (own := [("row", 3), ("x", 4)]) (vs1 := [4]) rfl sc_rows_of.nd rfl rfl (by rfl) (ib_seq (b_var (pv 1))) (blkOk_by (by kernel_rfl)) (by decide) (fun _ _ _ _ _ => (g_name (pg_name sc_rows_of.nd rfl (by first | exact Or.inl rfl | exact Or.inr rfl)) (by decide))) (fun _ _ _ _ _ => ts_nil) (fun _ _ _ _ _ => (it_range1 (pi_range1 (by rfl) T.z_range (aq_cons (b_var (pv 2)) aq_nil)) (alS al0))) (fun _ _ _ _ _ => (g_name (pg_name sc_rows_of.nd rfl (by first | exact Or.inl rfl | exact Or.inr rfl)) (by decide))) (fun _ _ _ _ _ => ts_nil) (fun _ _ _ _ _ => (e_bin op_addD add_d (b_var (pv 3)) (b_of (e_tup (a_cons (e_var (pv 4)) a_nil)))))) fun _ _ _ h => lc2_f (tF_D h)))))
    (ss_one (st_ret (e_cb (pe_callTy call_tupleZ (by rfl) T.z_tuple bt_tuple (aq_cons (b_var (pv 1)) aq_nil)) tuple_d)))))
theorem sc_fits : FnScope ["row", "event", "v", "x"] ["row", "event"] (defScope s_fits) := ⟨rfl, rfl, rfl, by decide +kernel, rfl, by decide +kernel, by decide +kernel⟩
def b_fits : Stm :=
    (sRet (eCB gAll (aCons (eLc (iSeq (bVar 1)) (gTp 2 (gsCons (gNm 2) (gsCons (gNm 3) gsNil))) tYs (eBin D.eq (eBin D.ix (bVar 0) (bVar 2)) (bVar 3)) [2, 3]) aNil)))
def F_fits : Fn := fnD 4 b_fits
theorem ok_fits (T : Top K mg) : FnOk P w K mg base CX0 1 T.D_fits.f T.D_fits.d ["row", "event"] (spD K 2 F_fits) := fn_ok T.D_fits.F sc_fits (by decide) fun cdv A outer s H E hr =>
    (ss_one (st_ret (e_cb (pe_callB (cr_all (by rfl)) (by rfl) T.z_all bt_all (aq_cons (b_of (e_of (n_lc (own := [("v", 2), ("x", 3)]) rfl sc_fits.nd (ib_seq (b_var (pv 1))) (blkOk_by (by kernel_rfl)) (fun _ _ _ _ _ => (g_tup rfl (gs_cons (g_name (pg_name sc_fits.nd rfl (by first | exact Or.inl rfl | exact Or.inr rfl)) (by decide)) (gs_cons (g_name (pg_name sc_fits.nd rfl (by first | exact Or.inl rfl | exact Or.inr rfl)) (by decide)) gs_nil)))) (fun _ _ _ _ _ => ts_nil) (fun _ _ _ _ _ => (e_cmp (op_eqP hr.units) eq_d (b_of (e_ix (b_var (pv 0)) (b_var (pv 2)))) (b_var (pv 3))))))) aq_nil)) all_d)))
theorem sc_together : FnScope ["first", "second"] ["first", "second"] (defScope s_together) := ⟨rfl, rfl, rfl, by decide +kernel, rfl, by decide +kernel, by decide +kernel⟩
def b_together : Stm :=
    (sRet (eCB gTuple (aCons (eCB gSorted (aCons (eBin D.add (bVar 0) (bVar 1)) aNil)) aNil)))
def F_together : Fn := fnD 2 b_together
theorem ok_together (T : Top K mg) : FnOk P w K mg base CX0 1 T.D_together.f T.D_together.d ["first", "second"] (spD K 2 F_together) := fn_ok T.D_together.F sc_together (by decide) fun cdv A outer s H E hr =>
    (ss_one (st_ret (e_cb (pe_callTy call_tupleZ (by rfl) T.z_tuple bt_tuple (aq_cons (b_of (e_of (n_cb (pe_callB (cr_sortedD hr.units) (by rfl) T.z_sorted bt_sorted (aq_cons (b_of (e_bin op_addD add_d (b_var (pv 0)) (b_var (pv 1)))) aq_nil)) sorted_f))) aq_nil)) tuple_d)))
theorem sc__law_start : FnScope ["script", "cell"] ["script"] (defScope s__law_start) := ⟨rfl, rfl, rfl, by decide +kernel, rfl, by decide +kernel, by decide +kernel⟩
def b__law_start : Ex :=
    (eLst (aCons (eLc (iSeq (eSl D.slice (bVar 0) pNo (pIs (eC (.int 63))))) (gNm 1) tYs (eCB gInt (aCons (bVar 1) aNil)) [1]) (aCons (eC (.int 0)) (aCons (eC (.int 0)) (aCons (eC (.int 0)) (aCons (eC (.int 20)) aNil))))))
def F__law_start : Fn := fnE 2 b__law_start
theorem ok__law_start (T : Top K mg) : FnOk P w K mg base CX0 1 T.D__law_start.f T.D__law_start.d ["script"] (spN K 1 F__law_start) := fnN_ok T.D__law_start.F sc__law_start (by decide) fun cdv A outer s H E hr =>
    ret_n (n_lst (a_cons (e_of (n_lc (own := [("cell", 1)]) rfl sc__law_start.nd (ib_seq (b_of (e_sl sl_slice slice_d (b_var (pv 0)) p_no (p_is (b_of e_int))))) (blkOk_by (by kernel_rfl)) (fun _ _ _ _ _ => (g_name (pg_name sc__law_start.nd rfl (by first | exact Or.inl rfl | exact Or.inr rfl)) (by decide))) (fun _ _ _ _ _ => ts_nil) (fun _ _ _ _ _ => (e_cb (pe_callTy call_int1 (by rfl) T.z_int bt_int (aq_cons (b_var (pv 1)) aq_nil)) int_c)))) (a_cons e_int (a_cons e_int (a_cons e_int (a_cons e_int a_nil))))))
theorem sc__law_fill : FnScope ["c", "number"] ["c"] (defScope s__law_fill) := ⟨rfl, rfl, rfl, by decide +kernel, rfl, by decide +kernel, by decide +kernel⟩
def b__law_fill : Stm :=
    (sSeq (sSetR (eVar 0) (eBin D.add (eIxR (eVar 0) (eC (.int 3))) (eC (.int 1))) (eC (.int 3)))
    (sSeq (sAsg (eBin D.add (eBin D.mul (eIxR (eVar 0) (eC (.int 3))) (eC (.int 69621))) (eC (.int 12345))) (gNm 1))
    (sSeq (sIf (tBl (eBin D.lt (eIxR (eVar 0) (eC (.int 1))) (eCB gLen (aCons (eIxR (eVar 0) (eC (.int 0))) aNil)))) (sSeq (sAsg (eBin D.ix (eIxR (eVar 0) (eC (.int 0))) (eIxR (eVar 0) (eC (.int 1)))) (gNm 1))
    (sSeq (sSetR (eVar 0) (eBin D.add (eIxR (eVar 0) (eC (.int 1))) (eC (.int 1))) (eC (.int 1)))
    (sSeq (sIf (tBl (eBin D.lt (bVar 1) (eC (.int 0)))) (sAsg (eBin D.sub (eBin D.sub (eC (.int 0)) (eC (.int 1))) (bVar 1)) (gNm 1)) sNx)
    (sIf (tBl (eBin D.ge (bVar 1) (eBin D.pow (eC (.int 10)) (eC (.int 18))))) (sRet (eVar 1)) sNx)))) sNx)
    (sSeq (sIf (tAn (tTru (eIxR (eVar 0) (eC (.int 0)))) (tBl (eBin D.ge (eIxR (eVar 0) (eC (.int 1))) (eCB gLen (aCons (eIxR (eVar 0) (eC (.int 0))) aNil))))) (sAsg (eBin D.add (bVar 1) (eBin D.mod (eCB gInt (aCons (eBin D.ix (eIxR (eVar 0) (eC (.int 0))) (eUn D.neg (eC (.int 1)))) aNil)) (eC (.int 1000003)))) (gNm 1)) sNx)
    (sSeq (sAsg (eBin D.mod (eCB gInt (aCons (eBin D.add (eBin D.mul (bVar 1) (eC (.int 48271))) (eBin D.mul (eIxR (eVar 0) (eC (.int 3))) (eC (.int 69621)))) aNil)) (eC (.int 2147483647))) (gNm 1))
    (sRet (eBin D.add (eBin D.fdiv (eCB gInt (aCons (eBin D.add (eBin D.add (eBin D.mul (bVar 1) (bVar 1)) (eBin D.mul (eIxR (eVar 0) (eC (.int 3))) (eC (.int 7919)))) (eC (.int 11))) aNil)) (eC (.int 64))) (eC (.int 36028797018963968)))))))))
def F__law_fill : Fn := fnD 2 b__law_fill
theorem ok__law_fill (T : Top K mg) : FnOk P w K mg base CX0 1 T.D__law_fill.f T.D__law_fill.d ["c"] (spD K 1 F__law_fill) := fn_ok T.D__law_fill.F sc__law_fill (by decide) fun cdv A outer s H E hr =>
    (ss_cons (st_setR (ps_asg (e_bin op_addD add_d (b_of (e_ixR (e_var (pv 0)) (b_of e_int))) (b_of e_int)) (pg_sub (e_var (pv 0)) (b_of e_int) set_list)))
    (ss_cons (st_set (ps_set (i := 1) sc__law_fill.nd rfl (by first | exact Or.inl rfl | exact Or.inr rfl) (e_bin op_addD add_d (b_of (e_bin op_mulW mul_d (b_of (e_ixR (e_var (pv 0)) (b_of e_int))) (b_of e_int))) (b_of e_int))))
    (ss_cons (st_if (t_cmp op_lt lt_d (b_of (e_ixR (e_var (pv 0)) (b_of e_int))) (b_of (e_cb (pe_callB call_len (by rfl) T.z_len bt_len (aq_cons (b_of (e_ixR (e_var (pv 0)) (b_of e_int))) aq_nil)) len_d))) (ss_cons (st_set (ps_set (i := 1) sc__law_fill.nd rfl (by first | exact Or.inl rfl | exact Or.inr rfl) (e_ix (b_of (e_ixR (e_var (pv 0)) (b_of e_int))) (b_of (e_ixR (e_var (pv 0)) (b_of e_int))))))
    (ss_cons (st_setR (ps_asg (e_bin op_addD add_d (b_of (e_ixR (e_var (pv 0)) (b_of e_int))) (b_of e_int)) (pg_sub (e_var (pv 0)) (b_of e_int) set_list)))
    (ss_cons (st_if (t_cmp op_lt lt_d (b_var (pv 1)) (b_of e_int)) (ss_one (st_set (ps_set (i := 1) sc__law_fill.nd rfl (by first | exact Or.inl rfl | exact Or.inr rfl) (e_bin op_sub sub_d (b_of (e_bin op_sub sub_d (b_of e_int) (b_of e_int))) (b_var (pv 1)))))) ss_nil)
    (ss_one (st_if (t_cmp op_ge ge_d (b_var (pv 1)) (b_of (e_bin op_pow pow_d (b_of e_int) (b_of e_int)))) (ss_one (st_ret (e_var (pv 1)))) ss_nil))))) ss_nil)
    (ss_cons (st_if (PW.pt (tw_and (t_tru (b_of (e_ixR (e_var (pv 0)) (b_of e_int)))) (tw_and1 (t_cmp op_ge ge_d (b_of (e_ixR (e_var (pv 0)) (b_of e_int))) (b_of (e_cb (pe_callB call_len (by rfl) T.z_len bt_len (aq_cons (b_of (e_ixR (e_var (pv 0)) (b_of e_int))) aq_nil)) len_d)))))) (ss_one (st_set (ps_set (i := 1) sc__law_fill.nd rfl (by first | exact Or.inl rfl | exact Or.inr rfl) (e_bin op_addD add_d (b_var (pv 1)) (b_of (e_bin op_modN mod_d (b_of (e_cb (pe_callTy call_int1 (by rfl) T.z_int bt_int (aq_cons (b_of (e_ix (b_of (e_ixR (e_var (pv 0)) (b_of e_int))) (b_of (e_neg (b_of e_int))))) aq_nil)) int_c)) (b_of e_int))))))) ss_nil)
    (ss_cons (st_set (ps_set (i := 1) sc__law_fill.nd rfl (by first | exact Or.inl rfl | exact Or.inr rfl) (e_bin op_modN mod_d (b_of (e_cb (pe_callTy call_int1 (by rfl) T.z_int bt_int (aq_cons (b_of (e_bin op_addD add_d (b_of (e_bin op_mulW mul_d (b_var (pv 1)) (b_of e_int))) (b_of (e_bin op_mulW mul_d (b_of (e_ixR (e_var (pv 0)) (b_of e_int))) (b_of e_int))))) aq_nil)) int_c)) (b_of e_int))))
    (ss_one (st_ret (e_bin op_addD add_d (b_of (e_bin op_fdivW fdiv_d (b_of (e_cb (pe_callTy call_int1 (by rfl) T.z_int bt_int (aq_cons (b_of (e_bin op_addD add_d (b_of (e_bin op_addD add_d (b_of (e_bin op_mulW mul_d (b_var (pv 1)) (b_var (pv 1)))) (b_of (e_bin op_mulW mul_d (b_of (e_ixR (e_var (pv 0)) (b_of e_int))) (b_of e_int))))) (b_of e_int))) aq_nil)) int_c)) (b_of e_int))) (b_of e_int)))))))))
theorem sc__law_divisor : FnScope ["a", "b", "turn"] ["a", "b"] (defScope s__law_divisor) := ⟨rfl, rfl, rfl, by decide +kernel, rfl, by decide +kernel, by decide +kernel⟩
def b__law_divisor : Stm :=
    (sSeq (sFor (iRng (aCons (eC (.int 20000)) aNil)) (gNm 2)
    (sSeq (sIf (tBl (eBin D.eq (bVar 1) (eC (.int 0)))) (sRet (eCB gAbs (aCons (bVar 0) aNil))) sNx)
    (sPar 0 1 (aCons (eVar 1) (aCons (eBin D.mod (bVar 0) (bVar 1)) aNil)))))
    (sRet (eC (.int 1))))
def F__law_divisor : Fn := fnD 3 b__law_divisor
theorem ok__law_divisor (T : Top K mg) : FnOk P w K mg base CX0 1 T.D__law_divisor.f T.D__law_divisor.d ["a", "b"] (spD K 2 F__law_divisor) := fn_ok T.D__law_divisor.F sc__law_divisor (by decide) fun cdv A outer s H E hr =>
    (ss_cons (st_for (vs := [2]) PassesOwn.never rfl (it_range1 (pi_range1 (by rfl) T.z_range (aq_cons (b_of e_int) aq_nil)) (alS al0)) (g_name (pg_name sc__law_divisor.nd rfl (by first | exact Or.inl rfl | exact Or.inr rfl)) (by decide))
    (ss_cons (st_if (t_cmp (op_eqP hr.units) eq_d (b_var (pv 1)) (b_of e_int)) (ss_one (st_ret (e_cb (pe_callB call_abs (by rfl) T.z_abs bt_abs (aq_cons (b_var (pv 0)) aq_nil)) abs_d))) ss_nil)
    (ss_one (st_par (ps_par (i := 0) (j := 1) rfl sc__law_divisor.nd rfl rfl (by decide) rfl rfl (a_cons (e_var (pv 1)) (a_cons (e_bin op_modN mod_d (b_var (pv 0)) (b_var (pv 1))) a_nil)) (by rfl))))))
    (ss_one (st_ret e_int)))
theorem sc__law_rows : FnScope ["sizes", "found", "size", "longer", "row", "x"] ["sizes"] (defScope s__law_rows) := ⟨rfl, rfl, rfl, by decide +kernel, rfl, by decide +kernel, by decide +kernel⟩
def b__law_rows : Stm :=
    (sSeq (sAsg (eLst (aCons (eTup aNil) aNil)) (gNm 1))
    (sSeq (sFor (iSeq (eVar 0)) (gNm 2)
    (sSeq (sAsg (eLst aNil) (gNm 3))
    (sSeq (sFor (iSeq (eVar 1)) (gNm 4)
    (sAsg (eBin D.add (bVar 3) (eLc (iRng (aCons (bVar 2) aNil)) (gNm 5) tYs (eBin D.add (bVar 4) (eTup (aCons (eVar 5) aNil))) [5])) (gNm 3)))
    (sAsg (eVar 3) (gNm 1)))))
    (sRet (eVar 1))))
def F__law_rows : Fn := fnD 6 b__law_rows
theorem ok__law_rows (T : Top K mg) : FnOk P w K mg base CX0 1 T.D__law_rows.f T.D__law_rows.d ["sizes"] (spD K 1 F__law_rows) := fn_ok T.D__law_rows.F sc__law_rows (by decide) fun cdv A outer s H E hr =>
    (ss_cons (st_set (ps_set (i := 1) sc__law_rows.nd rfl (by first | exact Or.inl rfl | exact Or.inr rfl) (e_of (n_lst (a_cons (e_tup a_nil) a_nil)))))
    (ss_cons (st_for (vs := [2]) PassesOwn.never rfl (it_seq (e_var (pv 0))) (g_name (pg_name sc__law_rows.nd rfl (by first | exact Or.inl rfl | exact Or.inr rfl)) (by decide))
    (ss_cons (st_set (ps_set (i := 3) sc__law_rows.nd rfl (by first | exact Or.inl rfl | exact Or.inr rfl) (e_of (n_lst a_nil))))
    (ss_cons (st_for (vs := [4]) PassesOwn.never rfl (it_seq (e_var (pv 1))) (g_name (pg_name sc__law_rows.nd rfl (by first | exact Or.inl rfl | exact Or.inr rfl)) (by decide))
    (ss_one (st_set (ps_set (i := 3) sc__law_rows.nd rfl (by first | exact Or.inl rfl | exact Or.inr rfl) (e_bin op_addD add_d (b_var (pv 3)) (b_of (e_of (n_lc (own := [("x", 5)]) rfl sc__law_rows.nd (it_range1 (pi_range1 (by rfl) T.z_range (aq_cons (b_var (pv 2)) aq_nil)) (alS al0)) (blkOk_by (by kernel_rfl)) (fun _ _ _ _ _ => (g_name (pg_name sc__law_rows.nd rfl (by first | exact Or.inl rfl | exact Or.inr rfl)) (by decide))) (fun _ _ _ _ _ => ts_nil) (fun _ _ _ _ _ => (e_bin op_addD add_d (b_var (pv 4)) (b_of (e_tup (a_cons (e_var (pv 5)) a_nil)))))))))))))
    (ss_one (st_set (ps_set (i := 1) sc__law_rows.nd rfl (by first | exact Or.inl rfl | exact Or.inr rfl) (e_var (pv 3))))))))
    (ss_one (st_ret (e_var (pv 1))))))
theorem sc__law_weight : FnScope ["told", "event", "sizes", "rows", "weights", "world", "i", "v", "x"] ["told", "event"] (defScope s__law_weight) := ⟨rfl, rfl, rfl, by decide +kernel, rfl, by decide +kernel, by decide +kernel⟩
def b__law_weight : Stm :=
    (sSeq (sAsg (eVar 0) (gTp 4 (gsCons (gNm 2) (gsCons (gNm 3) (gsCons (gNm 4) (gsCons (gNm 5) gsNil))))))
    (sRet (eCB gSum (aCons (eLc (iRng (aCons (eCB gLen (aCons (bVar 3) aNil)) aNil)) (gNm 6) (tTru (eCB gAll (aCons (eLc (iSeq (bVar 1)) (gTp 2 (gsCons (gNm 7) (gsCons (gNm 8) gsNil))) tYs (eBin D.eq (eBin D.ix (eBin D.ix (bVar 3) (bVar 6)) (bVar 7)) (bVar 8)) [7, 8]) aNil))) (eBin D.ix (bVar 4) (bVar 6)) [6]) aNil))))
def F__law_weight : Fn := fnD 9 b__law_weight
theorem ok__law_weight (T : Top K mg) : FnOk P w K mg base CX0 1 T.D__law_weight.f T.D__law_weight.d ["told", "event"] (spD K 2 F__law_weight) := fn_ok T.D__law_weight.F sc__law_weight (by decide) fun cdv A outer s H E hr =>
    (ss_cons (st_asg (vs := [2, 3, 4, 5]) (ps_asg (e_var (pv 0)) (g_tup rfl (gs_cons (g_name (pg_name sc__law_weight.nd rfl (by first | exact Or.inl rfl | exact Or.inr rfl)) (by decide)) (gs_cons (g_name (pg_name sc__law_weight.nd rfl (by first | exact Or.inl rfl | exact Or.inr rfl)) (by decide)) (gs_cons (g_name (pg_name sc__law_weight.nd rfl (by first | exact Or.inl rfl | exact Or.inr rfl)) (by decide)) (gs_cons (g_name (pg_name sc__law_weight.nd rfl (by first | exact Or.inl rfl | exact Or.inr rfl)) (by decide)) gs_nil)))))))
    (ss_one (st_ret (e_cb (pe_callB (cr_sum (by rfl)) (by rfl) T.z_sum bt_sum (aq_cons (b_of (e_of (n_lc (own := [("i", 6)]) rfl sc__law_weight.nd (it_range1 (pi_range1 (by rfl) T.z_range (aq_cons (b_of (e_cb (pe_callB call_len (by rfl) T.z_len bt_len (aq_cons (b_var (pv 3)) aq_nil)) len_d)) aq_nil)) (alS al0)) (blkOk_by (by kernel_rfl)) (fun _ _ _ _ _ => (g_name (pg_name sc__law_weight.nd rfl (by first | exact Or.inl rfl | exact Or.inr rfl)) (by decide))) (fun _ _ _ _ _ => (ts_one (t_tru (b_of (e_cb (pe_callB (cr_all (by rfl)) (by rfl) T.z_all bt_all (aq_cons (b_of (e_of (n_lc (own := [("v", 7), ("x", 8)]) rfl sc__law_weight.nd (ib_seq (b_var (pv 1))) (blkOk_by (by kernel_rfl)) (fun _ _ _ _ _ => (g_tup rfl (gs_cons (g_name (pg_name sc__law_weight.nd rfl (by first | exact Or.inl rfl | exact Or.inr rfl)) (by decide)) (gs_cons (g_name (pg_name sc__law_weight.nd rfl (by first | exact Or.inl rfl | exact Or.inr rfl)) (by decide)) gs_nil)))) (fun _ _ _ _ _ => ts_nil) (fun _ _ _ _ _ => (e_cmp (op_eqP hr.units) eq_d (b_of (e_ix (b_of (e_ix (b_var (pv 3)) (b_var (pv 6)))) (b_var (pv 7)))) (b_var (pv 8))))))) aq_nil)) all_d))))) (fun _ _ _ _ _ => (e_ix (b_var (pv 4)) (b_var (pv 6))))))) aq_nil)) sum_d))))
theorem sc__law_same : FnScope ["value", "due"] ["value", "due"] (defScope s__law_same) := ⟨rfl, rfl, rfl, by decide +kernel, rfl, by decide +kernel, by decide +kernel⟩
def b__law_same : Stm :=
    (sSeq (sIf (tBl (eBin D.isN (bVar 1) (eC .non))) (sRet (eBin D.isN (bVar 0) (eC .non))) sNx)
    (sRet (eAn (eCB gIsi (aCons (bVar 0) (aCons (eC (.ty "tuple")) aNil))) (eAn (eBin D.eq (eCB gLen (aCons (bVar 0) aNil)) (eC (.int 2))) (eAn (eNo (eCB gIsi (aCons (eBin D.ix (bVar 0) (eC (.int 0))) (aCons (eC (.ty "bool")) aNil)))) (eBin D.eq (bVar 0) (bVar 1)))))))
def F__law_same : Fn := fnD 2 b__law_same
theorem ok__law_same (T : Top K mg) : FnOk P w K mg base CX0 1 T.D__law_same.f T.D__law_same.d ["value", "due"] (spD K 2 F__law_same) := fn_ok T.D__law_same.F sc__law_same (by decide) fun cdv A outer s H E hr =>
    (ss_cons (st_if (t_cmp op_isN isN_d (b_var (pv 1)) (b_of e_non)) (ss_one (st_ret (e_cmp op_isN isN_d (b_var (pv 0)) (b_of e_non)))) ss_nil)
    (ss_one (st_ret (e_and (e_cb (pe_callB call_isi (by rfl) T.z_isinstance bt_isinstance (aq_cons (b_var (pv 0)) (aq_cons (b_of (e_ty (by rfl) T.z_tuple bt_tuple)) aq_nil))) isi_d) (e_and (e_cmp (op_eqP hr.units) eq_d (b_of (e_cb (pe_callB call_len (by rfl) T.z_len bt_len (aq_cons (b_var (pv 0)) aq_nil)) len_d)) (b_of e_int)) (e_and (e_not (b_of (e_cb (pe_callB call_isi (by rfl) T.z_isinstance bt_isinstance (aq_cons (b_of (e_ix (b_var (pv 0)) (b_of e_int))) (aq_cons (b_of (e_ty (by rfl) T.z_bool bt_bool)) aq_nil))) isi_d))) (e_one (e_cmp (op_eqP hr.units) eq_d (b_var (pv 0)) (b_var (pv 1))))))))))
theorem sc_plus : FnScope ["a", "b"] ["a", "b"] (defScope s_plus) := ⟨rfl, rfl, rfl, by decide +kernel, rfl, by decide +kernel, by decide +kernel⟩
def b_plus : Stm :=
    (sRet (eCall F_fraction (aCons (eBin D.add (eBin D.mul (eBin D.ix (bVar 0) (eC (.int 0))) (eBin D.ix (bVar 1) (eC (.int 1)))) (eBin D.mul (eBin D.ix (bVar 1) (eC (.int 0))) (eBin D.ix (bVar 0) (eC (.int 1))))) (aCons (eBin D.mul (eBin D.ix (bVar 0) (eC (.int 1))) (eBin D.ix (bVar 1) (eC (.int 1)))) aNil))))
def F_plus : Fn := fnD 2 b_plus
theorem ok_plus (T : Top K mg) : FnOk P w K mg base CX0 2 T.D_plus.f T.D_plus.d ["a", "b"] (spD K 2 F_plus) := fn_ok T.D_plus.F sc_plus (by decide) fun cdv A outer s H E hr =>
    (ss_one (st_ret (e_call (pe_call (ok_fraction T) (hr.mono (by decide)) (by rfl) T.D_fraction.m T.D_fraction.k T.D_fraction.b .nil pass0 (a_cons (e_bin op_addD add_d (b_of (e_bin op_mulW mul_d (b_of (e_ix (b_var (pv 0)) (b_of e_int))) (b_of (e_ix (b_var (pv 1)) (b_of e_int))))) (b_of (e_bin op_mulW mul_d (b_of (e_ix (b_var (pv 1)) (b_of e_int))) (b_of (e_ix (b_var (pv 0)) (b_of e_int)))))) (a_cons (e_bin op_mulW mul_d (b_of (e_ix (b_var (pv 0)) (b_of e_int))) (b_of (e_ix (b_var (pv 1)) (b_of e_int)))) a_nil))) (alS (alS al0)))))
theorem sc_times : FnScope ["a", "b"] ["a", "b"] (defScope s_times) := ⟨rfl, rfl, rfl, by decide +kernel, rfl, by decide +kernel, by decide +kernel⟩
def b_times : Stm :=
    (sRet (eCall F_fraction (aCons (eBin D.mul (eBin D.ix (bVar 0) (eC (.int 0))) (eBin D.ix (bVar 1) (eC (.int 0)))) (aCons (eBin D.mul (eBin D.ix (bVar 0) (eC (.int 1))) (eBin D.ix (bVar 1) (eC (.int 1)))) aNil))))
def F_times : Fn := fnD 2 b_times
theorem ok_times (T : Top K mg) : FnOk P w K mg base CX0 2 T.D_times.f T.D_times.d ["a", "b"] (spD K 2 F_times) := fn_ok T.D_times.F sc_times (by decide) fun cdv A outer s H E hr =>
    (ss_one (st_ret (e_call (pe_call (ok_fraction T) (hr.mono (by decide)) (by rfl) T.D_fraction.m T.D_fraction.k T.D_fraction.b .nil pass0 (a_cons (e_bin op_mulW mul_d (b_of (e_ix (b_var (pv 0)) (b_of e_int))) (b_of (e_ix (b_var (pv 1)) (b_of e_int)))) (a_cons (e_bin op_mulW mul_d (b_of (e_ix (b_var (pv 0)) (b_of e_int))) (b_of (e_ix (b_var (pv 1)) (b_of e_int)))) a_nil))) (alS (alS al0)))))
theorem sc_over : FnScope ["a", "b", "above", "below"] ["a", "b"] (defScope s_over) := ⟨rfl, rfl, rfl, by decide +kernel, rfl, by decide +kernel, by decide +kernel⟩
def b_over : Stm :=
    (sSeq (sPar 2 3 (aCons (eBin D.mul (eBin D.ix (bVar 0) (eC (.int 0))) (eBin D.ix (bVar 1) (eC (.int 1)))) (aCons (eBin D.mul (eBin D.ix (bVar 0) (eC (.int 1))) (eBin D.ix (bVar 1) (eC (.int 0)))) aNil)))
    (sRet (eIf (tBl (eBin D.gt (bVar 3) (eC (.int 0)))) (eCall F_fraction (aCons (eVar 2) (aCons (eVar 3) aNil))) (eCall F_fraction (aCons (eBin D.sub (eC (.int 0)) (bVar 2)) (aCons (eBin D.sub (eC (.int 0)) (bVar 3)) aNil))))))
def F_over : Fn := fnD 4 b_over
theorem ok_over (T : Top K mg) : FnOk P w K mg base CX0 2 T.D_over.f T.D_over.d ["a", "b"] (spD K 2 F_over) := fn_ok T.D_over.F sc_over (by decide) fun cdv A outer s H E hr =>
    (ss_cons (st_par (ps_par (i := 2) (j := 3) rfl sc_over.nd rfl rfl (by decide) rfl rfl (a_cons (e_bin op_mulW mul_d (b_of (e_ix (b_var (pv 0)) (b_of e_int))) (b_of (e_ix (b_var (pv 1)) (b_of e_int)))) (a_cons (e_bin op_mulW mul_d (b_of (e_ix (b_var (pv 0)) (b_of e_int))) (b_of (e_ix (b_var (pv 1)) (b_of e_int)))) a_nil)) (by rfl)))
    (ss_one (st_ret (e_if (t_cmp op_gt gt_d (b_var (pv 3)) (b_of e_int)) (e_call (pe_call (ok_fraction T) (hr.mono (by decide)) (by rfl) T.D_fraction.m T.D_fraction.k T.D_fraction.b .nil pass0 (a_cons (e_var (pv 2)) (a_cons (e_var (pv 3)) a_nil))) (alS (alS al0))) (e_call (pe_call (ok_fraction T) (hr.mono (by decide)) (by rfl) T.D_fraction.m T.D_fraction.k T.D_fraction.b .nil pass0 (a_cons (e_bin op_sub sub_d (b_of e_int) (b_var (pv 2))) (a_cons (e_bin op_sub sub_d (b_of e_int) (b_var (pv 3))) a_nil))) (alS (alS al0)))))))
theorem sc_values_of : FnScope ["world", "variables", "rows", "v", "row"] ["world", "variables"] (defScope s_values_of) := ⟨rfl, rfl, rfl, by decide +kernel, rfl, by decide +kernel, by decide +kernel⟩
def b_values_of : Stm :=
    (sSeq (sAsg (eCall F_rows_of (aCons (eCB gTuple (aCons (eLc (iSeq (bVar 1)) (gNm 3) tYs (eBin D.ix (eBin D.ix (bVar 0) (eC (.int 0))) (bVar 3)) [3]) aNil)) aNil)) (gNm 2))
    (sRet (eLc (iSeq (bVar 2)) (gNm 4) tYs (eCB gTupZip (aCons (bVar 1) (aCons (bVar 4) aNil))) [4])))
def F_values_of : Fn := fnD 5 b_values_of
theorem ok_values_of (T : Top K mg) : FnOk P w K mg base CX0 2 T.D_values_of.f T.D_values_of.d ["world", "variables"] (spD K 2 F_values_of) := fn_ok T.D_values_of.F sc_values_of (by decide) fun cdv A outer s H E hr =>
    (ss_cons (st_set (ps_set (i := 2) sc_values_of.nd rfl (by first | exact Or.inl rfl | exact Or.inr rfl) (e_call (pe_call (ok_rows_of T) (hr.mono (by decide)) (by rfl) T.D_rows_of.m T.D_rows_of.k T.D_rows_of.b .nil pass0 (a_cons (e_cb (pe_callTy call_tupleZ (by rfl) T.z_tuple bt_tuple (aq_cons (b_of (e_of (n_lc (own := [("v", 3)]) rfl sc_values_of.nd (ib_seq (b_var (pv 1))) (blkOk_by (by kernel_rfl)) (fun _ _ _ _ _ => (g_name (pg_name sc_values_of.nd rfl (by first | exact Or.inl rfl | exact Or.inr rfl)) (by decide))) (fun _ _ _ _ _ => ts_nil) (fun _ _ _ _ _ => (e_ix (b_of (e_ix (b_var (pv 0)) (b_of e_int))) (b_var (pv 3))))))) aq_nil)) tuple_d) a_nil)) (alS al0))))
    (ss_one (st_ret (e_of (n_lc (own := [("row", 4)]) rfl sc_values_of.nd (ib_seq (b_var (pv 2))) (blkOk_by (by kernel_rfl)) (fun _ _ _ _ _ => (g_name (pg_name sc_values_of.nd rfl (by first | exact Or.inl rfl | exact Or.inr rfl)) (by decide))) (fun _ _ _ _ _ => ts_nil) (fun _ _ _ _ _ => (e_cb (pe_tupzip (by rfl) (by rfl) T.z_tuple (by rfl) T.z_zip (aq_cons (b_var (pv 1)) (aq_cons (b_var (pv 4)) aq_nil))) tupzip_d)))))))
theorem sc__law_take : FnScope ["c", "many", "digit"] ["c", "many"] (defScope s__law_take) := ⟨rfl, rfl, rfl, by decide +kernel, rfl, by decide +kernel, by decide +kernel⟩
def b__law_take : Stm :=
    (sSeq (sIf (tBl (eBin D.lt (eIxR (eVar 0) (eC (.int 2))) (bVar 1))) (sSetR (eVar 0) (eCall F__law_fill (aCons (eVar 0) aNil)) (eC (.int 2))) sNx)
    (sSeq (sAsg (eBin D.mod (eCB gInt (aCons (eIxR (eVar 0) (eC (.int 2))) aNil)) (bVar 1)) (gNm 2))
    (sSeq (sSetR (eVar 0) (eBin D.fdiv (eIxR (eVar 0) (eC (.int 2))) (bVar 1)) (eC (.int 2)))
    (sRet (eVar 2)))))
def F__law_take : Fn := fnD 3 b__law_take
theorem ok__law_take (T : Top K mg) : FnOk P w K mg base CX0 2 T.D__law_take.f T.D__law_take.d ["c", "many"] (spD K 2 F__law_take) := fn_ok T.D__law_take.F sc__law_take (by decide) fun cdv A outer s H E hr =>
    (ss_cons (st_if (t_cmp op_lt lt_d (b_of (e_ixR (e_var (pv 0)) (b_of e_int))) (b_var (pv 1))) (ss_one (st_setR (ps_asg (e_call (pe_call (ok__law_fill T) (hr.mono (by decide)) (by rfl) T.D__law_fill.m T.D__law_fill.k T.D__law_fill.b .nil pass0 (a_cons (e_var (pv 0)) a_nil)) (alS al0)) (pg_sub (e_var (pv 0)) (b_of e_int) set_list)))) ss_nil)
    (ss_cons (st_set (ps_set (i := 2) sc__law_take.nd rfl (by first | exact Or.inl rfl | exact Or.inr rfl) (e_bin op_modN mod_d (b_of (e_cb (pe_callTy call_int1 (by rfl) T.z_int bt_int (aq_cons (b_of (e_ixR (e_var (pv 0)) (b_of e_int))) aq_nil)) int_c)) (b_var (pv 1)))))
    (ss_cons (st_setR (ps_asg (e_bin op_fdivW fdiv_d (b_of (e_ixR (e_var (pv 0)) (b_of e_int))) (b_var (pv 1))) (pg_sub (e_var (pv 0)) (b_of e_int) set_list)))
    (ss_one (st_ret (e_var (pv 2)))))))
theorem sc__law_events : FnScope ["told", "variables", "row", "i", "v"] ["told", "variables"] (defScope s__law_events) := ⟨rfl, rfl, rfl, by decide +kernel, rfl, by decide +kernel, by decide +kernel⟩
def b__law_events : Stm :=
    (sRet (eLc (iSeq (eCall F__law_rows (aCons (eLc (iSeq (bVar 1)) (gNm 4) tYs (eBin D.ix (eBin D.ix (bVar 0) (eC (.int 0))) (bVar 4)) [4]) aNil))) (gNm 2) tYs (eCB gTuple (aCons (eLc (iRng (aCons (eCB gLen (aCons (bVar 2) aNil)) aNil)) (gNm 3) tYs (eTup (aCons (eBin D.ix (bVar 1) (bVar 3)) (aCons (eBin D.ix (bVar 2) (bVar 3)) aNil))) [3]) aNil)) [2]))
def F__law_events : Fn := fnD 5 b__law_events
theorem ok__law_events (T : Top K mg) : FnOk P w K mg base CX0 2 T.D__law_events.f T.D__law_events.d ["told", "variables"] (spD K 2 F__law_events) := fn_ok T.D__law_events.F sc__law_events (by decide) fun cdv A outer s H E hr =>
    (ss_one (st_ret (e_of (n_lc (own := [("row", 2)]) rfl sc__law_events.nd (ib_seq (b_of (e_call (pe_call (ok__law_rows T) (hr.mono (by decide)) (by rfl) T.D__law_rows.m T.D__law_rows.k T.D__law_rows.b .nil pass0 (a_cons (e_of (n_lc (own := [("v", 4)]) rfl sc__law_events.nd (ib_seq (b_var (pv 1))) (blkOk_by (by kernel_rfl)) (fun _ _ _ _ _ => (g_name (pg_name sc__law_events.nd rfl (by first | exact Or.inl rfl | exact Or.inr rfl)) (by decide))) (fun _ _ _ _ _ => ts_nil) (fun _ _ _ _ _ => (e_ix (b_of (e_ix (b_var (pv 0)) (b_of e_int))) (b_var (pv 4)))))) a_nil)) (alS al0)))) (blkOk_by (by kernel_rfl)) (fun _ _ _ _ _ => (g_name (pg_name sc__law_events.nd rfl (by first | exact Or.inl rfl | exact Or.inr rfl)) (by decide))) (fun _ _ _ _ _ => ts_nil) (fun _ _ _ _ _ => (e_cb (pe_callTy call_tupleZ (by rfl) T.z_tuple bt_tuple (aq_cons (b_of (e_of (n_lc (own := [("i", 3)]) rfl sc__law_events.nd (it_range1 (pi_range1 (by rfl) T.z_range (aq_cons (b_of (e_cb (pe_callB call_len (by rfl) T.z_len bt_len (aq_cons (b_var (pv 2)) aq_nil)) len_d)) aq_nil)) (alS al0)) (blkOk_by (by kernel_rfl)) (fun _ _ _ _ _ => (g_name (pg_name sc__law_events.nd rfl (by first | exact Or.inl rfl | exact Or.inr rfl)) (by decide))) (fun _ _ _ _ _ => ts_nil) (fun _ _ _ _ _ => (e_tup (a_cons (e_ix (b_var (pv 1)) (b_var (pv 3))) (a_cons (e_ix (b_var (pv 2)) (b_var (pv 3))) a_nil))))))) aq_nil)) tuple_d))))))
theorem sc__law_plus : FnScope ["a", "b", "above", "below", "many"] ["a", "b"] (defScope s__law_plus) := ⟨rfl, rfl, rfl, by decide +kernel, rfl, by decide +kernel, by decide +kernel⟩
def b__law_plus : Stm :=
    (sSeq (sPar 2 3 (aCons (eBin D.add (eBin D.mul (eBin D.ix (bVar 0) (eC (.int 0))) (eBin D.ix (bVar 1) (eC (.int 1)))) (eBin D.mul (eBin D.ix (bVar 1) (eC (.int 0))) (eBin D.ix (bVar 0) (eC (.int 1))))) (aCons (eBin D.mul (eBin D.ix (bVar 0) (eC (.int 1))) (eBin D.ix (bVar 1) (eC (.int 1)))) aNil)))
    (sSeq (sAsg (eCall F__law_divisor (aCons (eVar 2) (aCons (eVar 3) aNil))) (gNm 4))
    (sRet (eTup (aCons (eBin D.fdiv (bVar 2) (bVar 4)) (aCons (eBin D.fdiv (bVar 3) (bVar 4)) aNil))))))
def F__law_plus : Fn := fnD 5 b__law_plus
theorem ok__law_plus (T : Top K mg) : FnOk P w K mg base CX0 2 T.D__law_plus.f T.D__law_plus.d ["a", "b"] (spD K 2 F__law_plus) := fn_ok T.D__law_plus.F sc__law_plus (by decide) fun cdv A outer s H E hr =>
    (ss_cons (st_par (ps_par (i := 2) (j := 3) rfl sc__law_plus.nd rfl rfl (by decide) rfl rfl (a_cons (e_bin op_addD add_d (b_of (e_bin op_mulW mul_d (b_of (e_ix (b_var (pv 0)) (b_of e_int))) (b_of (e_ix (b_var (pv 1)) (b_of e_int))))) (b_of (e_bin op_mulW mul_d (b_of (e_ix (b_var (pv 1)) (b_of e_int))) (b_of (e_ix (b_var (pv 0)) (b_of e_int)))))) (a_cons (e_bin op_mulW mul_d (b_of (e_ix (b_var (pv 0)) (b_of e_int))) (b_of (e_ix (b_var (pv 1)) (b_of e_int)))) a_nil)) (by rfl)))
    (ss_cons (st_set (ps_set (i := 4) sc__law_plus.nd rfl (by first | exact Or.inl rfl | exact Or.inr rfl) (e_call (pe_call (ok__law_divisor T) (hr.mono (by decide)) (by rfl) T.D__law_divisor.m T.D__law_divisor.k T.D__law_divisor.b .nil pass0 (a_cons (e_var (pv 2)) (a_cons (e_var (pv 3)) a_nil))) (alS (alS al0)))))
    (ss_one (st_ret (e_tup (a_cons (e_bin op_fdivW fdiv_d (b_var (pv 2)) (b_var (pv 4))) (a_cons (e_bin op_fdivW fdiv_d (b_var (pv 3)) (b_var (pv 4))) a_nil)))))))
theorem sc_total : FnScope ["fractions", "found", "one"] ["fractions"] (defScope s_total) := ⟨rfl, rfl, rfl, by decide +kernel, rfl, by decide +kernel, by decide +kernel⟩
def b_total : Stm :=
    (sSeq (sAsg (eTup (aCons (eC (.int 0)) (aCons (eC (.int 1)) aNil))) (gNm 1))
    (sSeq (sFor (iSeq (eVar 0)) (gNm 2)
    (sAsg (eCall F_plus (aCons (eVar 1) (aCons (eVar 2) aNil))) (gNm 1)))
    (sRet (eVar 1))))
def F_total : Fn := fnD 3 b_total
theorem ok_total (T : Top K mg) : FnOk P w K mg base CX0 3 T.D_total.f T.D_total.d ["fractions"] (spD K 1 F_total) := fn_ok T.D_total.F sc_total (by decide) fun cdv A outer s H E hr =>
    (ss_cons (st_set (ps_set (i := 1) sc_total.nd rfl (by first | exact Or.inl rfl | exact Or.inr rfl) (e_tup (a_cons e_int (a_cons e_int a_nil)))))
    (ss_cons (st_for (vs := [2]) PassesOwn.never rfl (it_seq (e_var (pv 0))) (g_name (pg_name sc_total.nd rfl (by first | exact Or.inl rfl | exact Or.inr rfl)) (by decide))
    (ss_one (st_set (ps_set (i := 1) sc_total.nd rfl (by first | exact Or.inl rfl | exact Or.inr rfl) (e_call (pe_call (ok_plus T) (hr.mono (by decide)) (by rfl) T.D_plus.m T.D_plus.k T.D_plus.b .nil pass0 (a_cons (e_var (pv 1)) (a_cons (e_var (pv 2)) a_nil))) (alS (alS al0)))))))
    (ss_one (st_ret (e_var (pv 1))))))
theorem sc__law_world : FnScope ["c", "sizes", "rows", "weights", "whole", "table", "weight", "many", "turn", "row"] ["c"] (defScope s__law_world) := ⟨rfl, rfl, rfl, by decide +kernel, rfl, by decide +kernel, by decide +kernel⟩
def b__law_world : Stm :=
    (sSeq (sAsg (eCB gTuple (aCons (eLc (iRng (aCons (eBin D.add (eC (.int 3)) (eCall F__law_take (aCons (eVar 0) (aCons (eC (.int 2)) aNil)))) aNil)) (gNm 8) tYs (eBin D.add (eC (.int 2)) (eCB gInt (aCons (eBin D.eq (eCall F__law_take (aCons (eVar 0) (aCons (eC (.int 4)) aNil))) (eC (.int 0))) aNil))) [8]) aNil)) (gNm 1))
    (sSeq (sAsg (eCall F__law_rows (aCons (eVar 1) aNil)) (gNm 2))
    (sSeq (sOwn (eLc (iSeq (bVar 2)) (gNm 9) tYs (eCB gMax2 (aCons (eC (.int 0)) (aCons (eBin D.sub (eCall F__law_take (aCons (eVar 0) (aCons (eC (.int 9)) aNil))) (eC (.int 2))) aNil))) [9]) 3)
    (sSeq (sSetIx 3 (eC (.int 3)) (eCall F__law_take (aCons (eVar 0) (aCons (eCB gLen (aCons (bVar 2) aNil)) aNil))))
    (sFz 3 (sSeq (sAsg (eCB gSum (aCons (bVar 3) aNil)) (gNm 4))
    (sSeq (sOwn (eLst aNil) 5)
    (sSeq (sFor (iSeq (eVar 3)) (gNm 6)
    (sSeq (sAsg (eCall F__law_divisor (aCons (eVar 6) (aCons (eVar 4) aNil))) (gNm 7))
    (sMut gAppend 5 (aCons (eTup (aCons (eBin D.fdiv (bVar 6) (bVar 7)) (aCons (eBin D.fdiv (bVar 4) (bVar 7)) aNil))) aNil))))
    (sFz 5 (sRet (eTup (aCons (eVar 1) (aCons (eVar 2) (aCons (eVar 3) (aCons (eTup (aCons (eVar 1) (aCons (eCB gTuple (aCons (bVar 5) aNil)) aNil))) aNil)))))))))))))))
def F__law_world : Fn := fnD 10 b__law_world
theorem ok__law_world (T : Top K mg) : FnOk P w K mg base CX0 3 T.D__law_world.f T.D__law_world.d ["c"] (spD K 1 F__law_world) := fn_ok T.D__law_world.F sc__law_world (by decide) fun cdv A outer s H E hr =>
    (ss_cons (st_set (ps_set (i := 1) sc__law_world.nd rfl (by first | exact Or.inl rfl | exact Or.inr rfl) (e_cb (pe_callTy call_tupleZ (by rfl) T.z_tuple bt_tuple (aq_cons (b_of (e_of (n_lc (own := [("turn", 8)]) rfl sc__law_world.nd (it_range1 (pi_range1 (by rfl) T.z_range (aq_cons (b_of (e_bin op_addD add_d (b_of e_int) (b_of (e_call (pe_call (ok__law_take T) (hr.mono (by decide)) (by rfl) T.D__law_take.m T.D__law_take.k T.D__law_take.b .nil pass0 (a_cons (e_var (pv 0)) (a_cons e_int a_nil))) (alS (alS al0)))))) aq_nil)) (alS al0)) (blkOk_by (by kernel_rfl)) (fun _ _ _ _ _ => (g_name (pg_name sc__law_world.nd rfl (by first | exact Or.inl rfl | exact Or.inr rfl)) (by decide))) (fun _ _ _ _ _ => ts_nil) (fun _ _ _ _ _ => (e_bin op_addD add_d (b_of e_int) (b_of (e_cb (pe_callTy call_int1 (by rfl) T.z_int bt_int (aq_cons (b_of (e_cmp (op_eqP hr.units) eq_d (b_of (e_call (pe_call (ok__law_take T) (hr.mono (by decide)) (by rfl) T.D__law_take.m T.D__law_take.k T.D__law_take.b .nil pass0 (a_cons (e_var (pv 0)) (a_cons e_int a_nil))) (alS (alS al0)))) (b_of e_int))) aq_nil)) int_c))))))) aq_nil)) tuple_d)))
    (ss_cons (st_set (ps_set (i := 2) sc__law_world.nd rfl (by first | exact Or.inl rfl | exact Or.inr rfl) (e_call (pe_call (ok__law_rows T) (hr.mono (by decide)) (by rfl) T.D__law_rows.m T.D__law_rows.k T.D__law_rows.b .nil pass0 (a_cons (e_var (pv 1)) a_nil)) (alS al0))))
    (ss_cons (st_own (asg_imp (ps_setLc (i := 3) (own := [("row", 9)]) rfl sc__law_world.nd rfl rfl (by rfl) (ib_seq (b_var (pv 2))) (blkOk_by (by kernel_rfl)) (fun _ _ _ _ _ => (g_name (pg_name sc__law_world.nd rfl (by first | exact Or.inl rfl | exact Or.inr rfl)) (by decide))) (fun _ _ _ _ _ => ts_nil) (fun _ _ _ _ _ => (e_cb (pe_callB (call_max2 (by rfl)) (by rfl) T.z_max bt_max (aq_cons (b_of e_int) (aq_cons (b_of (e_bin op_sub sub_d (b_of (e_call (pe_call (ok__law_take T) (hr.mono (by decide)) (by rfl) T.D__law_take.m T.D__law_take.k T.D__law_take.b .nil pass0 (a_cons (e_var (pv 0)) (a_cons e_int a_nil))) (alS (alS al0)))) (b_of e_int))) aq_nil))) max2_d))) fun _ _ _ h => lc_f h))
    (ss_cons (st_setIx (ps_asg e_int (pg_sub (pv 3) (b_of (e_call (pe_call (ok__law_take T) (hr.mono (by decide)) (by rfl) T.D__law_take.m T.D__law_take.k T.D__law_take.b .nil pass0 (a_cons (e_var (pv 0)) (a_cons (e_cb (pe_callB call_len (by rfl) T.z_len bt_len (aq_cons (b_var (pv 2)) aq_nil)) len_d) a_nil))) (alS (alS al0)))) set_list)))
    (ss_fz 3 (ss_cons (st_set (ps_set (i := 4) sc__law_world.nd rfl (by first | exact Or.inl rfl | exact Or.inr rfl) (e_cb (pe_callB (cr_sum (by rfl)) (by rfl) T.z_sum bt_sum (aq_cons (b_var (pv 3)) aq_nil)) sum_d)))
    (ss_cons (st_own (ps_set (i := 5) sc__law_world.nd rfl (by first | exact Or.inl rfl | exact Or.inr rfl) (n_lst a_nil)))
    (ss_cons (st_for (vs := [6]) PassesOwn.never rfl (it_seq (e_var (pv 3))) (g_name (pg_name sc__law_world.nd rfl (by first | exact Or.inl rfl | exact Or.inr rfl)) (by decide))
    (ss_cons (st_set (ps_set (i := 7) sc__law_world.nd rfl (by first | exact Or.inl rfl | exact Or.inr rfl) (e_call (pe_call (ok__law_divisor T) (hr.mono (by decide)) (by rfl) T.D__law_divisor.m T.D__law_divisor.k T.D__law_divisor.b .nil pass0 (a_cons (e_var (pv 6)) (a_cons (e_var (pv 4)) a_nil))) (alS (alS al0)))))
    (ss_one (st_mut (ps_expr (pe_bm PySem.F.plainAttrs_list PySem.F.slot_list_append PySem.F.type_list_append mt_append (pv 5) (a_cons (e_tup (a_cons (e_bin op_fdivW fdiv_d (b_var (pv 6)) (b_var (pv 7))) (a_cons (e_bin op_fdivW fdiv_d (b_var (pv 4)) (b_var (pv 7))) a_nil))) a_nil))) append_d append_l))))
    (ss_fz 5 (ss_one (st_ret (e_tup (a_cons (e_var (pv 1)) (a_cons (e_var (pv 2)) (a_cons (e_var (pv 3)) (a_cons (e_tup (a_cons (e_var (pv 1)) (a_cons (e_cb (pe_callTy call_tupleZ (by rfl) T.z_tuple bt_tuple (aq_cons (b_var (pv 5)) aq_nil)) tuple_d) a_nil))) a_nil))))))))))))))))
theorem sc__law_mixed : FnScope ["told", "ys", "event", "xs", "whole", "found", "zs", "weight", "below"] ["told", "ys", "event", "xs"] (defScope s__law_mixed) := ⟨rfl, rfl, rfl, by decide +kernel, rfl, by decide +kernel, by decide +kernel⟩
def b__law_mixed : Stm :=
    (sSeq (sPar 4 5 (aCons (eCB gSum (aCons (eBin D.ix (bVar 0) (eC (.int 2))) aNil)) (aCons (eTup (aCons (eC (.int 0)) (aCons (eC (.int 1)) aNil))) aNil)))
    (sSeq (sFor (iSeq (eVar 2)) (gNm 6)
    (sSeq (sAsg (eCall F__law_weight (aCons (eVar 0) (aCons (eVar 6) aNil))) (gNm 7))
    (sIf (tBl (eBin D.gt (bVar 7) (eC (.int 0)))) (sSeq (sAsg (eCall F__law_weight (aCons (eVar 0) (aCons (eBin D.add (bVar 3) (bVar 6)) aNil))) (gNm 8))
    (sSeq (sIf (tBl (eBin D.eq (bVar 8) (eC (.int 0)))) (sRet (eC .non)) sNx)
    (sAsg (eCall F__law_plus (aCons (eVar 5) (aCons (eTup (aCons (eBin D.mul (bVar 7) (eCall F__law_weight (aCons (eVar 0) (aCons (eBin D.add (eBin D.add (bVar 1) (bVar 3)) (bVar 6)) aNil)))) (aCons (eBin D.mul (bVar 4) (bVar 8)) aNil))) aNil))) (gNm 5)))) sNx)))
    (sRet (eVar 5))))
def F__law_mixed : Fn := fnD 9 b__law_mixed
theorem ok__law_mixed (T : Top K mg) : FnOk P w K mg base CX0 3 T.D__law_mixed.f T.D__law_mixed.d ["told", "ys", "event", "xs"] (spD K 4 F__law_mixed) := fn_ok T.D__law_mixed.F sc__law_mixed (by decide) fun cdv A outer s H E hr =>
    (ss_cons (st_par (ps_par (i := 4) (j := 5) rfl sc__law_mixed.nd rfl rfl (by decide) rfl rfl (a_cons (e_cb (pe_callB (cr_sum (by rfl)) (by rfl) T.z_sum bt_sum (aq_cons (b_of (e_ix (b_var (pv 0)) (b_of e_int))) aq_nil)) sum_d) (a_cons (e_tup (a_cons e_int (a_cons e_int a_nil))) a_nil)) (by rfl)))
    (ss_cons (st_for (vs := [6]) PassesOwn.never rfl (it_seq (e_var (pv 2))) (g_name (pg_name sc__law_mixed.nd rfl (by first | exact Or.inl rfl | exact Or.inr rfl)) (by decide))
    (ss_cons (st_set (ps_set (i := 7) sc__law_mixed.nd rfl (by first | exact Or.inl rfl | exact Or.inr rfl) (e_call (pe_call (ok__law_weight T) (hr.mono (by decide)) (by rfl) T.D__law_weight.m T.D__law_weight.k T.D__law_weight.b .nil pass0 (a_cons (e_var (pv 0)) (a_cons (e_var (pv 6)) a_nil))) (alS (alS al0)))))
    (ss_one (st_if (t_cmp op_gt gt_d (b_var (pv 7)) (b_of e_int)) (ss_cons (st_set (ps_set (i := 8) sc__law_mixed.nd rfl (by first | exact Or.inl rfl | exact Or.inr rfl) (e_call (pe_call (ok__law_weight T) (hr.mono (by decide)) (by rfl) T.D__law_weight.m T.D__law_weight.k T.D__law_weight.b .nil pass0 (a_cons (e_var (pv 0)) (a_cons (e_bin op_addD add_d (b_var (pv 3)) (b_var (pv 6))) a_nil))) (alS (alS al0)))))
    (ss_cons (st_if (t_cmp (op_eqP hr.units) eq_d (b_var (pv 8)) (b_of e_int)) (ss_one (st_ret e_non)) ss_nil)
    (ss_one (st_set (ps_set (i := 5) sc__law_mixed.nd rfl (by first | exact Or.inl rfl | exact Or.inr rfl) (e_call (pe_call (ok__law_plus T) (hr.mono (by decide)) (by rfl) T.D__law_plus.m T.D__law_plus.k T.D__law_plus.b .nil pass0 (a_cons (e_var (pv 5)) (a_cons (e_tup (a_cons (e_bin op_mulW mul_d (b_var (pv 7)) (b_of (e_call (pe_call (ok__law_weight T) (hr.mono (by decide)) (by rfl) T.D__law_weight.m T.D__law_weight.k T.D__law_weight.b .nil pass0 (a_cons (e_var (pv 0)) (a_cons (e_bin op_addD add_d (b_of (e_bin op_addD add_d (b_var (pv 1)) (b_var (pv 3)))) (b_var (pv 6))) a_nil))) (alS (alS al0))))) (a_cons (e_bin op_mulW mul_d (b_var (pv 4)) (b_var (pv 8))) a_nil))) a_nil))) (alS (alS al0)))))))) ss_nil))))
    (ss_one (st_ret (e_var (pv 5))))))
theorem sc_chance : FnScope ["world", "event", "row", "one"] ["world", "event"] (defScope s_chance) := ⟨rfl, rfl, rfl, by decide +kernel, rfl, by decide +kernel, by decide +kernel⟩
def b_chance : Stm :=
    (sRet (eCall F_total (aCons (eLc (iZp (aCons (eCall F_rows_of (aCons (eBin D.ix (bVar 0) (eC (.int 0))) aNil)) (aCons (eBin D.ix (bVar 0) (eC (.int 1))) aNil))) (gTp 2 (gsCons (gNm 2) (gsCons (gNm 3) gsNil))) (tTru (eCall F_fits (aCons (eVar 2) (aCons (eVar 1) aNil)))) (eVar 3) [2, 3]) aNil)))
def F_chance : Fn := fnD 4 b_chance
theorem ok_chance (T : Top K mg) : FnOk P w K mg base CX0 4 T.D_chance.f T.D_chance.d ["world", "event"] (spD K 2 F_chance) := fn_ok T.D_chance.F sc_chance (by decide) fun cdv A outer s H E hr =>
    (ss_one (st_ret (e_call (pe_call (ok_total T) (hr.mono (by decide)) (by rfl) T.D_total.m T.D_total.k T.D_total.b .nil pass0 (a_cons (e_of (n_lc (own := [("row", 2), ("one", 3)]) rfl sc_chance.nd (ib_zip (pi_zipZ (by rfl) T.z_zip (aq_cons (b_of (e_call (pe_call (ok_rows_of T) (hr.mono (by decide)) (by rfl) T.D_rows_of.m T.D_rows_of.k T.D_rows_of.b .nil pass0 (a_cons (e_ix (b_var (pv 0)) (b_of e_int)) a_nil)) (alS al0))) (aq_cons (b_of (e_ix (b_var (pv 0)) (b_of e_int))) aq_nil)))) (blkOk_by (by kernel_rfl)) (fun _ _ _ _ _ => (g_tup rfl (gs_cons (g_name (pg_name sc_chance.nd rfl (by first | exact Or.inl rfl | exact Or.inr rfl)) (by decide)) (gs_cons (g_name (pg_name sc_chance.nd rfl (by first | exact Or.inl rfl | exact Or.inr rfl)) (by decide)) gs_nil)))) (fun _ _ _ _ _ => (ts_one (t_tru (b_of (e_call (pe_call (ok_fits T) (hr.mono (by decide)) (by rfl) T.D_fits.m T.D_fits.k T.D_fits.b .nil pass0 (a_cons (e_var (pv 2)) (a_cons (e_var (pv 1)) a_nil))) (alS (alS al0))))))) (fun _ _ _ _ _ => (e_var (pv 3))))) a_nil)) (alS al0))))
theorem sc__law_front : FnScope ["told", "x", "u", "ys", "zs", "below", "found", "event", "weight", "one"] ["told", "x", "u", "ys", "zs"] (defScope s__law_front) := ⟨rfl, rfl, rfl, by decide +kernel, rfl, by decide +kernel, by decide +kernel⟩
def b__law_front : Stm :=
    (sSeq (sPar 5 6 (aCons (eCall F__law_weight (aCons (eVar 0) (aCons (eTup (aCons (eTup (aCons (eVar 1) (aCons (eVar 2) aNil))) aNil)) aNil))) (aCons (eTup (aCons (eC (.int 0)) (aCons (eC (.int 1)) aNil))) aNil)))
    (sSeq (sIf (tBl (eBin D.eq (bVar 5) (eC (.int 0)))) (sRet (eC .non)) sNx)
    (sSeq (sFor (iSeq (eCall F__law_events (aCons (eVar 0) (aCons (eVar 4) aNil)))) (gNm 7)
    (sSeq (sAsg (eCall F__law_weight (aCons (eVar 0) (aCons (eBin D.add (bVar 7) (eTup (aCons (eTup (aCons (eVar 1) (aCons (eVar 2) aNil))) aNil))) aNil))) (gNm 8))
    (sIf (tBl (eBin D.gt (bVar 8) (eC (.int 0)))) (sSeq (sAsg (eCall F__law_mixed (aCons (eVar 0) (aCons (eVar 3) (aCons (eCall F__law_events (aCons (eVar 0) (aCons (eTup (aCons (eVar 1) aNil)) aNil))) (aCons (eVar 7) aNil))))) (gNm 9))
    (sSeq (sIf (tBl (eBin D.isN (bVar 9) (eC .non))) (sRet (eC .non)) sNx)
    (sAsg (eCall F__law_plus (aCons (eVar 6) (aCons (eTup (aCons (eBin D.mul (eBin D.ix (bVar 9) (eC (.int 0))) (bVar 8)) (aCons (eBin D.mul (eBin D.ix (bVar 9) (eC (.int 1))) (bVar 5)) aNil))) aNil))) (gNm 6)))) sNx)))
    (sRet (eVar 6)))))
def F__law_front : Fn := fnD 10 b__law_front
theorem ok__law_front (T : Top K mg) : FnOk P w K mg base CX0 4 T.D__law_front.f T.D__law_front.d ["told", "x", "u", "ys", "zs"] (spD K 5 F__law_front) := fn_ok T.D__law_front.F sc__law_front (by decide) fun cdv A outer s H E hr =>
    (ss_cons (st_par (ps_par (i := 5) (j := 6) rfl sc__law_front.nd rfl rfl (by decide) rfl rfl (a_cons (e_call (pe_call (ok__law_weight T) (hr.mono (by decide)) (by rfl) T.D__law_weight.m T.D__law_weight.k T.D__law_weight.b .nil pass0 (a_cons (e_var (pv 0)) (a_cons (e_tup (a_cons (e_tup (a_cons (e_var (pv 1)) (a_cons (e_var (pv 2)) a_nil))) a_nil)) a_nil))) (alS (alS al0))) (a_cons (e_tup (a_cons e_int (a_cons e_int a_nil))) a_nil)) (by rfl)))
    (ss_cons (st_if (t_cmp (op_eqP hr.units) eq_d (b_var (pv 5)) (b_of e_int)) (ss_one (st_ret e_non)) ss_nil)
    (ss_cons (st_for (vs := [7]) PassesOwn.never rfl (it_seq (e_call (pe_call (ok__law_events T) (hr.mono (by decide)) (by rfl) T.D__law_events.m T.D__law_events.k T.D__law_events.b .nil pass0 (a_cons (e_var (pv 0)) (a_cons (e_var (pv 4)) a_nil))) (alS (alS al0)))) (g_name (pg_name sc__law_front.nd rfl (by first | exact Or.inl rfl | exact Or.inr rfl)) (by decide))
    (ss_cons (st_set (ps_set (i := 8) sc__law_front.nd rfl (by first | exact Or.inl rfl | exact Or.inr rfl) (e_call (pe_call (ok__law_weight T) (hr.mono (by decide)) (by rfl) T.D__law_weight.m T.D__law_weight.k T.D__law_weight.b .nil pass0 (a_cons (e_var (pv 0)) (a_cons (e_bin op_addD add_d (b_var (pv 7)) (b_of (e_tup (a_cons (e_tup (a_cons (e_var (pv 1)) (a_cons (e_var (pv 2)) a_nil))) a_nil)))) a_nil))) (alS (alS al0)))))
    (ss_one (st_if (t_cmp op_gt gt_d (b_var (pv 8)) (b_of e_int)) (ss_cons (st_set (ps_set (i := 9) sc__law_front.nd rfl (by first | exact Or.inl rfl | exact Or.inr rfl) (e_call (pe_call (ok__law_mixed T) (hr.mono (by decide)) (by rfl) T.D__law_mixed.m T.D__law_mixed.k T.D__law_mixed.b .nil pass0 (a_cons (e_var (pv 0)) (a_cons (e_var (pv 3)) (a_cons (e_call (pe_call (ok__law_events T) (hr.mono (by decide)) (by rfl) T.D__law_events.m T.D__law_events.k T.D__law_events.b .nil pass0 (a_cons (e_var (pv 0)) (a_cons (e_tup (a_cons (e_var (pv 1)) a_nil)) a_nil))) (alS (alS al0))) (a_cons (e_var (pv 7)) a_nil))))) (alS (alS (alS (alS al0)))))))
    (ss_cons (st_if (t_cmp op_isN isN_d (b_var (pv 9)) (b_of e_non)) (ss_one (st_ret e_non)) ss_nil)
    (ss_one (st_set (ps_set (i := 6) sc__law_front.nd rfl (by first | exact Or.inl rfl | exact Or.inr rfl) (e_call (pe_call (ok__law_plus T) (hr.mono (by decide)) (by rfl) T.D__law_plus.m T.D__law_plus.k T.D__law_plus.b .nil pass0 (a_cons (e_var (pv 6)) (a_cons (e_tup (a_cons (e_bin op_mulW mul_d (b_of (e_ix (b_var (pv 9)) (b_of e_int))) (b_var (pv 8))) (a_cons (e_bin op_mulW mul_d (b_of (e_ix (b_var (pv 9)) (b_of e_int))) (b_var (pv 5))) a_nil))) a_nil))) (alS (alS al0)))))))) ss_nil))))
    (ss_one (st_ret (e_var (pv 6)))))))
theorem sc_chance_given : FnScope ["world", "event", "seen", "below", "told", "v", "x"] ["world", "event", "seen"] (defScope s_chance_given) := ⟨rfl, rfl, rfl, by decide +kernel, rfl, by decide +kernel, by decide +kernel⟩
def b_chance_given : Stm :=
    (sSeq (sAsg (eCall F_chance (aCons (eVar 0) (aCons (eVar 2) aNil))) (gNm 3))
    (sSeq (sAsg (eCB gDict (aCons (bVar 2) aNil)) (gNm 4))
    (sSeq (sIf (tOr (tBl (eBin D.eq (eBin D.ix (bVar 3) (eC (.int 0))) (eC (.int 0)))) (tTru (eCB gAny (aCons (eLc (iSeq (bVar 1)) (gTp 2 (gsCons (gNm 5) (gsCons (gNm 6) gsNil))) tYs (eBin D.ne (eGet2 (bVar 4) (eVar 5) (eVar 6)) (bVar 6)) [5, 6]) aNil)))) (sRet (eC .non)) sNx)
    (sRet (eCall F_over (aCons (eCall F_chance (aCons (eVar 0) (aCons (eBin D.add (eCB gTuple (aCons (bVar 2) aNil)) (eCB gTuple (aCons (bVar 1) aNil))) aNil))) (aCons (eVar 3) aNil)))))))
def F_chance_given : Fn := fnD 7 b_chance_given
theorem ok_chance_given (T : Top K mg) : FnOk P w K mg base CX0 5 T.D_chance_given.f T.D_chance_given.d ["world", "event", "seen"] (spD K 3 F_chance_given) := fn_ok T.D_chance_given.F sc_chance_given (by decide) fun cdv A outer s H E hr =>
    (ss_cons (st_set (ps_set (i := 3) sc_chance_given.nd rfl (by first | exact Or.inl rfl | exact Or.inr rfl) (e_call (pe_call (ok_chance T) (hr.mono (by decide)) (by rfl) T.D_chance.m T.D_chance.k T.D_chance.b .nil pass0 (a_cons (e_var (pv 0)) (a_cons (e_var (pv 2)) a_nil))) (alS (alS al0)))))
    (ss_cons (st_set (ps_set (i := 4) sc_chance_given.nd rfl (by first | exact Or.inl rfl | exact Or.inr rfl) (e_of (n_cb (pe_callTy (call_dictZ (by rfl)) (by rfl) T.z_dict bt_dict (aq_cons (b_var (pv 2)) aq_nil)) dict_f))))
    (ss_cons (st_if (PW.pt (tw_or (t_cmp (op_eqP hr.units) eq_d (b_of (e_ix (b_var (pv 3)) (b_of e_int))) (b_of e_int)) (tw_or1 (t_tru (b_of (e_cb (pe_callB (cr_any (by rfl)) (by rfl) T.z_any bt_any (aq_cons (b_of (e_of (n_lc (own := [("v", 5), ("x", 6)]) rfl sc_chance_given.nd (ib_seq (b_var (pv 1))) (blkOk_by (by kernel_rfl)) (fun _ _ _ _ _ => (g_tup rfl (gs_cons (g_name (pg_name sc_chance_given.nd rfl (by first | exact Or.inl rfl | exact Or.inr rfl)) (by decide)) (gs_cons (g_name (pg_name sc_chance_given.nd rfl (by first | exact Or.inl rfl | exact Or.inr rfl)) (by decide)) gs_nil)))) (fun _ _ _ _ _ => ts_nil) (fun _ _ _ _ _ => (e_cmp (op_neP hr.units) ne_d (b_of (e_get2 (hu_of hr) (b_var (pv 4)) (e_var (pv 5)) (e_var (pv 6)) ⟨rfl, rfl, rfl, rfl⟩)) (b_var (pv 6))))))) aq_nil)) any_d)))))) (ss_one (st_ret e_non)) ss_nil)
    (ss_one (st_ret (e_call (pe_call (ok_over T) (hr.mono (by decide)) (by rfl) T.D_over.m T.D_over.k T.D_over.b .nil pass0 (a_cons (e_call (pe_call (ok_chance T) (hr.mono (by decide)) (by rfl) T.D_chance.m T.D_chance.k T.D_chance.b .nil pass0 (a_cons (e_var (pv 0)) (a_cons (e_bin op_addD add_d (b_of (e_cb (pe_callTy call_tupleZ (by rfl) T.z_tuple bt_tuple (aq_cons (b_var (pv 2)) aq_nil)) tuple_d)) (b_of (e_cb (pe_callTy call_tupleZ (by rfl) T.z_tuple bt_tuple (aq_cons (b_var (pv 1)) aq_nil)) tuple_d))) a_nil))) (alS (alS al0))) (a_cons (e_var (pv 3)) a_nil))) (alS (alS al0))))))))
theorem sc_adjusted : FnScope ["world", "xs", "ys", "zs", "found", "event", "weight", "one"] ["world", "xs", "ys", "zs"] (defScope s_adjusted) := ⟨rfl, rfl, rfl, by decide +kernel, rfl, by decide +kernel, by decide +kernel⟩
def b_adjusted : Stm :=
    (sSeq (sAsg (eTup (aCons (eC (.int 0)) (aCons (eC (.int 1)) aNil))) (gNm 4))
    (sSeq (sFor (iSeq (eCall F_values_of (aCons (eVar 0) (aCons (eVar 3) aNil)))) (gNm 5)
    (sSeq (sAsg (eCall F_chance (aCons (eVar 0) (aCons (eVar 5) aNil))) (gNm 6))
    (sIf (tBl (eBin D.gt (eBin D.ix (bVar 6) (eC (.int 0))) (eC (.int 0)))) (sSeq (sAsg (eCall F_chance_given (aCons (eVar 0) (aCons (eVar 2) (aCons (eCall F_together (aCons (eVar 1) (aCons (eVar 5) aNil))) aNil)))) (gNm 7))
    (sSeq (sIf (tBl (eBin D.isN (bVar 7) (eC .non))) (sRet (eC .non)) sNx)
    (sAsg (eCall F_plus (aCons (eVar 4) (aCons (eCall F_times (aCons (eVar 7) (aCons (eVar 6) aNil))) aNil))) (gNm 4)))) sNx)))
    (sRet (eVar 4))))
def F_adjusted : Fn := fnD 8 b_adjusted
theorem ok_adjusted (T : Top K mg) : FnOk P w K mg base CX0 6 T.D_adjusted.f T.D_adjusted.d ["world", "xs", "ys", "zs"] (spD K 4 F_adjusted) := fn_ok T.D_adjusted.F sc_adjusted (by decide) fun cdv A outer s H E hr =>
    (ss_cons (st_set (ps_set (i := 4) sc_adjusted.nd rfl (by first | exact Or.inl rfl | exact Or.inr rfl) (e_tup (a_cons e_int (a_cons e_int a_nil)))))
    (ss_cons (st_for (vs := [5]) PassesOwn.never rfl (it_seq (e_call (pe_call (ok_values_of T) (hr.mono (by decide)) (by rfl) T.D_values_of.m T.D_values_of.k T.D_values_of.b .nil pass0 (a_cons (e_var (pv 0)) (a_cons (e_var (pv 3)) a_nil))) (alS (alS al0)))) (g_name (pg_name sc_adjusted.nd rfl (by first | exact Or.inl rfl | exact Or.inr rfl)) (by decide))
    (ss_cons (st_set (ps_set (i := 6) sc_adjusted.nd rfl (by first | exact Or.inl rfl | exact Or.inr rfl) (e_call (pe_call (ok_chance T) (hr.mono (by decide)) (by rfl) T.D_chance.m T.D_chance.k T.D_chance.b .nil pass0 (a_cons (e_var (pv 0)) (a_cons (e_var (pv 5)) a_nil))) (alS (alS al0)))))
    (ss_one (st_if (t_cmp op_gt gt_d (b_of (e_ix (b_var (pv 6)) (b_of e_int))) (b_of e_int)) (ss_cons (st_set (ps_set (i := 7) sc_adjusted.nd rfl (by first | exact Or.inl rfl | exact Or.inr rfl) (e_call (pe_call (ok_chance_given T) (hr.mono (by decide)) (by rfl) T.D_chance_given.m T.D_chance_given.k T.D_chance_given.b .nil pass0 (a_cons (e_var (pv 0)) (a_cons (e_var (pv 2)) (a_cons (e_call (pe_call (ok_together T) (hr.mono (by decide)) (by rfl) T.D_together.m T.D_together.k T.D_together.b .nil pass0 (a_cons (e_var (pv 1)) (a_cons (e_var (pv 5)) a_nil))) (alS (alS al0))) a_nil)))) (alS (alS (alS al0))))))
    (ss_cons (st_if (t_cmp op_isN isN_d (b_var (pv 7)) (b_of e_non)) (ss_one (st_ret e_non)) ss_nil)
    (ss_one (st_set (ps_set (i := 4) sc_adjusted.nd rfl (by first | exact Or.inl rfl | exact Or.inr rfl) (e_call (pe_call (ok_plus T) (hr.mono (by decide)) (by rfl) T.D_plus.m T.D_plus.k T.D_plus.b .nil pass0 (a_cons (e_var (pv 4)) (a_cons (e_call (pe_call (ok_times T) (hr.mono (by decide)) (by rfl) T.D_times.m T.D_times.k T.D_times.b .nil pass0 (a_cons (e_var (pv 7)) (a_cons (e_var (pv 6)) a_nil))) (alS (alS al0))) a_nil))) (alS (alS al0)))))))) ss_nil))))
    (ss_one (st_ret (e_var (pv 4))))))
theorem sc_behind_front : FnScope ["world", "x", "ys", "event", "found", "own", "weight", "one"] ["world", "x", "ys", "event"] (defScope s_behind_front) := ⟨rfl, rfl, rfl, by decide +kernel, rfl, by decide +kernel, by decide +kernel⟩
def b_behind_front : Stm :=
    (sSeq (sAsg (eTup (aCons (eC (.int 0)) (aCons (eC (.int 1)) aNil))) (gNm 4))
    (sSeq (sFor (iSeq (eCall F_values_of (aCons (eVar 0) (aCons (eTup (aCons (eVar 1) aNil)) aNil)))) (gNm 5)
    (sSeq (sAsg (eCall F_chance (aCons (eVar 0) (aCons (eVar 5) aNil))) (gNm 6))
    (sIf (tBl (eBin D.gt (eBin D.ix (bVar 6) (eC (.int 0))) (eC (.int 0)))) (sSeq (sAsg (eCall F_chance_given (aCons (eVar 0) (aCons (eVar 2) (aCons (eCall F_together (aCons (eVar 5) (aCons (eVar 3) aNil))) aNil)))) (gNm 7))
    (sSeq (sIf (tBl (eBin D.isN (bVar 7) (eC .non))) (sRet (eC .non)) sNx)
    (sAsg (eCall F_plus (aCons (eVar 4) (aCons (eCall F_times (aCons (eVar 7) (aCons (eVar 6) aNil))) aNil))) (gNm 4)))) sNx)))
    (sRet (eVar 4))))
def F_behind_front : Fn := fnD 8 b_behind_front
theorem ok_behind_front (T : Top K mg) : FnOk P w K mg base CX0 6 T.D_behind_front.f T.D_behind_front.d ["world", "x", "ys", "event"] (spD K 4 F_behind_front) := fn_ok T.D_behind_front.F sc_behind_front (by decide) fun cdv A outer s H E hr =>
    (ss_cons (st_set (ps_set (i := 4) sc_behind_front.nd rfl (by first | exact Or.inl rfl | exact Or.inr rfl) (e_tup (a_cons e_int (a_cons e_int a_nil)))))
    (ss_cons (st_for (vs := [5]) PassesOwn.never rfl (it_seq (e_call (pe_call (ok_values_of T) (hr.mono (by decide)) (by rfl) T.D_values_of.m T.D_values_of.k T.D_values_of.b .nil pass0 (a_cons (e_var (pv 0)) (a_cons (e_tup (a_cons (e_var (pv 1)) a_nil)) a_nil))) (alS (alS al0)))) (g_name (pg_name sc_behind_front.nd rfl (by first | exact Or.inl rfl | exact Or.inr rfl)) (by decide))
    (ss_cons (st_set (ps_set (i := 6) sc_behind_front.nd rfl (by first | exact Or.inl rfl | exact Or.inr rfl) (e_call (pe_call (ok_chance T) (hr.mono (by decide)) (by rfl) T.D_chance.m T.D_chance.k T.D_chance.b .nil pass0 (a_cons (e_var (pv 0)) (a_cons (e_var (pv 5)) a_nil))) (alS (alS al0)))))
    (ss_one (st_if (t_cmp op_gt gt_d (b_of (e_ix (b_var (pv 6)) (b_of e_int))) (b_of e_int)) (ss_cons (st_set (ps_set (i := 7) sc_behind_front.nd rfl (by first | exact Or.inl rfl | exact Or.inr rfl) (e_call (pe_call (ok_chance_given T) (hr.mono (by decide)) (by rfl) T.D_chance_given.m T.D_chance_given.k T.D_chance_given.b .nil pass0 (a_cons (e_var (pv 0)) (a_cons (e_var (pv 2)) (a_cons (e_call (pe_call (ok_together T) (hr.mono (by decide)) (by rfl) T.D_together.m T.D_together.k T.D_together.b .nil pass0 (a_cons (e_var (pv 5)) (a_cons (e_var (pv 3)) a_nil))) (alS (alS al0))) a_nil)))) (alS (alS (alS al0))))))
    (ss_cons (st_if (t_cmp op_isN isN_d (b_var (pv 7)) (b_of e_non)) (ss_one (st_ret e_non)) ss_nil)
    (ss_one (st_set (ps_set (i := 4) sc_behind_front.nd rfl (by first | exact Or.inl rfl | exact Or.inr rfl) (e_call (pe_call (ok_plus T) (hr.mono (by decide)) (by rfl) T.D_plus.m T.D_plus.k T.D_plus.b .nil pass0 (a_cons (e_var (pv 4)) (a_cons (e_call (pe_call (ok_times T) (hr.mono (by decide)) (by rfl) T.D_times.m T.D_times.k T.D_times.b .nil pass0 (a_cons (e_var (pv 7)) (a_cons (e_var (pv 6)) a_nil))) (alS (alS al0))) a_nil))) (alS (alS al0)))))))) ss_nil))))
    (ss_one (st_ret (e_var (pv 4))))))
theorem sc_front_value : FnScope ["world", "x", "u", "ys", "zs", "found", "event", "weight", "one"] ["world", "x", "u", "ys", "zs"] (defScope s_front_value) := ⟨rfl, rfl, rfl, by decide +kernel, rfl, by decide +kernel, by decide +kernel⟩
def b_front_value : Stm :=
    (sSeq (sAsg (eTup (aCons (eC (.int 0)) (aCons (eC (.int 1)) aNil))) (gNm 5))
    (sSeq (sFor (iSeq (eCall F_values_of (aCons (eVar 0) (aCons (eVar 4) aNil)))) (gNm 6)
    (sSeq (sAsg (eCall F_chance_given (aCons (eVar 0) (aCons (eVar 6) (aCons (eTup (aCons (eTup (aCons (eVar 1) (aCons (eVar 2) aNil))) aNil)) aNil)))) (gNm 7))
    (sSeq (sIf (tBl (eBin D.isN (bVar 7) (eC .non))) (sRet (eC .non)) sNx)
    (sIf (tBl (eBin D.gt (eBin D.ix (bVar 7) (eC (.int 0))) (eC (.int 0)))) (sSeq (sAsg (eCall F_behind_front (aCons (eVar 0) (aCons (eVar 1) (aCons (eVar 3) (aCons (eVar 6) aNil))))) (gNm 8))
    (sSeq (sIf (tBl (eBin D.isN (bVar 8) (eC .non))) (sRet (eC .non)) sNx)
    (sAsg (eCall F_plus (aCons (eVar 5) (aCons (eCall F_times (aCons (eVar 8) (aCons (eVar 7) aNil))) aNil))) (gNm 5)))) sNx))))
    (sRet (eVar 5))))
def F_front_value : Fn := fnD 9 b_front_value
theorem ok_front_value (T : Top K mg) : FnOk P w K mg base CX0 7 T.D_front_value.f T.D_front_value.d ["world", "x", "u", "ys", "zs"] (spD K 5 F_front_value) := fn_ok T.D_front_value.F sc_front_value (by decide) fun cdv A outer s H E hr =>
    (ss_cons (st_set (ps_set (i := 5) sc_front_value.nd rfl (by first | exact Or.inl rfl | exact Or.inr rfl) (e_tup (a_cons e_int (a_cons e_int a_nil)))))
    (ss_cons (st_for (vs := [6]) PassesOwn.never rfl (it_seq (e_call (pe_call (ok_values_of T) (hr.mono (by decide)) (by rfl) T.D_values_of.m T.D_values_of.k T.D_values_of.b .nil pass0 (a_cons (e_var (pv 0)) (a_cons (e_var (pv 4)) a_nil))) (alS (alS al0)))) (g_name (pg_name sc_front_value.nd rfl (by first | exact Or.inl rfl | exact Or.inr rfl)) (by decide))
    (ss_cons (st_set (ps_set (i := 7) sc_front_value.nd rfl (by first | exact Or.inl rfl | exact Or.inr rfl) (e_call (pe_call (ok_chance_given T) (hr.mono (by decide)) (by rfl) T.D_chance_given.m T.D_chance_given.k T.D_chance_given.b .nil pass0 (a_cons (e_var (pv 0)) (a_cons (e_var (pv 6)) (a_cons (e_tup (a_cons (e_tup (a_cons (e_var (pv 1)) (a_cons (e_var (pv 2)) a_nil))) a_nil)) a_nil)))) (alS (alS (alS al0))))))
    (ss_cons (st_if (t_cmp op_isN isN_d (b_var (pv 7)) (b_of e_non)) (ss_one (st_ret e_non)) ss_nil)
    (ss_one (st_if (t_cmp op_gt gt_d (b_of (e_ix (b_var (pv 7)) (b_of e_int))) (b_of e_int)) (ss_cons (st_set (ps_set (i := 8) sc_front_value.nd rfl (by first | exact Or.inl rfl | exact Or.inr rfl) (e_call (pe_call (ok_behind_front T) (hr.mono (by decide)) (by rfl) T.D_behind_front.m T.D_behind_front.k T.D_behind_front.b .nil pass0 (a_cons (e_var (pv 0)) (a_cons (e_var (pv 1)) (a_cons (e_var (pv 3)) (a_cons (e_var (pv 6)) a_nil))))) (alS (alS (alS (alS al0)))))))
    (ss_cons (st_if (t_cmp op_isN isN_d (b_var (pv 8)) (b_of e_non)) (ss_one (st_ret e_non)) ss_nil)
    (ss_one (st_set (ps_set (i := 5) sc_front_value.nd rfl (by first | exact Or.inl rfl | exact Or.inr rfl) (e_call (pe_call (ok_plus T) (hr.mono (by decide)) (by rfl) T.D_plus.m T.D_plus.k T.D_plus.b .nil pass0 (a_cons (e_var (pv 5)) (a_cons (e_call (pe_call (ok_times T) (hr.mono (by decide)) (by rfl) T.D_times.m T.D_times.k T.D_times.b .nil pass0 (a_cons (e_var (pv 8)) (a_cons (e_var (pv 7)) a_nil))) (alS (alS al0))) a_nil))) (alS (alS al0)))))))) ss_nil)))))
    (ss_one (st_ret (e_var (pv 5))))))
theorem sc_law : FnScope ["script", "c", "told", "sizes", "world", "n", "order", "v", "zs", "xs", "ys", "x", "u"] ["script"] (defScope s_law) := ⟨rfl, rfl, rfl, by decide +kernel, rfl, by decide +kernel, by decide +kernel⟩
def b_law : Stm :=
    (sSeq (sOwn (eCall F__law_start (aCons (eVar 0) aNil)) 1)
    (sPub 1 (sSeq (sAsg (eCall F__law_world (aCons (eVar 1) aNil)) (gNm 2))
    (sSeq (sPar 3 4 (aCons (eBin D.ix (bVar 2) (eC (.int 0))) (aCons (eBin D.ix (bVar 2) (eC (.int 3))) aNil)))
    (sSeq (sAsg (eCB gLen (aCons (bVar 3) aNil)) (gNm 5))
    (sSeq (sOwn (eLst aNil) 6)
    (sSeq (sFor (iRng (aCons (bVar 5) aNil)) (gNm 7)
    (sMut gInsert 6 (aCons (eCall F__law_take (aCons (eVar 1) (aCons (eBin D.add (bVar 7) (eC (.int 1))) aNil))) (aCons (eVar 7) aNil))))
    (sFz 6 (sSeq (sAsg (eCB gTuple (aCons (eCB gSorted (aCons (eSl D.slice (bVar 6) (pIs (eC (.int 2))) (pIs (eBin D.add (eC (.int 2)) (eCall F__law_take (aCons (eVar 1) (aCons (eBin D.sub (bVar 5) (eC (.int 1))) aNil)))))) aNil)) aNil)) (gNm 8))
    (sSeq (sAsg (eTup (aCons (eTup (aCons (eBin D.ix (bVar 6) (eC (.int 0))) (aCons (eCall F__law_take (aCons (eVar 1) (aCons (eBin D.ix (bVar 3) (eBin D.ix (bVar 6) (eC (.int 0)))) aNil))) aNil))) aNil)) (gNm 9))
    (sSeq (sAsg (eTup (aCons (eTup (aCons (eBin D.ix (bVar 6) (eC (.int 1))) (aCons (eCall F__law_take (aCons (eVar 1) (aCons (eBin D.ix (bVar 3) (eBin D.ix (bVar 6) (eC (.int 1)))) aNil))) aNil))) aNil)) (gNm 10))
    (sSeq (sIf (tNo (tTru (eCall F__law_same (aCons (eCall F_adjusted (aCons (eVar 4) (aCons (eVar 9) (aCons (eVar 10) (aCons (eVar 8) aNil))))) (aCons (eCall F__law_mixed (aCons (eVar 2) (aCons (eVar 10) (aCons (eCall F__law_events (aCons (eVar 2) (aCons (eVar 8) aNil))) (aCons (eVar 9) aNil))))) aNil))))) (sRet (eC (.bl false))) sNx)
    (sSeq (sAsg (eCB gTuple (aCons (eCB gSorted (aCons (eSl D.slice (bVar 6) (pIs (eC (.int 2))) pNo) aNil)) aNil)) (gNm 8))
    (sSeq (sAsg (eBin D.ix (bVar 9) (eC (.int 0))) (gTp 2 (gsCons (gNm 11) (gsCons (gNm 12) gsNil))))
    (sRet (eCall F__law_same (aCons (eCall F_front_value (aCons (eVar 4) (aCons (eVar 11) (aCons (eVar 12) (aCons (eVar 10) (aCons (eVar 8) aNil)))))) (aCons (eCall F__law_front (aCons (eVar 2) (aCons (eVar 11) (aCons (eVar 12) (aCons (eVar 10) (aCons (eVar 8) aNil)))))) aNil))))))))))))))))))
theorem ok_law (T : Top K mg) (math : ∀ ns : List Int, ns.length ≤ 63 → ∃ S', b_law (rho0 13 [.scr ns]) [] = some (.rt (.bl true) S')) : FnOk P w K mg base CX0 8 T.D_law.f T.D_law.d ["script"] (DL.spLaw K) := fnL_ok T.D_law.F sc_law (by decide) rfl (fun cdv A outer s H E hr =>
    (ss_cons (st_own (ps_set (i := 1) sc_law.nd rfl (by first | exact Or.inl rfl | exact Or.inr rfl) (n_call (pe_call (ok__law_start T) (hr.mono (by decide)) (by rfl) T.D__law_start.m T.D__law_start.k T.D__law_start.b .nil pass0 (a_cons (e_var (pv 0)) a_nil)) (alS al0))))
    (ss_pub 1 (ss_cons (st_set (ps_set (i := 2) sc_law.nd rfl (by first | exact Or.inl rfl | exact Or.inr rfl) (e_call (pe_call (ok__law_world T) (hr.mono (by decide)) (by rfl) T.D__law_world.m T.D__law_world.k T.D__law_world.b .nil pass0 (a_cons (e_var (pv 1)) a_nil)) (alS al0))))
    (ss_cons (st_par (ps_par (i := 3) (j := 4) rfl sc_law.nd rfl rfl (by decide) rfl rfl (a_cons (e_ix (b_var (pv 2)) (b_of e_int)) (a_cons (e_ix (b_var (pv 2)) (b_of e_int)) a_nil)) (by rfl)))
    (ss_cons (st_set (ps_set (i := 5) sc_law.nd rfl (by first | exact Or.inl rfl | exact Or.inr rfl) (e_cb (pe_callB call_len (by rfl) T.z_len bt_len (aq_cons (b_var (pv 3)) aq_nil)) len_d)))
    (ss_cons (st_own (ps_set (i := 6) sc_law.nd rfl (by first | exact Or.inl rfl | exact Or.inr rfl) (n_lst a_nil)))
    (ss_cons (st_for (vs := [7]) PassesOwn.never rfl (it_range1 (pi_range1 (by rfl) T.z_range (aq_cons (b_var (pv 5)) aq_nil)) (alS al0)) (g_name (pg_name sc_law.nd rfl (by first | exact Or.inl rfl | exact Or.inr rfl)) (by decide))
    (ss_one (st_mut (ps_expr (pe_bm PySem.F.plainAttrs_list PySem.F.slot_list_insert PySem.F.type_list_insert mt_insert (pv 6) (a_cons (e_call (pe_call (ok__law_take T) (hr.mono (by decide)) (by rfl) T.D__law_take.m T.D__law_take.k T.D__law_take.b .nil pass0 (a_cons (e_var (pv 1)) (a_cons (e_bin op_addD add_d (b_var (pv 7)) (b_of e_int)) a_nil))) (alS (alS al0))) (a_cons (e_var (pv 7)) a_nil)))) insert_d insert_l)))
    (ss_fz 6 (ss_cons (st_set (ps_set (i := 8) sc_law.nd rfl (by first | exact Or.inl rfl | exact Or.inr rfl) (e_cb (pe_callTy call_tupleZ (by rfl) T.z_tuple bt_tuple (aq_cons (b_of (e_of (n_cb (pe_callB (cr_sortedD hr.units) (by rfl) T.z_sorted bt_sorted (aq_cons (b_of (e_sl sl_slice slice_d (b_var (pv 6)) (p_is (b_of e_int)) (p_is (b_of (e_bin op_addD add_d (b_of e_int) (b_of (e_call (pe_call (ok__law_take T) (hr.mono (by decide)) (by rfl) T.D__law_take.m T.D__law_take.k T.D__law_take.b .nil pass0 (a_cons (e_var (pv 1)) (a_cons (e_bin op_sub sub_d (b_var (pv 5)) (b_of e_int)) a_nil))) (alS (alS al0))))))))) aq_nil)) sorted_f))) aq_nil)) tuple_d)))
    (ss_cons (st_set (ps_set (i := 9) sc_law.nd rfl (by first | exact Or.inl rfl | exact Or.inr rfl) (e_tup (a_cons (e_tup (a_cons (e_ix (b_var (pv 6)) (b_of e_int)) (a_cons (e_call (pe_call (ok__law_take T) (hr.mono (by decide)) (by rfl) T.D__law_take.m T.D__law_take.k T.D__law_take.b .nil pass0 (a_cons (e_var (pv 1)) (a_cons (e_ix (b_var (pv 3)) (b_of (e_ix (b_var (pv 6)) (b_of e_int)))) a_nil))) (alS (alS al0))) a_nil))) a_nil))))
    (ss_cons (st_set (ps_set (i := 10) sc_law.nd rfl (by first | exact Or.inl rfl | exact Or.inr rfl) (e_tup (a_cons (e_tup (a_cons (e_ix (b_var (pv 6)) (b_of e_int)) (a_cons (e_call (pe_call (ok__law_take T) (hr.mono (by decide)) (by rfl) T.D__law_take.m T.D__law_take.k T.D__law_take.b .nil pass0 (a_cons (e_var (pv 1)) (a_cons (e_ix (b_var (pv 3)) (b_of (e_ix (b_var (pv 6)) (b_of e_int)))) a_nil))) (alS (alS al0))) a_nil))) a_nil))))
    (ss_cons (st_if (t_not (t_tru (b_of (e_call (pe_call (ok__law_same T) (hr.mono (by decide)) (by rfl) T.D__law_same.m T.D__law_same.k T.D__law_same.b .nil pass0 (a_cons (e_call (pe_call (ok_adjusted T) (hr.mono (by decide)) (by rfl) T.D_adjusted.m T.D_adjusted.k T.D_adjusted.b .nil pass0 (a_cons (e_var (pv 4)) (a_cons (e_var (pv 9)) (a_cons (e_var (pv 10)) (a_cons (e_var (pv 8)) a_nil))))) (alS (alS (alS (alS al0))))) (a_cons (e_call (pe_call (ok__law_mixed T) (hr.mono (by decide)) (by rfl) T.D__law_mixed.m T.D__law_mixed.k T.D__law_mixed.b .nil pass0 (a_cons (e_var (pv 2)) (a_cons (e_var (pv 10)) (a_cons (e_call (pe_call (ok__law_events T) (hr.mono (by decide)) (by rfl) T.D__law_events.m T.D__law_events.k T.D__law_events.b .nil pass0 (a_cons (e_var (pv 2)) (a_cons (e_var (pv 8)) a_nil))) (alS (alS al0))) (a_cons (e_var (pv 9)) a_nil))))) (alS (alS (alS (alS al0))))) a_nil))) (alS (alS al0)))))) (ss_one (st_ret e_bl)) ss_nil)
    (ss_cons (st_set (ps_set (i := 8) sc_law.nd rfl (by first | exact Or.inl rfl | exact Or.inr rfl) (e_cb (pe_callTy call_tupleZ (by rfl) T.z_tuple bt_tuple (aq_cons (b_of (e_of (n_cb (pe_callB (cr_sortedD hr.units) (by rfl) T.z_sorted bt_sorted (aq_cons (b_of (e_sl sl_slice slice_d (b_var (pv 6)) (p_is (b_of e_int)) p_no)) aq_nil)) sorted_f))) aq_nil)) tuple_d)))
    (ss_cons (st_asg (vs := [11, 12]) (ps_asg (e_ix (b_var (pv 9)) (b_of e_int)) (g_tup rfl (gs_cons (g_name (pg_name sc_law.nd rfl (by first | exact Or.inl rfl | exact Or.inr rfl)) (by decide)) (gs_cons (g_name (pg_name sc_law.nd rfl (by first | exact Or.inl rfl | exact Or.inr rfl)) (by decide)) gs_nil)))))
    (ss_one (st_ret (e_call (pe_call (ok__law_same T) (hr.mono (by decide)) (by rfl) T.D__law_same.m T.D__law_same.k T.D__law_same.b .nil pass0 (a_cons (e_call (pe_call (ok_front_value T) (hr.mono (by decide)) (by rfl) T.D_front_value.m T.D_front_value.k T.D_front_value.b .nil pass0 (a_cons (e_var (pv 4)) (a_cons (e_var (pv 11)) (a_cons (e_var (pv 12)) (a_cons (e_var (pv 10)) (a_cons (e_var (pv 8)) a_nil)))))) (alS (alS (alS (alS (alS al0)))))) (a_cons (e_call (pe_call (ok__law_front T) (hr.mono (by decide)) (by rfl) T.D__law_front.m T.D__law_front.k T.D__law_front.b .nil pass0 (a_cons (e_var (pv 2)) (a_cons (e_var (pv 11)) (a_cons (e_var (pv 12)) (a_cons (e_var (pv 10)) (a_cons (e_var (pv 8)) a_nil)))))) (alS (alS (alS (alS (alS al0)))))) a_nil))) (alS (alS al0)))))))))))))))))))) math
end
end K64

set_option Elab.async false
set_option linter.all false
set_option maxRecDepth 100000
namespace DL
open L2
/-! ## meanings: small laws -/
theorem log_lt {x : Int} {k : Nat} (h0 : 0 < k) (h : x.natAbs < 2 ^ k) : x.natAbs.log2 < k := PySem.Flt.log2_lt_of h0 h
theorem okDiv_t {j : Int} (h : 0 < j) (b : j.natAbs < 2 ^ 8999) : okDiv j = true := decide_eq_true ⟨h, Nat.lt_succ_of_lt (log_lt (by decide) b)⟩
theorem okMul_t {i j : Int} (a : i.natAbs < 2 ^ 8999) (b : j.natAbs < 2 ^ 8999) : okMul i j = true := decide_eq_true (by have := log_lt (by decide) a; have := log_lt (by decide) b; omega)
theorem sz0 : ((0 : Nat) ≤ PySem.sizeLine) = True := eq_true (Nat.zero_le _)
theorem sz1 : ((1 : Nat) ≤ PySem.sizeLine) = True := eq_true (by decide)
theorem sz2 : ((2 : Nat) ≤ PySem.sizeLine) = True := eq_true (by decide)
theorem sz4 : ((4 : Nat) ≤ PySem.sizeLine) = True := eq_true (by decide)
theorem sz5 : ((5 : Nat) ≤ PySem.sizeLine) = True := eq_true (by decide)
theorem szle {n : Nat} (h : n ≤ 100000) : n ≤ PySem.sizeLine := Nat.le_trans h (by decide)
theorem atI_lt {α : Type} {xs : List α} {j : Nat} (h : j < xs.length) : atI xs (j : Int) = some xs[j] := atI_nat (List.getElem?_eq_getElem h)
theorem at0 {α : Type} (x : α) (xs : List α) : atI (x :: xs) 0 = some x := atI_nat (j := 0) rfl
theorem at1 {α : Type} (x y : α) (xs : List α) : atI (x :: y :: xs) 1 = some y := atI_nat (j := 1) rfl
theorem at2 {α : Type} (x y z : α) (xs : List α) : atI (x :: y :: z :: xs) 2 = some z := atI_nat (j := 2) rfl
theorem at3 {α : Type} (x y z u : α) (xs : List α) : atI (x :: y :: z :: u :: xs) 3 = some u := atI_nat (j := 3) rfl
theorem eq_int (i j : Int) : D.eq (.int i) (.int j) = some (.bl (decide (i = j))) := by
  have e : ((D.int i).fit 60 && (D.int j).fit 60) = true := by simp [D.fit]
  unfold D.eq
  rw [if_pos e]
  simp only [D.eqv, D.toP, PySem.PyData.eqv]
  first | done | (congr 2)
theorem ne_int (i j : Int) : D.ne (.int i) (.int j) = some (.bl (!decide (i = j))) := by
  have e : ((D.int i).fit 60 && (D.int j).fit 60) = true := by simp [D.fit]
  unfold D.ne
  rw [if_pos e]
  simp only [D.eqv, D.toP, PySem.PyData.eqv]
  first | done | (congr 2)
theorem compF_map {α : Type} {g : Tg} {tt : Tx} {te : Ex} {ρ : Rho} {S : Sto} (enc : α → D) (p : α → Bool) (f : α → D) : ∀ (xs : List α), (∀ x ∈ xs, ∃ ρ2, g (enc x) ρ = some ρ2 ∧ tt ρ2 S = some (p x, S) ∧ (p x = true → te ρ2 S = some (f x, S))) →
    compF g tt te ρ (xs.map enc) S = some ((xs.filter p).map f, S)
  | [], _ => rfl
  | x :: xs, h => by
    obtain ⟨ρ2, h1, h2, h3⟩ := h x List.mem_cons_self
    have ih := compF_map enc p f xs fun y hy => h y (List.mem_cons_of_mem _ hy)
    rw [List.map_cons]
    unfold compF
    rw [h1, Option.bind_some, h2, Option.bind_some]
    cases hp : p x with
    | true => rw [if_pos rfl, h3 hp, Option.bind_some, ih, List.filter_cons, if_pos hp]; rfl
    | false => rw [if_neg Bool.false_ne_true, ih, List.filter_cons, if_neg (by rw [hp]; exact Bool.false_ne_true)]
theorem compF_all {α : Type} {g : Tg} {te : Ex} {ρ : Rho} {S : Sto} (enc : α → D) (f : α → D) (xs : List α) (h : ∀ x ∈ xs, ∃ ρ2, g (enc x) ρ = some ρ2 ∧ te ρ2 S = some (f x, S)) : compF g tYs te ρ (xs.map enc) S = some (xs.map f, S) := by
  rw [compF_map enc (fun _ => true) f xs fun x hx => by
    obtain ⟨ρ2, h1, h2⟩ := h x hx
    exact ⟨ρ2, h1, rfl, fun _ => h2⟩]
  rw [List.filter_eq_self.mpr fun _ _ => rfl]
theorem compO_all {α : Type} {g g1 : Tg} {tt1 : Tx} {it1 : Ars} {te : Ex} {vs1 : List Nat} {ρ : Rho} {S : Sto} (enc : α → D) (f : α → List D) : ∀ (xs : List α), (∀ x ∈ xs, ∃ ρ2 ys, g (enc x) ρ = some ρ2 ∧ it1 ρ2 S = some (ys, S) ∧ compF g1 tt1 te (wipeR ρ2 vs1) ys S = some (f x, S)) →
    compO g tYs it1 g1 tt1 te vs1 ρ (xs.map enc) S = some (xs.flatMap f, S)
  | [], _ => rfl
  | x :: xs, h => by
    obtain ⟨ρ2, ys, h1, h2, h3⟩ := h x List.mem_cons_self
    have ih := compO_all enc f xs fun y hy => h y (List.mem_cons_of_mem _ hy)
    rw [List.map_cons]
    unfold compO
    rw [h1, Option.bind_some]
    show ((some (true, S) : Option (Bool × Sto))).bind _ = _
    rw [Option.bind_some, if_pos rfl, h2, Option.bind_some, h3, Option.bind_some, ih, List.flatMap_cons]
    rfl
theorem forF_nil {g : Tg} {b : Stm} {ρ : Rho} {S : Sto} : forF g b [] ρ S = some (.nx ρ S) := rfl
theorem forF_step {g : Tg} {b : Stm} {x : D} {xs : List D} {ρ ρ1 ρ2 : Rho} {S S2 : Sto} (h1 : g x ρ = some ρ1) (h2 : b ρ1 S = some (.nx ρ2 S2)) : forF g b (x :: xs) ρ S = forF g b xs ρ2 S2 := by
  show ((g x ρ).bind fun ρ1 => (b ρ1 S).bind fun o => o.turn (forF g b xs)) = _
  rw [h1, Option.bind_some, h2]
  rfl
theorem forF_ret {g : Tg} {b : Stm} {x d : D} {xs : List D} {ρ ρ1 : Rho} {S S2 : Sto} (h1 : g x ρ = some ρ1) (h2 : b ρ1 S = some (.rt d S2)) : forF g b (x :: xs) ρ S = some (.rt d S2) := by
  show ((g x ρ).bind fun ρ1 => (b ρ1 S).bind fun o => o.turn (forF g b xs)) = _
  rw [h1, Option.bind_some, h2]
  rfl
theorem rangeD_nat (n : Nat) : rangeD 0 n = (List.range n).map fun (i : Nat) => D.int (i : Int) := by
  unfold rangeD
  exact List.map_congr_left fun i _ => by rw [Int.zero_add]
theorem rangeOf_nat {n : Nat} (h : n ≤ 100000) : rangeOf [.int (n : Int)] = some ((List.range n).map fun (i : Nat) => D.int (i : Int)) := by
  have hz : n ≤ PySem.sizeLine := szle h
  have hc : -(2 ^ 62 : Int) ≤ (n : Int) ∧ (n : Int) < 2 ^ 62 ∧ ((n : Int)).toNat ≤ PySem.sizeLine := ⟨by omega, by omega, by simpa using hz⟩
  simp only [rangeOf, hc, hz, and_self, if_true, rangeD_nat, Int.toNat_natCast]
theorem iRng_of {fs : Ars} {ρ : Rho} {S S1 : Sto} {ds xs : List D} (h1 : fs ρ S = some (ds, S1)) (h2 : rangeOf ds = some xs) : iRng fs ρ S = some (xs, S1) := by
  unfold iRng
  rw [h1, Option.bind_some, h2]
  rfl
theorem sAsg_of {f : Ex} {g : Tg} {ρ ρ' : Rho} {S S1 : Sto} {d : D} (h : f ρ S = some (d, S1)) (hg : g d ρ = some ρ') : sAsg f g ρ S = some (.nx ρ' S1) := by
  unfold sAsg
  rw [h, Option.bind_some, hg]
  rfl
theorem eBin_of {g : D → D → Option D} {f1 f2 : Ex} {ρ : Rho} {S S1 S2 : Sto} {d1 d2 d : D} (h1 : f1 ρ S = some (d1, S1)) (h2 : f2 ρ S1 = some (d2, S2)) (h3 : g d1 d2 = some d) : eBin g f1 f2 ρ S = some (d, S2) := by
  unfold eBin
  rw [h1, Option.bind_some, h2, Option.bind_some, h3]
  rfl
theorem eLc_of {it : Ars} {g : Tg} {tt : Tx} {te : Ex} {vs : List Nat} {ρ : Rho} {S S1 S2 : Sto} {xs ys : List D} (h1 : it ρ S = some (xs, S1)) (h2 : compF g tt te (wipeR ρ vs) xs S1 = some (ys, S2)) : eLc it g tt te vs ρ S = some (.lst ys, S2) := by
  unfold eLc
  rw [h1, Option.bind_some, h2]
  rfl
theorem sSeq_of {a b : Stm} {ρ ρ' : Rho} {S S1 : Sto} {o : Option Out} (h1 : a ρ S = some (.nx ρ' S1)) (h2 : b ρ' S1 = o) : sSeq a b ρ S = o := by
  unfold sSeq
  rw [h1, Option.bind_some]
  exact h2
theorem sSeq_rt {a b : Stm} {ρ : Rho} {S S1 : Sto} {d : D} (h1 : a ρ S = some (.rt d S1)) : sSeq a b ρ S = some (.rt d S1) := by
  unfold sSeq
  rw [h1, Option.bind_some]
  rfl
theorem sFor_of {it : Ars} {g : Tg} {b : Stm} {ρ : Rho} {S S1 : Sto} {xs : List D} {o : Option Out} (h1 : it ρ S = some (xs, S1)) (h2 : forF g b xs ρ S1 = o) : sFor it g b ρ S = o := by
  unfold sFor
  rw [h1, Option.bind_some]
  exact h2
theorem sIf_t {c : Tx} {a b : Stm} {ρ : Rho} {S S1 : Sto} {o : Option Out} (h1 : c ρ S = some (true, S1)) (h2 : a ρ S1 = o) : sIf c a b ρ S = o := by
  unfold sIf
  rw [h1, Option.bind_some, if_pos rfl]
  exact h2
theorem sIf_f {c : Tx} {a b : Stm} {ρ : Rho} {S S1 : Sto} {o : Option Out} (h1 : c ρ S = some (false, S1)) (h2 : b ρ S1 = o) : sIf c a b ρ S = o := by
  unfold sIf
  rw [h1, Option.bind_some, if_neg Bool.false_ne_true]
  exact h2
theorem tBl_of {f : Ex} {ρ : Rho} {S S1 : Sto} {b : Bool} (h : f ρ S = some (.bl b, S1)) : tBl f ρ S = some (b, S1) := by
  unfold tBl
  rw [h, Option.bind_some]
theorem tTru_of {f : Ex} {ρ : Rho} {S S1 : Sto} {d : D} {b : Bool} (h : f ρ S = some (d, S1)) (ht : d.truth = some b) : tTru f ρ S = some (b, S1) := by
  unfold tTru
  rw [h, Option.bind_some, ht]
  rfl
theorem sRet_of {f : Ex} {ρ : Rho} {S S1 : Sto} {d : D} (h : f ρ S = some (d, S1)) : sRet f ρ S = some (.rt d S1) := by
  unfold sRet
  rw [h]
  rfl
theorem eCall_of {F : Fn} {fs : Ars} {ρ : Rho} {S S1 S2 : Sto} {ds : List D} {d : D} (h1 : fs ρ S = some (ds, S1)) (h2 : F ds S1 = some (d, S2)) : eCall F fs ρ S = some (d, S2) := by
  unfold eCall
  rw [h1, Option.bind_some]
  exact h2
theorem eCB_of {g : List D → Option D} {fs : Ars} {ρ : Rho} {S S1 : Sto} {ds : List D} {d : D} (h1 : fs ρ S = some (ds, S1)) (h2 : g ds = some d) : eCB g fs ρ S = some (d, S1) := by
  unfold eCB
  rw [h1, Option.bind_some, h2]
  rfl
theorem eTup_of {fs : Ars} {ρ : Rho} {S S1 : Sto} {ds : List D} (h1 : fs ρ S = some (ds, S1)) (h2 : ds.length ≤ PySem.sizeLine) : eTup fs ρ S = some (.tup ds, S1) := by
  unfold eTup
  rw [h1, Option.bind_some, if_pos h2]
theorem aCons_of {f : Ex} {fs : Ars} {ρ : Rho} {S S1 S2 : Sto} {d : D} {ds : List D} (h1 : f ρ S = some (d, S1)) (h2 : fs ρ S1 = some (ds, S2)) : aCons f fs ρ S = some (d :: ds, S2) := by
  unfold aCons
  rw [h1, Option.bind_some, h2]
  rfl
theorem iSeq_of {f : Ex} {ρ : Rho} {S S1 : Sto} {d : D} {xs : List D} (h : f ρ S = some (d, S1)) (he : d.elems = some xs) : iSeq f ρ S = some (xs, S1) := by
  unfold iSeq
  rw [h, Option.bind_some, he]
  rfl
theorem fnD_rt {n : Nat} {b : Stm} {ds : List D} {S S' : Sto} {d : D} (h : b (rho0 n ds) S = some (.rt d S')) (hl : S'.length = S.length) : fnD n b ds S = some (d, S') := by
  unfold fnD
  rw [h]
  show (if S'.length = S.length then some (d, S') else none) = _
  rw [if_pos hl]
theorem add_lst {xs ys : List D} (h : xs.length + ys.length ≤ PySem.sizeLine) : D.add (.lst xs) (.lst ys) = some (.lst (xs ++ ys)) := by simp only [D.add, h, if_true]
theorem add_tup {xs ys : List D} (h : xs.length + ys.length ≤ PySem.sizeLine) : D.add (.tup xs) (.tup ys) = some (.tup (xs ++ ys)) := by simp only [D.add, h, if_true]
/-! fractions in lowest terms -/
def nf (a b : Int) : Int × Int := (a / (Nat.gcd a.natAbs b.natAbs : Int), b / (Nat.gcd a.natAbs b.natAbs : Int))
def frD (p : Int × Int) : D := .tup [.int p.1, .int p.2]
theorem gcd_pos {a b : Int} (hb : 0 < b) : (0 : Int) < (Nat.gcd a.natAbs b.natAbs : Int) := by
  have : 0 < Nat.gcd a.natAbs b.natAbs := Nat.gcd_pos_of_pos_right _ (by omega)
  omega
theorem gcd_le {a b : Int} (hb : 0 < b) : (Nat.gcd a.natAbs b.natAbs) ≤ b.natAbs := Nat.gcd_le_right _ (by omega)
theorem gcd_dvd1 (a b : Int) : (Nat.gcd a.natAbs b.natAbs : Int) ∣ a := Int.ofNat_dvd_left.mpr (Nat.gcd_dvd_left _ _)
theorem gcd_dvd2 (a b : Int) : (Nat.gcd a.natAbs b.natAbs : Int) ∣ b := Int.ofNat_dvd_left.mpr (Nat.gcd_dvd_right _ _)
theorem nf_cross (a b : Int) : (nf a b).1 * b = a * (nf a b).2 := by
  unfold nf
  generalize hg : (Nat.gcd a.natAbs b.natAbs : Int) = g
  obtain ⟨x, hx⟩ : g ∣ a := hg ▸ gcd_dvd1 a b
  obtain ⟨y, hy⟩ : g ∣ b := hg ▸ gcd_dvd2 a b
  by_cases h0 : g = 0
  · subst h0; simp
  · simp only
    rw [hx, hy, Int.mul_ediv_cancel_left _ h0, Int.mul_ediv_cancel_left _ h0, Int.mul_left_comm, Int.mul_assoc]
theorem nf_pos {a b : Int} (hb : 0 < b) : 0 < (nf a b).2 := by
  unfold nf
  have hg := gcd_pos (a := a) hb
  exact Int.ediv_pos_of_pos_of_dvd hb (Int.le_of_lt hg) (gcd_dvd2 a b)
theorem ediv_abs_le (x : Int) {g : Int} (hg : 0 < g) (hd : g ∣ x) : (x / g).natAbs ≤ x.natAbs := by
  obtain ⟨y, rfl⟩ := hd
  rw [Int.mul_ediv_cancel_left _ (by omega), Int.natAbs_mul]
  exact Nat.le_mul_of_pos_left _ (by omega)
theorem nf_le1 {a b : Int} (hb : 0 < b) : (nf a b).1.natAbs ≤ a.natAbs := ediv_abs_le a (gcd_pos hb) (gcd_dvd1 a b)
theorem nf_le2 {a b : Int} (hb : 0 < b) : (nf a b).2.natAbs ≤ b.natAbs := ediv_abs_le b (gcd_pos hb) (gcd_dvd2 a b)
theorem nf_scale (a b : Int) {k : Int} (hk : 0 < k) : nf (a * k) (b * k) = nf a b := by
  have e : (Nat.gcd (a * k).natAbs (b * k).natAbs : Int) = (Nat.gcd a.natAbs b.natAbs : Int) * k := by
    rw [Int.natAbs_mul, Int.natAbs_mul, Nat.gcd_mul_right, Int.natCast_mul, Int.natAbs_of_nonneg (Int.le_of_lt hk)]
  unfold nf
  rw [e, Int.mul_ediv_mul_of_pos_left _ _ hk, Int.mul_ediv_mul_of_pos_left _ _ hk]
theorem nf_eq {a b c d : Int} (hb : 0 < b) (hd : 0 < d) (h : a * d = c * b) : nf a b = nf c d := by
  rw [← nf_scale a b hd, ← nf_scale c d hb, h, Int.mul_comm b d]
/-- the fraction is of at most k bits -/
structure Fb (k : Nat) (p : Int × Int) : Prop where
  n : p.1.natAbs < 2 ^ k
  pos : 0 < p.2
  d : p.2.natAbs < 2 ^ k
theorem Fb.mono {j k : Nat} {p : Int × Int} (h : Fb j p) (l : j ≤ k) : Fb k p := ⟨Nat.lt_of_lt_of_le h.n (Nat.pow_le_pow_right (by decide) l), h.pos, Nat.lt_of_lt_of_le h.d (Nat.pow_le_pow_right (by decide) l)⟩
theorem mul_bd {a b : Int} {j k : Nat} (ha : a.natAbs < 2 ^ j) (hb : b.natAbs < 2 ^ k) : (a * b).natAbs < 2 ^ (j + k) := L2.wide_lt ha hb
theorem add_bd {a b : Int} {k : Nat} (ha : a.natAbs < 2 ^ k) (hb : b.natAbs < 2 ^ k) : (a + b).natAbs < 2 ^ (k + 1) := by
  rw [Nat.pow_succ]; omega
theorem bd_mono {a : Int} {j k : Nat} (h : a.natAbs < 2 ^ j) (l : j ≤ k) : a.natAbs < 2 ^ k := Nat.lt_of_lt_of_le h (Nat.pow_le_pow_right (by decide) l)
theorem nf_fb {a b : Int} {k : Nat} (ha : a.natAbs < 2 ^ k) (hb : 0 < b) (h2 : b.natAbs < 2 ^ k) : Fb k (nf a b) := ⟨Nat.lt_of_le_of_lt (nf_le1 hb) ha, nf_pos hb, Nat.lt_of_le_of_lt (nf_le2 hb) h2⟩
/-- what plus gives -/
def plF (p q : Int × Int) : Int × Int := nf (p.1 * q.2 + q.1 * p.2) (p.2 * q.2)
theorem plF_fb {j k : Nat} {p q : Int × Int} (hp : Fb j p) (hq : Fb k q) : Fb (j + k + 1) (plF p q) := by
  refine nf_fb (add_bd (mul_bd hp.n hq.d) (by rw [Nat.add_comm j k]; exact mul_bd hq.n hp.d)) (Int.mul_pos hp.pos hq.pos) (bd_mono (mul_bd hp.d hq.d) (Nat.le_succ _))
theorem plF_congr (p : Int × Int) {q r : Int × Int} (hp : 0 < p.2) (hq : 0 < q.2) (hr : 0 < r.2) (h : q.1 * r.2 = r.1 * q.2) : plF p q = plF p r := by
  unfold plF
  refine nf_eq (Int.mul_pos hp hq) (Int.mul_pos hp hr) ?_
  have e1 : (p.1 * q.2 + q.1 * p.2) * (p.2 * r.2) = p.1 * q.2 * p.2 * r.2 + (q.1 * r.2) * (p.2 * p.2) := by
    rw [Int.add_mul]
    congr 1
    · simp only [Int.mul_assoc]
    · simp only [Int.mul_assoc, Int.mul_left_comm, Int.mul_comm]
  have e2 : (p.1 * r.2 + r.1 * p.2) * (p.2 * q.2) = p.1 * q.2 * p.2 * r.2 + (r.1 * q.2) * (p.2 * p.2) := by
    rw [Int.add_mul]
    congr 1
    · simp only [Int.mul_assoc, Int.mul_left_comm, Int.mul_comm]
    · simp only [Int.mul_assoc, Int.mul_left_comm, Int.mul_comm]
  rw [e1, e2, h]
end DL

set_option Elab.async false
set_option linter.all false
set_option maxRecDepth 100000
namespace DL
open L2
/-! ## rows, events -/
def rowD (r : List Int) : D := .tup (r.map D.int)
def pD (p : Nat × Int) : D := .tup [.int (p.1 : Nat), .int p.2]
abbrev Ev := List (Nat × Int)
def evD (e : Ev) : D := .tup (e.map pD)
def szD (s : List Nat) : D := .tup (s.map fun (n : Nat) => D.int (n : Int))
def rowsStep (n : Nat) (r : List Int) : List (List Int) := (List.range n).map fun (x : Nat) => r ++ [(x : Int)]
def rowsM (found : List (List Int)) : List Nat → List (List Int)
  | [] => found
  | n :: s => rowsM (found.flatMap (rowsStep n)) s
/-- sizes at most 3, few enough -/
def Small (found : List (List Int)) (s : List Nat) : Prop := (∀ n ∈ s, n ≤ 3) ∧ found.length * 3 ^ s.length ≤ 1000 ∧ ∀ r ∈ found, r.length + s.length ≤ 100
theorem flat_len {α β : Type} {f : α → List β} {k : Nat} : ∀ {xs : List α}, (∀ x ∈ xs, (f x).length ≤ k) → (xs.flatMap f).length ≤ xs.length * k
  | [], _ => by simp
  | x :: xs, h => by
    rw [List.flatMap_cons, List.length_append, List.length_cons, Nat.succ_mul]
    have := flat_len (xs := xs) (f := f) fun y hy => h y (List.mem_cons_of_mem _ hy)
    have := h x List.mem_cons_self
    omega
theorem Small.next {found : List (List Int)} {n : Nat} {s : List Nat} (h : Small found (n :: s)) : Small (found.flatMap (rowsStep n)) s := by
  obtain ⟨h1, h2, h3⟩ := h
  refine ⟨fun m hm => h1 m (List.mem_cons_of_mem _ hm), ?_, fun r hr => ?_⟩
  · have hn := h1 n List.mem_cons_self
    have := flat_len (f := rowsStep n) (k := 3) (xs := found) fun r _ => by unfold rowsStep; simpa using hn
    rw [List.length_cons, Nat.pow_succ] at h2
    calc (found.flatMap (rowsStep n)).length * 3 ^ s.length ≤ found.length * 3 * 3 ^ s.length := Nat.mul_le_mul_right _ this
      _ = found.length * (3 ^ s.length * 3) := by rw [Nat.mul_assoc, Nat.mul_comm 3]
      _ ≤ 1000 := h2
  · obtain ⟨r', hr', hx⟩ := List.mem_flatMap.mp hr
    unfold rowsStep at hx
    obtain ⟨x, _, rfl⟩ := List.mem_map.mp hx
    have := h3 r' hr'
    rw [List.length_cons] at this
    rw [List.length_append, List.length_singleton]
    omega
theorem Small.len {found : List (List Int)} {s : List Nat} (h : Small found s) : found.length ≤ 1000 := Nat.le_trans (Nat.le_mul_of_pos_right _ (Nat.pow_pos (by decide))) h.2.1
theorem rowsM_len : ∀ {s : List Nat} {found : List (List Int)}, Small found s → (rowsM found s).length ≤ 1000
  | [], found, h => h.len
  | n :: s, found, h => rowsM_len (s := s) h.next
def fitsB (r : List Int) (e : Ev) : Bool := e.all fun p => decide (r[p.1]? = some p.2)
end DL
namespace K64
open DL
open L2 (atI atI_nat)
theorem fraction_s (a b : Int) (S : Sto) (hb : 0 < b) (h2 : b.natAbs < 2 ^ 8999) : F_fraction [.int a, .int b] S = some (frD (nf a b), S) := by
  have o : okDiv (Nat.gcd a.natAbs b.natAbs : Int) = true := okDiv_t (gcd_pos hb) (by have := gcd_le (a := a) hb; omega)
  unfold F_fraction b_fraction
  simp only [fnD, fnE, fnOut, rho0, eVar, bVar, Sl.rd, eC, eBin, eTup, eLst, aNil, aCons, eCB, eCall, tTru, tBl, tAn, DL.tOr, tNo, eAn, DL.eOr, eNo, eIf, eIxR, eSl, pNo, pIs, iSeq, iZp, gNm, gTp, gsNil, gsCons, sNx, sBk, sCt, sSeq, Out.seq, sIf, sAsg, sOwn, sPar, sPar3, sRet, sFz, sPub, sSetR, sSetIx, sMut, sDrop, sFor, eLc, tYs, wipeR, D.elems, D.truth, D.add, D.sub, D.mul, D.fdiv, D.mod, D.pow, D.lt, D.le, D.gt, D.ge, D.isN, D.notN, D.ix, D.cat, liftI, Option.bind_some, Option.bind_none, Option.map_some, Option.map_none, List.map_cons, List.map_nil, List.length_cons, List.length_nil, List.cons_append, List.nil_append, List.replicate, List.set_cons_zero, List.set_cons_succ, List.getElem?_cons_zero, List.getElem?_cons_succ, Nat.reduceAdd, Nat.reduceSub, Nat.reduceLeDiff, if_true, if_false, ↓reduceIte, List.isEmpty_nil, List.isEmpty_cons, Bool.not_true, Bool.not_false, Bool.false_eq_true, decide_true, decide_false, decide_eq_true_eq, gGcd, o, sz2]
  rfl
theorem plus_s {j k : Nat} {p q : Int × Int} (S : Sto) (hp : Fb j p) (hq : Fb k q) (l : j + k ≤ 8990) : F_plus [frD p, frD q] S = some (frD (plF p q), S) := by
  have m := fun {x : Int} {i : Nat} (h : x.natAbs < 2 ^ i) (l : i ≤ 8999) => bd_mono h l
  have o1 := okMul_t (m hp.n (by omega)) (m hq.d (by omega))
  have o2 := okMul_t (m hq.n (by omega)) (m hp.d (by omega))
  have o3 := okMul_t (m hp.d (by omega)) (m hq.d (by omega))
  have fs := fraction_s (p.1 * q.2 + q.1 * p.2) (p.2 * q.2) S (Int.mul_pos hp.pos hq.pos) (m (mul_bd hp.d hq.d) (by omega))
  unfold F_plus b_plus frD
  simp only [fnD, fnE, fnOut, rho0, eVar, bVar, Sl.rd, eC, eBin, eTup, eLst, aNil, aCons, eCB, eCall, tTru, tBl, tAn, DL.tOr, tNo, eAn, DL.eOr, eNo, eIf, eIxR, eSl, pNo, pIs, iSeq, iZp, gNm, gTp, gsNil, gsCons, sNx, sBk, sCt, sSeq, Out.seq, sIf, sAsg, sOwn, sPar, sPar3, sRet, sFz, sPub, sSetR, sSetIx, sMut, sDrop, sFor, eLc, tYs, wipeR, D.elems, D.truth, D.add, D.sub, D.mul, D.fdiv, D.mod, D.pow, D.lt, D.le, D.gt, D.ge, D.isN, D.notN, D.ix, D.cat, liftI, Option.bind_some, Option.bind_none, Option.map_some, Option.map_none, List.map_cons, List.map_nil, List.length_cons, List.length_nil, List.cons_append, List.nil_append, List.replicate, List.set_cons_zero, List.set_cons_succ, List.getElem?_cons_zero, List.getElem?_cons_succ, Nat.reduceAdd, Nat.reduceSub, Nat.reduceLeDiff, if_true, if_false, ↓reduceIte, List.isEmpty_nil, List.isEmpty_cons, Bool.not_true, Bool.not_false, Bool.false_eq_true, decide_true, decide_false, decide_eq_true_eq, at0, at1, o1, o2, o3, fs]
  rfl
def tmF (p q : Int × Int) : Int × Int := nf (p.1 * q.1) (p.2 * q.2)
theorem times_s {j k : Nat} {p q : Int × Int} (S : Sto) (hp : Fb j p) (hq : Fb k q) (l : j + k ≤ 8990) : F_times [frD p, frD q] S = some (frD (tmF p q), S) := by
  have m := fun {x : Int} {i : Nat} (h : x.natAbs < 2 ^ i) (l : i ≤ 8999) => bd_mono h l
  have o1 := okMul_t (m hp.n (by omega)) (m hq.n (by omega))
  have o3 := okMul_t (m hp.d (by omega)) (m hq.d (by omega))
  have fs := fraction_s (p.1 * q.1) (p.2 * q.2) S (Int.mul_pos hp.pos hq.pos) (m (mul_bd hp.d hq.d) (by omega))
  unfold F_times b_times frD
  simp only [fnD, fnE, fnOut, rho0, eVar, bVar, Sl.rd, eC, eBin, eTup, eLst, aNil, aCons, eCB, eCall, tTru, tBl, tAn, DL.tOr, tNo, eAn, DL.eOr, eNo, eIf, eIxR, eSl, pNo, pIs, iSeq, iZp, gNm, gTp, gsNil, gsCons, sNx, sBk, sCt, sSeq, Out.seq, sIf, sAsg, sOwn, sPar, sPar3, sRet, sFz, sPub, sSetR, sSetIx, sMut, sDrop, sFor, eLc, tYs, wipeR, D.elems, D.truth, D.add, D.sub, D.mul, D.fdiv, D.mod, D.pow, D.lt, D.le, D.gt, D.ge, D.isN, D.notN, D.ix, D.cat, liftI, Option.bind_some, Option.bind_none, Option.map_some, Option.map_none, List.map_cons, List.map_nil, List.length_cons, List.length_nil, List.cons_append, List.nil_append, List.replicate, List.set_cons_zero, List.set_cons_succ, List.getElem?_cons_zero, List.getElem?_cons_succ, Nat.reduceAdd, Nat.reduceSub, Nat.reduceLeDiff, if_true, if_false, ↓reduceIte, List.isEmpty_nil, List.isEmpty_cons, Bool.not_true, Bool.not_false, Bool.false_eq_true, decide_true, decide_false, decide_eq_true_eq, at0, at1, o1, o3, fs]
  rfl
/-- over, where the divisor is above 0 -/
theorem over_s {j k : Nat} {p q : Int × Int} (S : Sto) (hp : Fb j p) (hq : Fb k q) (hq1 : 0 < q.1) (l : j + k ≤ 8990) : F_over [frD p, frD q] S = some (frD (nf (p.1 * q.2) (p.2 * q.1)), S) := by
  have m := fun {x : Int} {i : Nat} (h : x.natAbs < 2 ^ i) (l : i ≤ 8999) => bd_mono h l
  have o1 := okMul_t (m hp.n (by omega)) (m hq.d (by omega))
  have o3 := okMul_t (m hp.d (by omega)) (m hq.n (by omega))
  have fs := fraction_s (p.1 * q.2) (p.2 * q.1) S (Int.mul_pos hp.pos hq1) (m (mul_bd hp.d hq.n) (by omega))
  have d : decide (0 < p.2 * q.1) = true := decide_eq_true (Int.mul_pos hp.pos hq1)
  unfold F_over b_over frD
  simp only [fnD, fnE, fnOut, rho0, eVar, bVar, Sl.rd, eC, eBin, eTup, eLst, aNil, aCons, eCB, eCall, tTru, tBl, tAn, DL.tOr, tNo, eAn, DL.eOr, eNo, eIf, eIxR, eSl, pNo, pIs, iSeq, iZp, gNm, gTp, gsNil, gsCons, sNx, sBk, sCt, sSeq, Out.seq, sIf, sAsg, sOwn, sPar, sPar3, sRet, sFz, sPub, sSetR, sSetIx, sMut, sDrop, sFor, eLc, tYs, wipeR, D.elems, D.truth, D.add, D.sub, D.mul, D.fdiv, D.mod, D.pow, D.lt, D.le, D.gt, D.ge, D.isN, D.notN, D.ix, D.cat, liftI, Option.bind_some, Option.bind_none, Option.map_some, Option.map_none, List.map_cons, List.map_nil, List.length_cons, List.length_nil, List.cons_append, List.nil_append, List.replicate, List.set_cons_zero, List.set_cons_succ, List.getElem?_cons_zero, List.getElem?_cons_succ, Nat.reduceAdd, Nat.reduceSub, Nat.reduceLeDiff, if_true, if_false, ↓reduceIte, List.isEmpty_nil, List.isEmpty_cons, Bool.not_true, Bool.not_false, Bool.false_eq_true, decide_true, decide_false, decide_eq_true_eq, at0, at1, o1, o3, fs, d]
  rfl
/-- the running total -/
def totM (f : Int × Int) : List (Int × Int) → Int × Int
  | [] => f
  | p :: ps => totM (plF f p) ps
theorem total_s {k : Nat} (S : Sto) (ps : List (Int × Int)) (inv : ∀ (pre : List (Int × Int)) (x : Int × Int) (suf : List (Int × Int)), ps = pre ++ x :: suf → Fb k (totM (0, 1) pre) ∧ Fb k x) (l : k + k ≤ 8990) : F_total [.lst (ps.map frD)] S = some (frD (totM (0, 1) ps), S) := by
  have loop : ∀ (suf pre : List (Int × Int)) (a z : Sl), ps = pre ++ suf → ∃ z', forF (gNm 2) (sAsg (eCall F_plus (aCons (eVar 1) (aCons (eVar 2) aNil))) (gNm 1)) (suf.map frD) [a, .sh (frD (totM (0, 1) pre)), z] S = some (.nx [a, .sh (frD (totM (0, 1) ps)), z'] S) := by
    intro suf
    induction suf with
    | nil => intro pre a z h; rw [List.append_nil] at h; subst h; exact ⟨z, rfl⟩
    | cons x suf ih =>
      intro pre a z h
      obtain ⟨f1, f2⟩ := inv pre x suf h
      have ps1 := plus_s S f1 f2 l
      have e : totM (0, 1) (pre ++ [x]) = plF (totM (0, 1) pre) x := by
        have : ∀ (l : List (Int × Int)) (f : Int × Int), totM f (l ++ [x]) = plF (totM f l) x := fun l => by
          induction l with
          | nil => intro f; rfl
          | cons y l ih2 => intro f; exact ih2 _
        exact this pre _
      obtain ⟨z', hz⟩ := ih (pre ++ [x]) a (.sh (frD x)) (by rw [h, List.append_assoc]; rfl)
      refine ⟨z', ?_⟩
      rw [List.map_cons, forF_step (ρ1 := [a, .sh (frD (totM (0, 1) pre)), .sh (frD x)]) (ρ2 := [a, .sh (frD (plF (totM (0, 1) pre) x)), .sh (frD x)]) (S2 := S) rfl (by simp only [fnD, fnE, fnOut, rho0, eVar, bVar, Sl.rd, eC, eBin, eTup, eLst, aNil, aCons, eCB, eCall, tTru, tBl, tAn, DL.tOr, tNo, eAn, DL.eOr, eNo, eIf, eIxR, eSl, pNo, pIs, iSeq, iZp, gNm, gTp, gsNil, gsCons, sNx, sBk, sCt, sSeq, Out.seq, sIf, sAsg, sOwn, sPar, sPar3, sRet, sFz, sPub, sSetR, sSetIx, sMut, sDrop, sFor, eLc, tYs, wipeR, D.elems, D.truth, D.add, D.sub, D.mul, D.fdiv, D.mod, D.pow, D.lt, D.le, D.gt, D.ge, D.isN, D.notN, D.ix, D.cat, liftI, Option.bind_some, Option.bind_none, Option.map_some, Option.map_none, List.map_cons, List.map_nil, List.length_cons, List.length_nil, List.cons_append, List.nil_append, List.replicate, List.set_cons_zero, List.set_cons_succ, List.getElem?_cons_zero, List.getElem?_cons_succ, Nat.reduceAdd, Nat.reduceSub, Nat.reduceLeDiff, if_true, if_false, ↓reduceIte, List.isEmpty_nil, List.isEmpty_cons, Bool.not_true, Bool.not_false, Bool.false_eq_true, decide_true, decide_false, decide_eq_true_eq, ps1]), ← e]
      exact hz
  obtain ⟨z', hz⟩ := loop ps [] (.sh (.lst (ps.map frD))) .un rfl
  unfold F_total b_total
  simp only [fnD, fnE, fnOut, rho0, eVar, bVar, Sl.rd, eC, eBin, eTup, eLst, aNil, aCons, eCB, eCall, tTru, tBl, tAn, DL.tOr, tNo, eAn, DL.eOr, eNo, eIf, eIxR, eSl, pNo, pIs, iSeq, iZp, gNm, gTp, gsNil, gsCons, sNx, sBk, sCt, sSeq, Out.seq, sIf, sAsg, sOwn, sPar, sPar3, sRet, sFz, sPub, sSetR, sSetIx, sMut, sDrop, sFor, eLc, tYs, wipeR, D.elems, D.truth, D.add, D.sub, D.mul, D.fdiv, D.mod, D.pow, D.lt, D.le, D.gt, D.ge, D.isN, D.notN, D.ix, D.cat, liftI, Option.bind_some, Option.bind_none, Option.map_some, Option.map_none, List.map_cons, List.map_nil, List.length_cons, List.length_nil, List.cons_append, List.nil_append, List.replicate, List.set_cons_zero, List.set_cons_succ, List.getElem?_cons_zero, List.getElem?_cons_succ, Nat.reduceAdd, Nat.reduceSub, Nat.reduceLeDiff, if_true, if_false, ↓reduceIte, List.isEmpty_nil, List.isEmpty_cons, Bool.not_true, Bool.not_false, Bool.false_eq_true, decide_true, decide_false, decide_eq_true_eq, sz2]
  have e0 : (D.tup [D.int 0, D.int 1]) = frD (totM (0, 1) []) := rfl
  rw [e0, hz]
  simp only [fnD, fnE, fnOut, rho0, eVar, bVar, Sl.rd, eC, eBin, eTup, eLst, aNil, aCons, eCB, eCall, tTru, tBl, tAn, DL.tOr, tNo, eAn, DL.eOr, eNo, eIf, eIxR, eSl, pNo, pIs, iSeq, iZp, gNm, gTp, gsNil, gsCons, sNx, sBk, sCt, sSeq, Out.seq, sIf, sAsg, sOwn, sPar, sPar3, sRet, sFz, sPub, sSetR, sSetIx, sMut, sDrop, sFor, eLc, tYs, wipeR, D.elems, D.truth, D.add, D.sub, D.mul, D.fdiv, D.mod, D.pow, D.lt, D.le, D.gt, D.ge, D.isN, D.notN, D.ix, D.cat, liftI, Option.bind_some, Option.bind_none, Option.map_some, Option.map_none, List.map_cons, List.map_nil, List.length_cons, List.length_nil, List.cons_append, List.nil_append, List.replicate, List.set_cons_zero, List.set_cons_succ, List.getElem?_cons_zero, List.getElem?_cons_succ, Nat.reduceAdd, Nat.reduceSub, Nat.reduceLeDiff, if_true, if_false, ↓reduceIte, List.isEmpty_nil, List.isEmpty_cons, Bool.not_true, Bool.not_false, Bool.false_eq_true, decide_true, decide_false, decide_eq_true_eq]
theorem fits_s (r : List Int) (e : Ev) (S : Sto) (h : ∀ p ∈ e, p.1 < r.length) : F_fits [rowD r, evD e] S = some (.bl (fitsB r e), S) := by
  have c := compF_all (g := gTp 2 (gsCons (gNm 2) (gsCons (gNm 3) gsNil))) (te := eBin D.eq (eBin D.ix (bVar 0) (bVar 2)) (bVar 3)) (ρ := [.sh (rowD r), .sh (evD e), .un, .un]) (S := S) pD (fun p => D.bl (decide (r[p.1]? = some p.2))) e fun p hp => by
    have hl := h p hp
    have a : atI (r.map D.int) ((p.1 : Nat) : Int) = some (.int r[p.1]) := by
      rw [atI_lt (by simpa using hl), List.getElem_map]
    refine ⟨_, by unfold pD; simp only [fnD, fnE, fnOut, rho0, eVar, bVar, Sl.rd, eC, eBin, eTup, eLst, aNil, aCons, eCB, eCall, tTru, tBl, tAn, DL.tOr, tNo, eAn, DL.eOr, eNo, eIf, eIxR, eSl, pNo, pIs, iSeq, iZp, gNm, gTp, gsNil, gsCons, sNx, sBk, sCt, sSeq, Out.seq, sIf, sAsg, sOwn, sPar, sPar3, sRet, sFz, sPub, sSetR, sSetIx, sMut, sDrop, sFor, eLc, tYs, wipeR, D.elems, D.truth, D.add, D.sub, D.mul, D.fdiv, D.mod, D.pow, D.lt, D.le, D.gt, D.ge, D.isN, D.notN, D.ix, D.cat, liftI, Option.bind_some, Option.bind_none, Option.map_some, Option.map_none, List.map_cons, List.map_nil, List.length_cons, List.length_nil, List.cons_append, List.nil_append, List.replicate, List.set_cons_zero, List.set_cons_succ, List.getElem?_cons_zero, List.getElem?_cons_succ, Nat.reduceAdd, Nat.reduceSub, Nat.reduceLeDiff, if_true, if_false, ↓reduceIte, List.isEmpty_nil, List.isEmpty_cons, Bool.not_true, Bool.not_false, Bool.false_eq_true, decide_true, decide_false, decide_eq_true_eq]; rfl, ?_⟩
    unfold rowD
    simp only [fnD, fnE, fnOut, rho0, eVar, bVar, Sl.rd, eC, eBin, eTup, eLst, aNil, aCons, eCB, eCall, tTru, tBl, tAn, DL.tOr, tNo, eAn, DL.eOr, eNo, eIf, eIxR, eSl, pNo, pIs, iSeq, iZp, gNm, gTp, gsNil, gsCons, sNx, sBk, sCt, sSeq, Out.seq, sIf, sAsg, sOwn, sPar, sPar3, sRet, sFz, sPub, sSetR, sSetIx, sMut, sDrop, sFor, eLc, tYs, wipeR, D.elems, D.truth, D.add, D.sub, D.mul, D.fdiv, D.mod, D.pow, D.lt, D.le, D.gt, D.ge, D.isN, D.notN, D.ix, D.cat, liftI, Option.bind_some, Option.bind_none, Option.map_some, Option.map_none, List.map_cons, List.map_nil, List.length_cons, List.length_nil, List.cons_append, List.nil_append, List.replicate, List.set_cons_zero, List.set_cons_succ, List.getElem?_cons_zero, List.getElem?_cons_succ, Nat.reduceAdd, Nat.reduceSub, Nat.reduceLeDiff, if_true, if_false, ↓reduceIte, List.isEmpty_nil, List.isEmpty_cons, Bool.not_true, Bool.not_false, Bool.false_eq_true, decide_true, decide_false, decide_eq_true_eq, a, eq_int]
    rw [List.getElem?_eq_getElem hl]
    congr 3
    simp
  have b := boolsOf_map (e.map fun p => decide (r[p.1]? = some p.2))
  rw [List.map_map] at b
  unfold evD at c
  unfold F_fits b_fits evD
  simp only [fnD, fnE, fnOut, rho0, eVar, bVar, Sl.rd, eC, eBin, eTup, eLst, aNil, aCons, eCB, eCall, tTru, tBl, tAn, DL.tOr, tNo, eAn, DL.eOr, eNo, eIf, eIxR, eSl, pNo, pIs, iSeq, iZp, gNm, gTp, gsNil, gsCons, sNx, sBk, sCt, sSeq, Out.seq, sIf, sAsg, sOwn, sPar, sPar3, sRet, sFz, sPub, sSetR, sSetIx, sMut, sDrop, sFor, eLc, tYs, wipeR, D.elems, D.truth, D.add, D.sub, D.mul, D.fdiv, D.mod, D.pow, D.lt, D.le, D.gt, D.ge, D.isN, D.notN, D.ix, D.cat, liftI, Option.bind_some, Option.bind_none, Option.map_some, Option.map_none, List.map_cons, List.map_nil, List.length_cons, List.length_nil, List.cons_append, List.nil_append, List.replicate, List.set_cons_zero, List.set_cons_succ, List.getElem?_cons_zero, List.getElem?_cons_succ, Nat.reduceAdd, Nat.reduceSub, Nat.reduceLeDiff, if_true, if_false, ↓reduceIte, List.isEmpty_nil, List.isEmpty_cons, Bool.not_true, Bool.not_false, Bool.false_eq_true, decide_true, decide_false, decide_eq_true_eq, c, gAll]
  have b' : boolsOf (e.map fun p => D.bl (decide (r[p.1]? = some p.2))) = some (e.map fun p => decide (r[p.1]? = some p.2)) := b
  simp only [fnD, fnE, fnOut, rho0, eVar, bVar, Sl.rd, eC, eBin, eTup, eLst, aNil, aCons, eCB, eCall, tTru, tBl, tAn, DL.tOr, tNo, eAn, DL.eOr, eNo, eIf, eIxR, eSl, pNo, pIs, iSeq, iZp, gNm, gTp, gsNil, gsCons, sNx, sBk, sCt, sSeq, Out.seq, sIf, sAsg, sOwn, sPar, sPar3, sRet, sFz, sPub, sSetR, sSetIx, sMut, sDrop, sFor, eLc, tYs, wipeR, D.elems, D.truth, D.add, D.sub, D.mul, D.fdiv, D.mod, D.pow, D.lt, D.le, D.gt, D.ge, D.isN, D.notN, D.ix, D.cat, liftI, Option.bind_some, Option.bind_none, Option.map_some, Option.map_none, List.map_cons, List.map_nil, List.length_cons, List.length_nil, List.cons_append, List.nil_append, List.replicate, List.set_cons_zero, List.set_cons_succ, List.getElem?_cons_zero, List.getElem?_cons_succ, Nat.reduceAdd, Nat.reduceSub, Nat.reduceLeDiff, if_true, if_false, ↓reduceIte, List.isEmpty_nil, List.isEmpty_cons, Bool.not_true, Bool.not_false, Bool.false_eq_true, decide_true, decide_false, decide_eq_true_eq, b']
  unfold fitsB
  rw [List.all_map]
  rfl
end K64

set_option Elab.async false
set_option linter.all false
set_option maxRecDepth 100000
namespace DL
open L2 (atI atI_nat)
theorem rowsM_rowlen : ∀ {s : List Nat} {found : List (List Int)} {k : Nat}, (∀ r ∈ found, r.length = k) → ∀ r ∈ rowsM found s, r.length = k + s.length
  | [], found, k, h, r, hr => h r hr
  | n :: s, found, k, h, r, hr => by
    have := rowsM_rowlen (s := s) (found := found.flatMap (rowsStep n)) (k := k + 1) (fun r hr => by
      obtain ⟨r', hr', hx⟩ := List.mem_flatMap.mp hr
      unfold rowsStep at hx
      obtain ⟨x, _, rfl⟩ := List.mem_map.mp hx
      rw [List.length_append, h r' hr']; rfl) r hr
    rw [List.length_cons]; omega
def pick (s vars : List Nat) : List Nat := vars.map fun v => s.getD v 0
def eventsM (s vars : List Nat) : List Ev := (rowsM [[]] (pick s vars)).map fun r => vars.zip r
def varsD (vars : List Nat) : D := .tup (vars.map fun (v : Nat) => D.int (v : Int))
theorem zipPair_ev (vars : List Nat) (r : List Int) : zipPair (vars.map fun (v : Nat) => D.int (v : Int)) (r.map D.int) = (vars.zip r).map pD := by
  unfold zipPair
  rw [List.zip_map, List.map_map]
  rfl
def Wt (s : List Nat) (ws : List Int) (e : Ev) : Int := ((((rowsM [[]] s).zip ws).filter fun p => fitsB p.1 e).map (·.2)).sum
def tabM (ws : List Int) : List (Int × Int) := ws.map fun w => nf w ws.sum
def worldD (s : List Nat) (ws : List Int) : D := .tup [szD s, .tup ((tabM ws).map frD)]
def toldD (s : List Nat) (ws : List Int) : D := .tup [szD s, .lst ((rowsM [[]] s).map rowD), .lst (ws.map D.int), worldD s ws]
/-- what a world is -/
structure Wo (s : List Nat) (ws : List Int) : Prop where
  sm : Small [[]] s
  len : ws.length = (rowsM [[]] s).length
  nn : ∀ w ∈ ws, 0 ≤ w
  pos : 0 < ws.sum
  bd : ws.sum < 2 ^ 13
theorem sum_nonneg : ∀ {l : List Int}, (∀ x ∈ l, 0 ≤ x) → 0 ≤ l.sum
  | [], _ => by simp
  | x :: l, h => by
    rw [List.sum_cons]
    have := h x List.mem_cons_self
    have := sum_nonneg (l := l) fun y hy => h y (List.mem_cons_of_mem _ hy)
    omega
theorem sub_sum : ∀ {l m : List Int}, l.Sublist m → (∀ x ∈ m, 0 ≤ x) → l.sum ≤ m.sum
  | _, _, .slnil, _ => by simp
  | _, _, .cons a s, h => by
    rw [List.sum_cons]
    have := h a List.mem_cons_self
    have := sub_sum s fun y hy => h y (List.mem_cons_of_mem _ hy)
    omega
  | _, _, .cons_cons a s, h => by
    rw [List.sum_cons, List.sum_cons]
    have := sub_sum s fun y hy => h y (List.mem_cons_of_mem _ hy)
    omega
theorem zip_sub {α : Type} (p : α × Int → Bool) : ∀ (xs : List α) (ws : List Int), ((((xs.zip ws).filter p).map (·.2))).Sublist ws
  | [], ws => by simp
  | _ :: _, [] => by simp
  | x :: xs, w :: ws => by
    rw [List.zip_cons_cons, List.filter_cons]
    by_cases h : p (x, w) = true
    · rw [if_pos h, List.map_cons]; exact (zip_sub p xs ws).cons_cons w
    · rw [if_neg h]; exact (zip_sub p xs ws).cons w
section
variable {s : List Nat} {ws : List Int}
theorem Wo.wt_nn (h : Wo s ws) (e : Ev) : 0 ≤ Wt s ws e := sum_nonneg fun x hx => h.nn x ((zip_sub _ _ _).subset hx)
theorem Wo.wt_le (h : Wo s ws) (e : Ev) : Wt s ws e ≤ ws.sum := sub_sum (zip_sub _ _ _) h.nn
theorem Wo.wt_bd (h : Wo s ws) (e : Ev) : (Wt s ws e).natAbs < 2 ^ 13 := by
  have := h.wt_nn e
  have := h.wt_le e
  have := h.bd
  omega
theorem Wo.sum_bd (h : Wo s ws) : ws.sum.natAbs < 2 ^ 13 := by
  have := h.pos
  have := h.bd
  omega
end
theorem nf_zero {w : Int} (h : 0 < w) : nf 0 w = (0, 1) := by
  have e : (Nat.gcd (0 : Int).natAbs w.natAbs : Int) = w := by
    show ((Nat.gcd 0 w.natAbs : Nat) : Int) = w
    rw [Nat.gcd_zero_left]; omega
  unfold nf
  rw [e, Int.zero_ediv, Int.ediv_self (by omega)]
theorem plF_same (a b : Int) {w : Int} (h : 0 < w) : plF (nf a w) (nf b w) = nf (a + b) w := by
  have ha := nf_cross a w
  have hb := nf_cross b w
  unfold plF
  refine nf_eq (Int.mul_pos (nf_pos h) (nf_pos h)) h ?_
  generalize (nf a w).1 = a1 at *
  generalize (nf a w).2 = a2 at *
  generalize (nf b w).1 = b1 at *
  generalize (nf b w).2 = b2 at *
  calc (a1 * b2 + b1 * a2) * w = (a1 * w) * b2 + (b1 * w) * a2 := by
        rw [Int.add_mul]; congr 1 <;> simp only [Int.mul_assoc, Int.mul_comm, Int.mul_left_comm]
    _ = (a * a2) * b2 + (b * b2) * a2 := by rw [ha, hb]
    _ = (a + b) * (a2 * b2) := by
        rw [Int.add_mul]; congr 1 <;> simp only [Int.mul_assoc, Int.mul_comm, Int.mul_left_comm]
end DL
namespace K64
open DL
open L2 (atI atI_nat)
theorem totM_nf {w : Int} (h : 0 < w) : ∀ (l : List Int) (a : Int), totM (nf a w) (l.map fun x => nf x w) = nf (a + l.sum) w
  | [], a => by simp [totM]
  | x :: l, a => by
    rw [List.map_cons]
    show totM (plF (nf a w) (nf x w)) _ = _
    rw [plF_same a x h, totM_nf h l, List.sum_cons, Int.add_assoc]
theorem totM_nf0 {w : Int} (h : 0 < w) (l : List Int) : totM (0, 1) (l.map fun x => nf x w) = nf l.sum w := by
  rw [← nf_zero h, totM_nf h, Int.zero_add]
theorem add_row {r : List Int} (i : Nat) (h : r.length ≤ 1000) : D.add (.tup (r.map D.int)) (.tup [D.int (i : Int)]) = some (rowD (r ++ [(i : Int)])) := by
  have : (r.map D.int).length + [D.int (i : Int)].length ≤ PySem.sizeLine := szle (by simp; omega)
  simp only [D.add, rowD, this, if_true, List.map_append, List.map_cons, List.map_nil]
theorem row_ext (a b c : Sl) (r : List Int) (i : Nat) (S : Sto) (h : r.length ≤ 1000) : eBin D.add (bVar 3) (eTup (aCons (eVar 4) aNil)) [a, b, c, .sh (rowD r), .sh (.int (i : Int))] S = some (rowD (r ++ [(i : Int)]), S) := by
  have e := add_row (r := r) i h
  simp only [eBin, bVar, eTup, aCons, aNil, eVar, Sl.rd, List.getElem?_cons_zero, List.getElem?_cons_succ, Option.bind_some, Option.map_some, List.length_cons, List.length_nil, rowD]
  simp only [Nat.zero_add, sz1, if_true, Option.bind_some]
  rw [e]
  simp only [Option.map_some, rowD]
theorem row_ext2 (a b c d : Sl) (r : List Int) (i : Nat) (S : Sto) (h : r.length ≤ 1000) : eBin D.add (bVar 4) (eTup (aCons (eVar 5) aNil)) [a, b, c, d, .sh (rowD r), .sh (.int (i : Int))] S = some (rowD (r ++ [(i : Int)]), S) := by
  have e := add_row (r := r) i h
  simp only [eBin, bVar, eTup, aCons, aNil, eVar, Sl.rd, List.getElem?_cons_zero, List.getElem?_cons_succ, Option.bind_some, Option.map_some, List.length_cons, List.length_nil, rowD]
  simp only [Nat.zero_add, sz1, if_true, Option.bind_some]
  rw [e]
  simp only [Option.map_some, rowD]
theorem rows_fin {it1 : Ars} {te : Ex} {found : List (List Int)} {n : Nat} {ρ : Rho} {S : Sto} (hn : n ≤ 3) (hf : found.length ≤ 1000) (h1 : iSeq (bVar 1) ρ S = some (found.map rowD, S))
    (c : compO (gNm 3) tYs it1 (gNm 4) tYs te [4] (wipeR ρ [3, 4]) (found.map rowD) S = some (found.flatMap fun r => (rowsStep n r).map rowD, S)) :
    eLc2 (iSeq (bVar 1)) (gNm 3) tYs it1 (gNm 4) tYs te [3, 4] [4] ρ S = some (.lst ((found.flatMap (rowsStep n)).map rowD), S) := by
  unfold eLc2
  rw [h1, Option.bind_some, c, Option.bind_some]
  have fl : (found.flatMap fun r => (rowsStep n r).map rowD) = (found.flatMap (rowsStep n)).map rowD := by rw [List.map_flatMap]
  have len : ((found.flatMap (rowsStep n)).map rowD).length ≤ PySem.sizeLine := szle (by
    rw [List.length_map]
    have := flat_len (f := rowsStep n) (k := 3) (xs := found) fun r _ => by unfold rowsStep; simpa using hn
    omega)
  show (if (found.flatMap fun r => (rowsStep n r).map rowD).length ≤ PySem.sizeLine then some (D.lst (found.flatMap fun r => (rowsStep n r).map rowD), S) else none) = _
  rw [fl, if_pos len]
theorem rows_step (found : List (List Int)) (n : Nat) (a w1 w2 : Sl) (S : Sto) (hn : n ≤ 3) (hf : found.length ≤ 1000) (hr : ∀ r ∈ found, r.length ≤ 1000) :
    eLc2 (iSeq (bVar 1)) (gNm 3) tYs (iRng (aCons (bVar 2) aNil)) (gNm 4) tYs (eBin D.add (bVar 3) (eTup (aCons (eVar 4) aNil))) [3, 4] [4] [a, .sh (.lst (found.map rowD)), .sh (.int (n : Int)), w1, w2] S = some (.lst ((found.flatMap (rowsStep n)).map rowD), S) := by
  have c := compO_all (g := gNm 3) (g1 := gNm 4) (tt1 := tYs) (it1 := iRng (aCons (bVar 2) aNil)) (te := eBin D.add (bVar 3) (eTup (aCons (eVar 4) aNil))) (vs1 := [4]) (ρ := [a, .sh (.lst (found.map rowD)), .sh (.int (n : Int)), .un, .un]) (S := S) rowD (fun r => (rowsStep n r).map rowD) found fun r hr' => by
    refine ⟨_, (List.range n).map fun (i : Nat) => D.int (i : Int), rfl, ?_, ?_⟩
    · exact iRng_of (ds := [.int (n : Int)]) rfl (rangeOf_nat (Nat.le_trans hn (by decide)))
    · have c1 := compF_all (g := gNm 4) (te := eBin D.add (bVar 3) (eTup (aCons (eVar 4) aNil))) (ρ := [a, .sh (.lst (found.map rowD)), .sh (.int (n : Int)), .sh (rowD r), .un]) (S := S) (fun (i : Nat) => D.int (i : Int)) (fun (i : Nat) => rowD (r ++ [(i : Int)])) (List.range n) fun i _ => by
        exact ⟨_, rfl, row_ext _ _ _ r i S (hr r hr')⟩
      unfold rowsStep
      rw [List.map_map]
      exact c1
  exact rows_fin hn hf rfl c
theorem rows_of_s (s : List Nat) (S : Sto) (h : Small [[]] s) : F_rows_of [szD s] S = some (.tup ((rowsM [[]] s).map rowD), S) := by
  have loop : ∀ (suf : List Nat) (found : List (List Int)) (a z w1 w2 : Sl), Small found suf → ∃ z' w1' w2', forF (gNm 2) (sAsg (eLc2 (iSeq (bVar 1)) (gNm 3) tYs (iRng (aCons (bVar 2) aNil)) (gNm 4) tYs (eBin D.add (bVar 3) (eTup (aCons (eVar 4) aNil))) [3, 4] [4]) (gNm 1)) (suf.map fun (n : Nat) => D.int (n : Int)) [a, .sh (.lst (found.map rowD)), z, w1, w2] S =
      some (.nx [a, .sh (.lst ((rowsM found suf).map rowD)), z', w1', w2'] S) := by
    intro suf
    induction suf with
    | nil => intro found a z w1 w2 _; exact ⟨z, w1, w2, rfl⟩
    | cons n suf ih =>
      intro found a z w1 w2 hs
      obtain ⟨z', w1', w2', hz⟩ := ih (found.flatMap (rowsStep n)) a (.sh (.int (n : Int))) w1 w2 hs.next
      refine ⟨z', w1', w2', ?_⟩
      have st := rows_step found n a w1 w2 S (hs.1 n List.mem_cons_self) hs.len fun r hr => by have := hs.2.2 r hr; omega
      rw [List.map_cons, forF_step (ρ1 := [a, .sh (.lst (found.map rowD)), .sh (.int (n : Int)), w1, w2]) (S2 := S) rfl (by simp only [sAsg]; rw [st]; rfl)]
      exact hz
  obtain ⟨z', w1', w2', hz⟩ := loop s [[]] (.sh (szD s)) .un .un .un h
  have e0 : D.tup [] = rowD [] := rfl
  have e1 : ([rowD []] : List D) = [[]].map rowD := rfl
  unfold F_rows_of b_rows_of
  unfold szD at hz ⊢
  simp only [fnD, fnE, fnOut, rho0, eVar, bVar, Sl.rd, eC, eBin, eTup, eLst, aNil, aCons, eCB, eCall, tTru, tBl, tAn, DL.tOr, tNo, eAn, DL.eOr, eNo, eIf, eIxR, eSl, pNo, pIs, iSeq, iZp, gNm, gTp, gsNil, gsCons, sNx, sBk, sCt, sSeq, Out.seq, sIf, sAsg, sOwn, sPar, sPar3, sRet, sFz, sPub, sSetR, sSetIx, sMut, sDrop, sFor, eLc, tYs, wipeR, D.elems, D.truth, D.add, D.sub, D.mul, D.fdiv, D.mod, D.pow, D.lt, D.le, D.gt, D.ge, D.isN, D.notN, D.ix, D.cat, liftI, Option.bind_some, Option.bind_none, Option.map_some, Option.map_none, List.map_cons, List.map_nil, List.length_cons, List.length_nil, List.cons_append, List.nil_append, List.replicate, List.set_cons_zero, List.set_cons_succ, List.getElem?_cons_zero, List.getElem?_cons_succ, Nat.reduceAdd, Nat.reduceSub, Nat.reduceLeDiff, if_true, if_false, ↓reduceIte, List.isEmpty_nil, List.isEmpty_cons, Bool.not_true, Bool.not_false, Bool.false_eq_true, decide_true, decide_false, decide_eq_true_eq, sz0, sz1]
  rw [e0, e1, hz]
  simp only [fnD, fnE, fnOut, rho0, eVar, bVar, Sl.rd, eC, eBin, eTup, eLst, aNil, aCons, eCB, eCall, tTru, tBl, tAn, DL.tOr, tNo, eAn, DL.eOr, eNo, eIf, eIxR, eSl, pNo, pIs, iSeq, iZp, gNm, gTp, gsNil, gsCons, sNx, sBk, sCt, sSeq, Out.seq, sIf, sAsg, sOwn, sPar, sPar3, sRet, sFz, sPub, sSetR, sSetIx, sMut, sDrop, sFor, eLc, tYs, wipeR, D.elems, D.truth, D.add, D.sub, D.mul, D.fdiv, D.mod, D.pow, D.lt, D.le, D.gt, D.ge, D.isN, D.notN, D.ix, D.cat, liftI, Option.bind_some, Option.bind_none, Option.map_some, Option.map_none, List.map_cons, List.map_nil, List.length_cons, List.length_nil, List.cons_append, List.nil_append, List.replicate, List.set_cons_zero, List.set_cons_succ, List.getElem?_cons_zero, List.getElem?_cons_succ, Nat.reduceAdd, Nat.reduceSub, Nat.reduceLeDiff, if_true, if_false, ↓reduceIte, List.isEmpty_nil, List.isEmpty_cons, Bool.not_true, Bool.not_false, Bool.false_eq_true, decide_true, decide_false, decide_eq_true_eq, gTuple]
theorem law_rows_s (d : D) (s : List Nat) (S : Sto) (hd : d.elems = some (s.map fun (n : Nat) => D.int (n : Int))) (h : Small [[]] s) : F__law_rows [d] S = some (.lst ((rowsM [[]] s).map rowD), S) := by
  have inner : ∀ (n : Nat) (found : List (List Int)), n ≤ 3 → found.length ≤ 1000 → (∀ r ∈ found, r.length ≤ 1000) → ∀ (suf pre : List (List Int)) (a b c z w : Sl), found = pre ++ suf → ∃ z' w', forF (gNm 4) (sAsg (eBin D.add (bVar 3) (eLc (iRng (aCons (bVar 2) aNil)) (gNm 5) tYs (eBin D.add (bVar 4) (eTup (aCons (eVar 5) aNil))) [5])) (gNm 3)) (suf.map rowD) [a, b, .sh (.int (n : Int)), .sh (.lst ((pre.flatMap (rowsStep n)).map rowD)), z, w] S =
      some (.nx [a, b, .sh (.int (n : Int)), .sh (.lst ((found.flatMap (rowsStep n)).map rowD)), z', w'] S) := by
    intro n found hn hf hr suf
    induction suf with
    | nil => intro pre a b c z w e; rw [List.append_nil] at e; subst e; exact ⟨z, w, rfl⟩
    | cons r suf ih =>
      intro pre a b c z w e
      have hrm : r ∈ found := by rw [e]; simp
      obtain ⟨z', w', hz⟩ := ih (pre ++ [r]) a b c (.sh (rowD r)) w (by rw [e, List.append_assoc]; rfl)
      refine ⟨z', w', ?_⟩
      have c1 := compF_all (g := gNm 5) (te := eBin D.add (bVar 4) (eTup (aCons (eVar 5) aNil))) (ρ := [a, b, .sh (.int (n : Int)), .sh (.lst ((pre.flatMap (rowsStep n)).map rowD)), .sh (rowD r), .un]) (S := S) (fun (i : Nat) => D.int (i : Int)) (fun (i : Nat) => rowD (r ++ [(i : Int)])) (List.range n) fun i _ => by
        exact ⟨_, rfl, row_ext2 _ _ _ _ r i S (hr r hrm)⟩
      have e2 : ((pre ++ [r]).flatMap (rowsStep n)).map rowD = (pre.flatMap (rowsStep n)).map rowD ++ (List.range n).map fun (i : Nat) => rowD (r ++ [(i : Int)]) := by
        rw [List.flatMap_append, List.map_append]
        congr 1
        unfold rowsStep
        simp [List.map_map]
      have len : ((pre.flatMap (rowsStep n)).map rowD).length + ((List.range n).map fun (i : Nat) => rowD (r ++ [(i : Int)])).length ≤ PySem.sizeLine := szle (by
        rw [List.length_map, List.length_map, List.length_range]
        have := flat_len (f := rowsStep n) (k := 3) (xs := pre) fun r _ => by unfold rowsStep; simpa using hn
        have : pre.length ≤ found.length := by rw [e]; simp
        omega)
      rw [List.map_cons, forF_step (ρ1 := [a, b, .sh (.int (n : Int)), .sh (.lst ((pre.flatMap (rowsStep n)).map rowD)), .sh (rowD r), w]) (ρ2 := [a, b, .sh (.int (n : Int)), .sh (.lst (((pre ++ [r]).flatMap (rowsStep n)).map rowD)), .sh (rowD r), w]) (S2 := S) rfl (by
        refine sAsg_of (eBin_of (d2 := .lst ((List.range n).map fun (i : Nat) => rowD (r ++ [(i : Int)]))) (S2 := S) rfl (eLc_of (iRng_of (ds := [.int (n : Int)]) rfl (rangeOf_nat (Nat.le_trans hn (by decide)))) c1) (add_lst len)) ?_
        rw [e2]; rfl)]
      exact hz
  have loop : ∀ (suf : List Nat) (found : List (List Int)) (a z w1 w2 w3 : Sl), Small found suf → ∃ z' w1' w2' w3', forF (gNm 2) (sSeq (sAsg (eLst aNil) (gNm 3)) (sSeq (sFor (iSeq (eVar 1)) (gNm 4) (sAsg (eBin D.add (bVar 3) (eLc (iRng (aCons (bVar 2) aNil)) (gNm 5) tYs (eBin D.add (bVar 4) (eTup (aCons (eVar 5) aNil))) [5])) (gNm 3))) (sAsg (eVar 3) (gNm 1)))) (suf.map fun (n : Nat) => D.int (n : Int)) [a, .sh (.lst (found.map rowD)), z, w1, w2, w3] S =
      some (.nx [a, .sh (.lst ((rowsM found suf).map rowD)), z', w1', w2', w3'] S) := by
    intro suf
    induction suf with
    | nil => intro found a z w1 w2 w3 _; exact ⟨z, w1, w2, w3, rfl⟩
    | cons n suf ih =>
      intro found a z w1 w2 w3 hs
      obtain ⟨y1, y2, hy⟩ := inner n found (hs.1 n List.mem_cons_self) hs.len (fun r hr => by have := hs.2.2 r hr; omega) found [] a (.sh (.lst (found.map rowD))) .un w2 w3 rfl
      obtain ⟨z', w1', w2', w3', hz⟩ := ih (found.flatMap (rowsStep n)) a (.sh (.int (n : Int))) (.sh (.lst ((found.flatMap (rowsStep n)).map rowD))) y1 y2 hs.next
      refine ⟨z', w1', w2', w3', ?_⟩
      rw [List.map_cons, forF_step (ρ1 := [a, .sh (.lst (found.map rowD)), .sh (.int (n : Int)), w1, w2, w3]) (ρ2 := [a, .sh (.lst ((found.flatMap (rowsStep n)).map rowD)), .sh (.int (n : Int)), .sh (.lst ((found.flatMap (rowsStep n)).map rowD)), y1, y2]) (S2 := S) rfl (by
        simp only [fnD, fnE, fnOut, rho0, eVar, bVar, Sl.rd, eC, eBin, eTup, eLst, aNil, aCons, eCB, eCall, tTru, tBl, tAn, DL.tOr, tNo, eAn, DL.eOr, eNo, eIf, eIxR, eSl, pNo, pIs, iSeq, iZp, gNm, gTp, gsNil, gsCons, sNx, sBk, sCt, sSeq, Out.seq, sIf, sAsg, sOwn, sPar, sPar3, sRet, sFz, sPub, sSetR, sSetIx, sMut, sDrop, sFor, eLc, tYs, wipeR, D.elems, D.truth, D.add, D.sub, D.mul, D.fdiv, D.mod, D.pow, D.lt, D.le, D.gt, D.ge, D.isN, D.notN, D.ix, D.cat, liftI, Option.bind_some, Option.bind_none, Option.map_some, Option.map_none, List.map_cons, List.map_nil, List.length_cons, List.length_nil, List.cons_append, List.nil_append, List.replicate, List.set_cons_zero, List.set_cons_succ, List.getElem?_cons_zero, List.getElem?_cons_succ, Nat.reduceAdd, Nat.reduceSub, Nat.reduceLeDiff, if_true, if_false, ↓reduceIte, List.isEmpty_nil, List.isEmpty_cons, Bool.not_true, Bool.not_false, Bool.false_eq_true, decide_true, decide_false, decide_eq_true_eq, sz0]
        rw [show ([] : List D) = ((([] : List (List Int)).flatMap (rowsStep n)).map rowD) from rfl, hy]
        simp only [fnD, fnE, fnOut, rho0, eVar, bVar, Sl.rd, eC, eBin, eTup, eLst, aNil, aCons, eCB, eCall, tTru, tBl, tAn, DL.tOr, tNo, eAn, DL.eOr, eNo, eIf, eIxR, eSl, pNo, pIs, iSeq, iZp, gNm, gTp, gsNil, gsCons, sNx, sBk, sCt, sSeq, Out.seq, sIf, sAsg, sOwn, sPar, sPar3, sRet, sFz, sPub, sSetR, sSetIx, sMut, sDrop, sFor, eLc, tYs, wipeR, D.elems, D.truth, D.add, D.sub, D.mul, D.fdiv, D.mod, D.pow, D.lt, D.le, D.gt, D.ge, D.isN, D.notN, D.ix, D.cat, liftI, Option.bind_some, Option.bind_none, Option.map_some, Option.map_none, List.map_cons, List.map_nil, List.length_cons, List.length_nil, List.cons_append, List.nil_append, List.replicate, List.set_cons_zero, List.set_cons_succ, List.getElem?_cons_zero, List.getElem?_cons_succ, Nat.reduceAdd, Nat.reduceSub, Nat.reduceLeDiff, if_true, if_false, ↓reduceIte, List.isEmpty_nil, List.isEmpty_cons, Bool.not_true, Bool.not_false, Bool.false_eq_true, decide_true, decide_false, decide_eq_true_eq])]
      exact hz
  obtain ⟨z', w1', w2', w3', hz⟩ := loop s [[]] (.sh d) .un .un .un .un h
  have e0 : D.tup [] = rowD [] := rfl
  have e1 : ([rowD []] : List D) = [[]].map rowD := rfl
  unfold F__law_rows b__law_rows
  refine fnD_rt (S' := S) (sSeq_of (ρ' := [.sh d, .sh (.lst ([[]].map rowD)), .un, .un, .un, .un]) (S1 := S) ?_ (sSeq_of (sFor_of (iSeq_of (d := d) rfl hd) hz) rfl)) rfl
  simp only [fnD, fnE, fnOut, rho0, eVar, bVar, Sl.rd, eC, eBin, eTup, eLst, aNil, aCons, eCB, eCall, tTru, tBl, tAn, DL.tOr, tNo, eAn, DL.eOr, eNo, eIf, eIxR, eSl, pNo, pIs, iSeq, iZp, gNm, gTp, gsNil, gsCons, sNx, sBk, sCt, sSeq, Out.seq, sIf, sAsg, sOwn, sPar, sPar3, sRet, sFz, sPub, sSetR, sSetIx, sMut, sDrop, sFor, eLc, tYs, wipeR, D.elems, D.truth, D.add, D.sub, D.mul, D.fdiv, D.mod, D.pow, D.lt, D.le, D.gt, D.ge, D.isN, D.notN, D.ix, D.cat, liftI, Option.bind_some, Option.bind_none, Option.map_some, Option.map_none, List.map_cons, List.map_nil, List.length_cons, List.length_nil, List.cons_append, List.nil_append, List.replicate, List.set_cons_zero, List.set_cons_succ, List.getElem?_cons_zero, List.getElem?_cons_succ, Nat.reduceAdd, Nat.reduceSub, Nat.reduceLeDiff, if_true, if_false, ↓reduceIte, List.isEmpty_nil, List.isEmpty_cons, Bool.not_true, Bool.not_false, Bool.false_eq_true, decide_true, decide_false, decide_eq_true_eq, sz0, sz1]
  rfl
end K64

set_option Elab.async false
set_option linter.all false
set_option maxRecDepth 100000
namespace DL
open L2 (atI atI_nat)
theorem zipWith_tab (rows : List (List Int)) (ws : List Int) (w : Int) : List.zipWith (fun x y => D.tup [x, y]) (rows.map rowD) ((ws.map fun x => nf x w).map frD) = (rows.zip ws).map fun p => D.tup [rowD p.1, frD (nf p.2 w)] := by
  induction rows generalizing ws with
  | nil => rfl
  | cons r rows ih =>
    cases ws with
    | nil => rfl
    | cons x ws => simp only [List.map_cons, List.zipWith_cons_cons, List.zip_cons_cons, ih ws]
theorem zip_range {α β : Type} (d1 : α) (d2 : β) : ∀ (xs : List α) (ys : List β), xs.length = ys.length → xs.zip ys = (List.range xs.length).map fun i => (xs.getD i d1, ys.getD i d2)
  | [], [], _ => rfl
  | x :: xs, y :: ys, h => by
    rw [List.zip_cons_cons, zip_range d1 d2 xs ys (by simpa using h), List.length_cons, List.range_succ_eq_map, List.map_cons, List.map_map]
    rfl
/-- an event whose variables are below n -/
def Below (n : Nat) (e : Ev) : Prop := ∀ p ∈ e, p.1 < n
end DL
namespace K64
open DL
open L2 (atI atI_nat)
section
variable {s : List Nat} {ws : List Int}
theorem pick_s (s vars : List Nat) (S : Sto) (h : ∀ v ∈ vars, v < s.length) {w : D} {ρ : Rho} {i : Nat} {b : Ex} (hb : ∀ v : Nat, eBin D.ix (eBin D.ix (bVar 0) (eC (.int 0))) (bVar i) (ρ.set i (.sh (.int (v : Int)))) S = (D.ix (szD s) (.int (v : Int))).map fun d => (d, S)) :
    compF (gNm i) tYs (eBin D.ix (eBin D.ix (bVar 0) (eC (.int 0))) (bVar i)) ρ (vars.map fun (v : Nat) => D.int (v : Int)) S = some ((pick s vars).map fun (n : Nat) => D.int (n : Int), S) := by
  rw [compF_all (fun (v : Nat) => D.int (v : Int)) (fun v => D.int ((s.getD v 0 : Nat) : Int)) vars fun v hv => ⟨_, rfl, by
    rw [hb v]
    have hl := h v hv
    have a : atI (s.map fun (n : Nat) => D.int (n : Int)) ((v : Nat) : Int) = some (.int ((s.getD v 0 : Nat) : Int)) := by
      rw [atI_lt (by simpa using hl), List.getElem_map, List.getD_eq_getElem?_getD, List.getElem?_eq_getElem hl]; rfl
    show (atI (s.map fun (n : Nat) => D.int (n : Int)) ((v : Nat) : Int)).map _ = _
    rw [a]; rfl⟩]
  unfold pick
  rw [List.map_map]
  rfl
theorem values_of_s (h : Wo s ws) (vars : List Nat) (S : Sto) (hv : ∀ v ∈ vars, v < s.length) (hs : Small [[]] (pick s vars)) : F_values_of [worldD s ws, varsD vars] S = some (.lst ((eventsM s vars).map evD), S) := by
  have c1 := pick_s s vars S hv (w := .non) (ρ := [.sh (worldD s ws), .sh (varsD vars), .un, .un, .un]) (i := 3) (b := eC .non) fun v => by
    unfold worldD
    simp only [fnD, fnE, fnOut, rho0, eVar, bVar, Sl.rd, eC, eBin, eTup, eLst, aNil, aCons, eCB, eCall, tTru, tBl, tAn, DL.tOr, tNo, eAn, DL.eOr, eNo, eIf, eIxR, eSl, pNo, pIs, iSeq, iZp, gNm, gTp, gsNil, gsCons, sNx, sBk, sCt, sSeq, Out.seq, sIf, sAsg, sOwn, sPar, sPar3, sRet, sFz, sPub, sSetR, sSetIx, sMut, sDrop, sFor, eLc, tYs, wipeR, D.elems, D.truth, D.add, D.sub, D.mul, D.fdiv, D.mod, D.pow, D.lt, D.le, D.gt, D.ge, D.isN, D.notN, D.ix, D.cat, liftI, Option.bind_some, Option.bind_none, Option.map_some, Option.map_none, List.map_cons, List.map_nil, List.length_cons, List.length_nil, List.cons_append, List.nil_append, List.replicate, List.set_cons_zero, List.set_cons_succ, List.getElem?_cons_zero, List.getElem?_cons_succ, Nat.reduceAdd, Nat.reduceSub, Nat.reduceLeDiff, if_true, if_false, ↓reduceIte, List.isEmpty_nil, List.isEmpty_cons, Bool.not_true, Bool.not_false, Bool.false_eq_true, decide_true, decide_false, decide_eq_true_eq, at0]
  have r := rows_of_s (pick s vars) S hs
  have c2 := compF_all (g := gNm 4) (te := eCB gTupZip (aCons (bVar 1) (aCons (bVar 4) aNil))) (ρ := [.sh (worldD s ws), .sh (varsD vars), .sh (.tup ((rowsM [[]] (pick s vars)).map rowD)), .un, .un]) (S := S) rowD (fun r => evD (vars.zip r)) (rowsM [[]] (pick s vars)) fun r _ => by
    refine ⟨_, rfl, ?_⟩
    have z := zipPair_ev vars r
    unfold varsD rowD evD
    simp only [fnD, fnE, fnOut, rho0, eVar, bVar, Sl.rd, eC, eBin, eTup, eLst, aNil, aCons, eCB, eCall, tTru, tBl, tAn, DL.tOr, tNo, eAn, DL.eOr, eNo, eIf, eIxR, eSl, pNo, pIs, iSeq, iZp, gNm, gTp, gsNil, gsCons, sNx, sBk, sCt, sSeq, Out.seq, sIf, sAsg, sOwn, sPar, sPar3, sRet, sFz, sPub, sSetR, sSetIx, sMut, sDrop, sFor, eLc, tYs, wipeR, D.elems, D.truth, D.add, D.sub, D.mul, D.fdiv, D.mod, D.pow, D.lt, D.le, D.gt, D.ge, D.isN, D.notN, D.ix, D.cat, liftI, Option.bind_some, Option.bind_none, Option.map_some, Option.map_none, List.map_cons, List.map_nil, List.length_cons, List.length_nil, List.cons_append, List.nil_append, List.replicate, List.set_cons_zero, List.set_cons_succ, List.getElem?_cons_zero, List.getElem?_cons_succ, Nat.reduceAdd, Nat.reduceSub, Nat.reduceLeDiff, if_true, if_false, ↓reduceIte, List.isEmpty_nil, List.isEmpty_cons, Bool.not_true, Bool.not_false, Bool.false_eq_true, decide_true, decide_false, decide_eq_true_eq, gTupZip, z]
  unfold F_values_of b_values_of
  refine fnD_rt (S' := S) (sSeq_of (ρ' := [.sh (worldD s ws), .sh (varsD vars), .sh (.tup ((rowsM [[]] (pick s vars)).map rowD)), .un, .un]) (S1 := S) ?_ ?_) rfl
  · refine sAsg_of (eCall_of (ds := [szD (pick s vars)]) (S1 := S) (aCons_of (eCB_of (ds := [.lst ((pick s vars).map fun (n : Nat) => D.int (n : Int))]) (aCons_of (eLc_of (xs := vars.map fun (v : Nat) => D.int (v : Int)) (S1 := S) rfl c1) rfl) rfl) rfl) r) rfl
  · refine sRet_of ?_
    rw [eLc_of (xs := (rowsM [[]] (pick s vars)).map rowD) (S1 := S) rfl c2]
    unfold eventsM
    rw [List.map_map]
    rfl
theorem events_s (h : Wo s ws) (vars : List Nat) (S : Sto) (hv : ∀ v ∈ vars, v < s.length) (hs : Small [[]] (pick s vars)) (hz : vars.length ≤ 100) : F__law_events [toldD s ws, varsD vars] S = some (.lst ((eventsM s vars).map evD), S) := by
  have c1 := pick_s s vars S hv (w := .non) (ρ := [.sh (toldD s ws), .sh (varsD vars), .un, .un, .un]) (i := 4) (b := eC .non) fun v => by
    unfold toldD
    simp only [fnD, fnE, fnOut, rho0, eVar, bVar, Sl.rd, eC, eBin, eTup, eLst, aNil, aCons, eCB, eCall, tTru, tBl, tAn, DL.tOr, tNo, eAn, DL.eOr, eNo, eIf, eIxR, eSl, pNo, pIs, iSeq, iZp, gNm, gTp, gsNil, gsCons, sNx, sBk, sCt, sSeq, Out.seq, sIf, sAsg, sOwn, sPar, sPar3, sRet, sFz, sPub, sSetR, sSetIx, sMut, sDrop, sFor, eLc, tYs, wipeR, D.elems, D.truth, D.add, D.sub, D.mul, D.fdiv, D.mod, D.pow, D.lt, D.le, D.gt, D.ge, D.isN, D.notN, D.ix, D.cat, liftI, Option.bind_some, Option.bind_none, Option.map_some, Option.map_none, List.map_cons, List.map_nil, List.length_cons, List.length_nil, List.cons_append, List.nil_append, List.replicate, List.set_cons_zero, List.set_cons_succ, List.getElem?_cons_zero, List.getElem?_cons_succ, Nat.reduceAdd, Nat.reduceSub, Nat.reduceLeDiff, if_true, if_false, ↓reduceIte, List.isEmpty_nil, List.isEmpty_cons, Bool.not_true, Bool.not_false, Bool.false_eq_true, decide_true, decide_false, decide_eq_true_eq, at0]
  have r := law_rows_s (.lst ((pick s vars).map fun (n : Nat) => D.int (n : Int))) (pick s vars) S rfl hs
  have c2 := compF_all (g := gNm 2) (te := eCB gTuple (aCons (eLc (iRng (aCons (eCB gLen (aCons (bVar 2) aNil)) aNil)) (gNm 3) tYs (eTup (aCons (eBin D.ix (bVar 1) (bVar 3)) (aCons (eBin D.ix (bVar 2) (bVar 3)) aNil))) [3]) aNil)) (ρ := [.sh (toldD s ws), .sh (varsD vars), .un, .un, .un]) (S := S) rowD (fun r => evD (vars.zip r)) (rowsM [[]] (pick s vars)) fun r hr => by
    refine ⟨_, rfl, ?_⟩
    have hrl : r.length = vars.length := by
      have := rowsM_rowlen (s := pick s vars) (found := [[]]) (k := 0) (by simp) r hr
      rw [this]; unfold pick; simp
    have c3 := compF_all (g := gNm 3) (te := eTup (aCons (eBin D.ix (bVar 1) (bVar 3)) (aCons (eBin D.ix (bVar 2) (bVar 3)) aNil))) (ρ := [.sh (toldD s ws), .sh (varsD vars), .sh (rowD r), .un, .un]) (S := S) (fun (i : Nat) => D.int (i : Int)) (fun (i : Nat) => pD (vars.getD i 0, r.getD i 0)) (List.range r.length) fun i hi => by
      have hi' : i < r.length := List.mem_range.mp hi
      have a1 : atI (vars.map fun (v : Nat) => D.int (v : Int)) ((i : Nat) : Int) = some (.int ((vars.getD i 0 : Nat) : Int)) := by
        rw [atI_lt (by simpa [← hrl] using hi'), List.getElem_map, List.getD_eq_getElem?_getD, List.getElem?_eq_getElem (by omega)]; rfl
      have a2 : atI (r.map D.int) ((i : Nat) : Int) = some (.int (r.getD i 0)) := by
        rw [atI_lt (by simpa using hi'), List.getElem_map, List.getD_eq_getElem?_getD, List.getElem?_eq_getElem hi']; rfl
      refine ⟨_, rfl, ?_⟩
      unfold varsD rowD pD
      simp only [fnD, fnE, fnOut, rho0, eVar, bVar, Sl.rd, eC, eBin, eTup, eLst, aNil, aCons, eCB, eCall, tTru, tBl, tAn, DL.tOr, tNo, eAn, DL.eOr, eNo, eIf, eIxR, eSl, pNo, pIs, iSeq, iZp, gNm, gTp, gsNil, gsCons, sNx, sBk, sCt, sSeq, Out.seq, sIf, sAsg, sOwn, sPar, sPar3, sRet, sFz, sPub, sSetR, sSetIx, sMut, sDrop, sFor, eLc, tYs, wipeR, D.elems, D.truth, D.add, D.sub, D.mul, D.fdiv, D.mod, D.pow, D.lt, D.le, D.gt, D.ge, D.isN, D.notN, D.ix, D.cat, liftI, Option.bind_some, Option.bind_none, Option.map_some, Option.map_none, List.map_cons, List.map_nil, List.length_cons, List.length_nil, List.cons_append, List.nil_append, List.replicate, List.set_cons_zero, List.set_cons_succ, List.getElem?_cons_zero, List.getElem?_cons_succ, Nat.reduceAdd, Nat.reduceSub, Nat.reduceLeDiff, if_true, if_false, ↓reduceIte, List.isEmpty_nil, List.isEmpty_cons, Bool.not_true, Bool.not_false, Bool.false_eq_true, decide_true, decide_false, decide_eq_true_eq, a1, a2, sz2]
    have e3 : ((List.range r.length).map fun (i : Nat) => pD (vars.getD i 0, r.getD i 0)) = (vars.zip r).map pD := by
      rw [zip_range 0 0 vars r hrl.symm, List.map_map, hrl]
      rfl
    refine eCB_of (ds := [.lst ((vars.zip r).map pD)]) (S1 := S) (aCons_of (eLc_of (xs := (List.range r.length).map fun (i : Nat) => D.int (i : Int)) (S1 := S) (iRng_of (ds := [.int (r.length : Int)]) (S1 := S) ?_ (rangeOf_nat (by omega))) (by rw [← e3]; exact c3)) rfl) rfl
    unfold rowD
    simp only [fnD, fnE, fnOut, rho0, eVar, bVar, Sl.rd, eC, eBin, eTup, eLst, aNil, aCons, eCB, eCall, tTru, tBl, tAn, DL.tOr, tNo, eAn, DL.eOr, eNo, eIf, eIxR, eSl, pNo, pIs, iSeq, iZp, gNm, gTp, gsNil, gsCons, sNx, sBk, sCt, sSeq, Out.seq, sIf, sAsg, sOwn, sPar, sPar3, sRet, sFz, sPub, sSetR, sSetIx, sMut, sDrop, sFor, eLc, tYs, wipeR, D.elems, D.truth, D.add, D.sub, D.mul, D.fdiv, D.mod, D.pow, D.lt, D.le, D.gt, D.ge, D.isN, D.notN, D.ix, D.cat, liftI, Option.bind_some, Option.bind_none, Option.map_some, Option.map_none, List.map_cons, List.map_nil, List.length_cons, List.length_nil, List.cons_append, List.nil_append, List.replicate, List.set_cons_zero, List.set_cons_succ, List.getElem?_cons_zero, List.getElem?_cons_succ, Nat.reduceAdd, Nat.reduceSub, Nat.reduceLeDiff, if_true, if_false, ↓reduceIte, List.isEmpty_nil, List.isEmpty_cons, Bool.not_true, Bool.not_false, Bool.false_eq_true, decide_true, decide_false, decide_eq_true_eq, gLen, List.length_map]
  unfold F__law_events b__law_events
  refine fnD_rt (S' := S) (sRet_of ?_) rfl
  rw [eLc_of (xs := (rowsM [[]] (pick s vars)).map rowD) (S1 := S) (iSeq_of (d := .lst ((rowsM [[]] (pick s vars)).map rowD)) (eCall_of (ds := [.lst ((pick s vars).map fun (n : Nat) => D.int (n : Int))]) (S1 := S) (aCons_of (eLc_of (xs := vars.map fun (v : Nat) => D.int (v : Int)) (S1 := S) rfl c1) rfl) r) rfl) c2]
  · unfold eventsM
    rw [List.map_map]
    rfl
theorem chance_s (h : Wo s ws) (e : Ev) (S : Sto) (he : Below s.length e) : F_chance [worldD s ws, evD e] S = some (frD (nf (Wt s ws e) ws.sum), S) := by
  have r := rows_of_s s S h.sm
  have c := compF_map (g := gTp 2 (gsCons (gNm 2) (gsCons (gNm 3) gsNil))) (tt := tTru (eCall F_fits (aCons (eVar 2) (aCons (eVar 1) aNil)))) (te := eVar 3) (ρ := [.sh (worldD s ws), .sh (evD e), .un, .un]) (S := S)
    (fun p : List Int × Int => D.tup [rowD p.1, frD (nf p.2 ws.sum)]) (fun p => fitsB p.1 e) (fun p => frD (nf p.2 ws.sum)) ((rowsM [[]] s).zip ws) fun p hp => by
      have hrl : p.1.length = s.length := by
        have := rowsM_rowlen (s := s) (found := [[]]) (k := 0) (by simp) p.1 (List.of_mem_zip hp).1
        omega
      have f := fits_s p.1 e S fun q hq => by rw [hrl]; exact he q hq
      refine ⟨_, by simp only [fnD, fnE, fnOut, rho0, eVar, bVar, Sl.rd, eC, eBin, eTup, eLst, aNil, aCons, eCB, eCall, tTru, tBl, tAn, DL.tOr, tNo, eAn, DL.eOr, eNo, eIf, eIxR, eSl, pNo, pIs, iSeq, iZp, gNm, gTp, gsNil, gsCons, sNx, sBk, sCt, sSeq, Out.seq, sIf, sAsg, sOwn, sPar, sPar3, sRet, sFz, sPub, sSetR, sSetIx, sMut, sDrop, sFor, eLc, tYs, wipeR, D.elems, D.truth, D.add, D.sub, D.mul, D.fdiv, D.mod, D.pow, D.lt, D.le, D.gt, D.ge, D.isN, D.notN, D.ix, D.cat, liftI, Option.bind_some, Option.bind_none, Option.map_some, Option.map_none, List.map_cons, List.map_nil, List.length_cons, List.length_nil, List.cons_append, List.nil_append, List.replicate, List.set_cons_zero, List.set_cons_succ, List.getElem?_cons_zero, List.getElem?_cons_succ, Nat.reduceAdd, Nat.reduceSub, Nat.reduceLeDiff, if_true, if_false, ↓reduceIte, List.isEmpty_nil, List.isEmpty_cons, Bool.not_true, Bool.not_false, Bool.false_eq_true, decide_true, decide_false, decide_eq_true_eq]; rfl, ?_, fun _ => by simp only [fnD, fnE, fnOut, rho0, eVar, bVar, Sl.rd, eC, eBin, eTup, eLst, aNil, aCons, eCB, eCall, tTru, tBl, tAn, DL.tOr, tNo, eAn, DL.eOr, eNo, eIf, eIxR, eSl, pNo, pIs, iSeq, iZp, gNm, gTp, gsNil, gsCons, sNx, sBk, sCt, sSeq, Out.seq, sIf, sAsg, sOwn, sPar, sPar3, sRet, sFz, sPub, sSetR, sSetIx, sMut, sDrop, sFor, eLc, tYs, wipeR, D.elems, D.truth, D.add, D.sub, D.mul, D.fdiv, D.mod, D.pow, D.lt, D.le, D.gt, D.ge, D.isN, D.notN, D.ix, D.cat, liftI, Option.bind_some, Option.bind_none, Option.map_some, Option.map_none, List.map_cons, List.map_nil, List.length_cons, List.length_nil, List.cons_append, List.nil_append, List.replicate, List.set_cons_zero, List.set_cons_succ, List.getElem?_cons_zero, List.getElem?_cons_succ, Nat.reduceAdd, Nat.reduceSub, Nat.reduceLeDiff, if_true, if_false, ↓reduceIte, List.isEmpty_nil, List.isEmpty_cons, Bool.not_true, Bool.not_false, Bool.false_eq_true, decide_true, decide_false, decide_eq_true_eq]⟩
      simp only [fnD, fnE, fnOut, rho0, eVar, bVar, Sl.rd, eC, eBin, eTup, eLst, aNil, aCons, eCB, eCall, tTru, tBl, tAn, DL.tOr, tNo, eAn, DL.eOr, eNo, eIf, eIxR, eSl, pNo, pIs, iSeq, iZp, gNm, gTp, gsNil, gsCons, sNx, sBk, sCt, sSeq, Out.seq, sIf, sAsg, sOwn, sPar, sPar3, sRet, sFz, sPub, sSetR, sSetIx, sMut, sDrop, sFor, eLc, tYs, wipeR, D.elems, D.truth, D.add, D.sub, D.mul, D.fdiv, D.mod, D.pow, D.lt, D.le, D.gt, D.ge, D.isN, D.notN, D.ix, D.cat, liftI, Option.bind_some, Option.bind_none, Option.map_some, Option.map_none, List.map_cons, List.map_nil, List.length_cons, List.length_nil, List.cons_append, List.nil_append, List.replicate, List.set_cons_zero, List.set_cons_succ, List.getElem?_cons_zero, List.getElem?_cons_succ, Nat.reduceAdd, Nat.reduceSub, Nat.reduceLeDiff, if_true, if_false, ↓reduceIte, List.isEmpty_nil, List.isEmpty_cons, Bool.not_true, Bool.not_false, Bool.false_eq_true, decide_true, decide_false, decide_eq_true_eq, f]
  have t := total_s (k := 13) S (((((rowsM [[]] s).zip ws).filter fun p => fitsB p.1 e).map (·.2)).map fun x => nf x ws.sum) (fun pre x suf hsp => by
    obtain ⟨l1, l2, hl, hp1, hp2⟩ := List.map_eq_append_iff.mp hsp
    obtain ⟨y, l3, rfl, rfl, rfl⟩ := List.map_eq_cons_iff.mp hp2
    have sub : (l1 ++ y :: l3).Sublist ws := hl ▸ zip_sub _ _ _
    have s1 : l1.Sublist ws := (List.sublist_append_left _ _).trans sub
    have b : ∀ z : Int, 0 ≤ z → z ≤ ws.sum → z.natAbs < 2 ^ 13 := fun z h1 h2 => by have := h.bd; omega
    have hy : y ∈ ws := sub.subset (by simp)
    rw [← hp1, totM_nf0 h.pos]
    refine ⟨nf_fb (b _ (sum_nonneg fun z hz => h.nn z (s1.subset hz)) (sub_sum s1 h.nn)) h.pos h.sum_bd, nf_fb (b y (h.nn y hy) ?_) h.pos h.sum_bd⟩
    have := sub_sum (l := [y]) (m := ws) (List.singleton_sublist.mpr hy) h.nn
    simpa using this) (by decide)
  have e1 : totM (0, 1) (((((rowsM [[]] s).zip ws).filter fun p => fitsB p.1 e).map (·.2)).map fun x => nf x ws.sum) = nf (Wt s ws e) ws.sum := totM_nf0 h.pos _
  rw [e1] at t
  have e2 : (((((rowsM [[]] s).zip ws).filter fun p => fitsB p.1 e).map (·.2)).map fun x => nf x ws.sum).map frD = (((rowsM [[]] s).zip ws).filter fun p => fitsB p.1 e).map fun p => frD (nf p.2 ws.sum) := by
    rw [List.map_map, List.map_map]; rfl
  rw [e2] at t
  unfold F_chance b_chance
  refine fnD_rt (S' := S) (sRet_of (eCall_of (ds := [.lst ((((rowsM [[]] s).zip ws).filter fun (p : List Int × Int) => fitsB p.1 e).map fun (p : List Int × Int) => frD (nf p.2 ws.sum))]) (S1 := S) (aCons_of (eLc_of (xs := ((rowsM [[]] s).zip ws).map fun (p : List Int × Int) => D.tup [rowD p.1, frD (nf p.2 ws.sum)]) (S1 := S) ?_ c) rfl) t)) rfl
  unfold worldD
  simp only [fnD, fnE, fnOut, rho0, eVar, bVar, Sl.rd, eC, eBin, eTup, eLst, aNil, aCons, eCB, eCall, tTru, tBl, tAn, DL.tOr, tNo, eAn, DL.eOr, eNo, eIf, eIxR, eSl, pNo, pIs, iSeq, iZp, gNm, gTp, gsNil, gsCons, sNx, sBk, sCt, sSeq, Out.seq, sIf, sAsg, sOwn, sPar, sPar3, sRet, sFz, sPub, sSetR, sSetIx, sMut, sDrop, sFor, eLc, tYs, wipeR, D.elems, D.truth, D.add, D.sub, D.mul, D.fdiv, D.mod, D.pow, D.lt, D.le, D.gt, D.ge, D.isN, D.notN, D.ix, D.cat, liftI, Option.bind_some, Option.bind_none, Option.map_some, Option.map_none, List.map_cons, List.map_nil, List.length_cons, List.length_nil, List.cons_append, List.nil_append, List.replicate, List.set_cons_zero, List.set_cons_succ, List.getElem?_cons_zero, List.getElem?_cons_succ, Nat.reduceAdd, Nat.reduceSub, Nat.reduceLeDiff, if_true, if_false, ↓reduceIte, List.isEmpty_nil, List.isEmpty_cons, Bool.not_true, Bool.not_false, Bool.false_eq_true, decide_true, decide_false, decide_eq_true_eq, at0, at1, r, zipOf]
  rw [show (tabM ws).map frD = (ws.map fun x => nf x ws.sum).map frD from rfl, zipWith_tab]
theorem weight_s (h : Wo s ws) (e : Ev) (S : Sto) (he : Below s.length e) : F__law_weight [toldD s ws, evD e] S = some (.int (Wt s ws e), S) := by
  have hlen : (rowsM [[]] s).length ≤ 1000 := rowsM_len h.sm
  let ρ0 : Rho := [.sh (toldD s ws), .sh (evD e), .sh (szD s), .sh (.lst ((rowsM [[]] s).map rowD)), .sh (.lst (ws.map D.int)), .sh (worldD s ws), .un, .un, .un]
  have c := compF_map (g := gNm 6) (tt := tTru (eCB gAll (aCons (eLc (iSeq (bVar 1)) (gTp 2 (gsCons (gNm 7) (gsCons (gNm 8) gsNil))) tYs (eBin D.eq (eBin D.ix (eBin D.ix (bVar 3) (bVar 6)) (bVar 7)) (bVar 8)) [7, 8]) aNil))) (te := eBin D.ix (bVar 4) (bVar 6)) (ρ := ρ0) (S := S)
    (fun (i : Nat) => D.int (i : Int)) (fun i => fitsB ((rowsM [[]] s).getD i []) e) (fun i => D.int (ws.getD i 0)) (List.range (rowsM [[]] s).length) fun i hi => by
      have hi' : i < (rowsM [[]] s).length := List.mem_range.mp hi
      have hm : (rowsM [[]] s)[i] ∈ rowsM [[]] s := List.getElem_mem hi'
      have hrl : (rowsM [[]] s)[i].length = s.length := by
        have := rowsM_rowlen (s := s) (found := [[]]) (k := 0) (by simp) _ hm
        omega
      have g1 : (rowsM [[]] s).getD i [] = (rowsM [[]] s)[i] := by rw [List.getD_eq_getElem?_getD, List.getElem?_eq_getElem hi']; rfl
      have a1 : atI ((rowsM [[]] s).map rowD) ((i : Nat) : Int) = some (rowD ((rowsM [[]] s).getD i [])) := by
        rw [atI_lt (by simpa using hi'), List.getElem_map, g1]
      have a2 : atI (ws.map D.int) ((i : Nat) : Int) = some (.int (ws.getD i 0)) := by
        have hw : i < ws.length := by rw [h.len]; exact hi'
        rw [atI_lt (by simpa using hw), List.getElem_map, List.getD_eq_getElem?_getD, List.getElem?_eq_getElem hw]; rfl
      generalize (rowsM [[]] s).getD i [] = r at *
      rw [← g1] at hrl
      let ρ1 : Rho := [.sh (toldD s ws), .sh (evD e), .sh (szD s), .sh (.lst ((rowsM [[]] s).map rowD)), .sh (.lst (ws.map D.int)), .sh (worldD s ws), .sh (.int (i : Int)), .un, .un]
      have c2 := compF_all (g := gTp 2 (gsCons (gNm 7) (gsCons (gNm 8) gsNil))) (te := eBin D.eq (eBin D.ix (eBin D.ix (bVar 3) (bVar 6)) (bVar 7)) (bVar 8)) (ρ := ρ1) (S := S) pD (fun p => D.bl (decide (r[p.1]? = some p.2))) e fun p hp => by
        have hl : p.1 < r.length := by rw [hrl]; exact he p hp
        have a : atI (r.map D.int) ((p.1 : Nat) : Int) = some (.int r[p.1]) := by
          rw [atI_lt (by simpa using hl), List.getElem_map]
        refine ⟨_, by unfold pD; simp only [fnD, fnE, fnOut, rho0, eVar, bVar, Sl.rd, eC, eBin, eTup, eLst, aNil, aCons, eCB, eCall, tTru, tBl, tAn, DL.tOr, tNo, eAn, DL.eOr, eNo, eIf, eIxR, eSl, pNo, pIs, iSeq, iZp, gNm, gTp, gsNil, gsCons, sNx, sBk, sCt, sSeq, Out.seq, sIf, sAsg, sOwn, sPar, sPar3, sRet, sFz, sPub, sSetR, sSetIx, sMut, sDrop, sFor, eLc, tYs, wipeR, D.elems, D.truth, D.add, D.sub, D.mul, D.fdiv, D.mod, D.pow, D.lt, D.le, D.gt, D.ge, D.isN, D.notN, D.ix, D.cat, liftI, Option.bind_some, Option.bind_none, Option.map_some, Option.map_none, List.map_cons, List.map_nil, List.length_cons, List.length_nil, List.cons_append, List.nil_append, List.replicate, List.set_cons_zero, List.set_cons_succ, List.getElem?_cons_zero, List.getElem?_cons_succ, Nat.reduceAdd, Nat.reduceSub, Nat.reduceLeDiff, if_true, if_false, ↓reduceIte, List.isEmpty_nil, List.isEmpty_cons, Bool.not_true, Bool.not_false, Bool.false_eq_true, decide_true, decide_false, decide_eq_true_eq]; rfl, ?_⟩
        simp only [ρ1]
        simp only [fnD, fnE, fnOut, rho0, eVar, bVar, Sl.rd, eC, eBin, eTup, eLst, aNil, aCons, eCB, eCall, tTru, tBl, tAn, DL.tOr, tNo, eAn, DL.eOr, eNo, eIf, eIxR, eSl, pNo, pIs, iSeq, iZp, gNm, gTp, gsNil, gsCons, sNx, sBk, sCt, sSeq, Out.seq, sIf, sAsg, sOwn, sPar, sPar3, sRet, sFz, sPub, sSetR, sSetIx, sMut, sDrop, sFor, eLc, tYs, wipeR, D.elems, D.truth, D.add, D.sub, D.mul, D.fdiv, D.mod, D.pow, D.lt, D.le, D.gt, D.ge, D.isN, D.notN, D.ix, D.cat, liftI, Option.bind_some, Option.bind_none, Option.map_some, Option.map_none, List.map_cons, List.map_nil, List.length_cons, List.length_nil, List.cons_append, List.nil_append, List.replicate, List.set_cons_zero, List.set_cons_succ, List.getElem?_cons_zero, List.getElem?_cons_succ, Nat.reduceAdd, Nat.reduceSub, Nat.reduceLeDiff, if_true, if_false, ↓reduceIte, List.isEmpty_nil, List.isEmpty_cons, Bool.not_true, Bool.not_false, Bool.false_eq_true, decide_true, decide_false, decide_eq_true_eq, a1]
        unfold rowD
        simp only [fnD, fnE, fnOut, rho0, eVar, bVar, Sl.rd, eC, eBin, eTup, eLst, aNil, aCons, eCB, eCall, tTru, tBl, tAn, DL.tOr, tNo, eAn, DL.eOr, eNo, eIf, eIxR, eSl, pNo, pIs, iSeq, iZp, gNm, gTp, gsNil, gsCons, sNx, sBk, sCt, sSeq, Out.seq, sIf, sAsg, sOwn, sPar, sPar3, sRet, sFz, sPub, sSetR, sSetIx, sMut, sDrop, sFor, eLc, tYs, wipeR, D.elems, D.truth, D.add, D.sub, D.mul, D.fdiv, D.mod, D.pow, D.lt, D.le, D.gt, D.ge, D.isN, D.notN, D.ix, D.cat, liftI, Option.bind_some, Option.bind_none, Option.map_some, Option.map_none, List.map_cons, List.map_nil, List.length_cons, List.length_nil, List.cons_append, List.nil_append, List.replicate, List.set_cons_zero, List.set_cons_succ, List.getElem?_cons_zero, List.getElem?_cons_succ, Nat.reduceAdd, Nat.reduceSub, Nat.reduceLeDiff, if_true, if_false, ↓reduceIte, List.isEmpty_nil, List.isEmpty_cons, Bool.not_true, Bool.not_false, Bool.false_eq_true, decide_true, decide_false, decide_eq_true_eq, a, eq_int]
        rw [List.getElem?_eq_getElem hl]
        congr 3
        simp
      have b := boolsOf_map (e.map fun p => decide (r[p.1]? = some p.2))
      rw [List.map_map] at b
      have b' : boolsOf (e.map fun p => D.bl (decide (r[p.1]? = some p.2))) = some (e.map fun p => decide (r[p.1]? = some p.2)) := b
      refine ⟨ρ1, rfl, ?_, fun _ => ?_⟩
      · refine tTru_of (d := .bl (fitsB r e)) (eCB_of (ds := [.lst (e.map fun (p : Nat × Int) => D.bl (decide (r[p.1]? = some p.2)))]) (S1 := S) (aCons_of (eLc_of (xs := e.map pD) (S1 := S) rfl c2) rfl) ?_) rfl
        simp only [gAll, b', Option.map_some]
        unfold fitsB
        rw [List.all_map]
        rfl
      · simp only [ρ1]
        simp only [fnD, fnE, fnOut, rho0, eVar, bVar, Sl.rd, eC, eBin, eTup, eLst, aNil, aCons, eCB, eCall, tTru, tBl, tAn, DL.tOr, tNo, eAn, DL.eOr, eNo, eIf, eIxR, eSl, pNo, pIs, iSeq, iZp, gNm, gTp, gsNil, gsCons, sNx, sBk, sCt, sSeq, Out.seq, sIf, sAsg, sOwn, sPar, sPar3, sRet, sFz, sPub, sSetR, sSetIx, sMut, sDrop, sFor, eLc, tYs, wipeR, D.elems, D.truth, D.add, D.sub, D.mul, D.fdiv, D.mod, D.pow, D.lt, D.le, D.gt, D.ge, D.isN, D.notN, D.ix, D.cat, liftI, Option.bind_some, Option.bind_none, Option.map_some, Option.map_none, List.map_cons, List.map_nil, List.length_cons, List.length_nil, List.cons_append, List.nil_append, List.replicate, List.set_cons_zero, List.set_cons_succ, List.getElem?_cons_zero, List.getElem?_cons_succ, Nat.reduceAdd, Nat.reduceSub, Nat.reduceLeDiff, if_true, if_false, ↓reduceIte, List.isEmpty_nil, List.isEmpty_cons, Bool.not_true, Bool.not_false, Bool.false_eq_true, decide_true, decide_false, decide_eq_true_eq, a2]
  have e0 := intsOf_map (((List.range (rowsM [[]] s).length).filter fun i => fitsB ((rowsM [[]] s).getD i []) e).map fun i => ws.getD i 0)
  rw [List.map_map] at e0
  have e1 : (((List.range (rowsM [[]] s).length).filter fun i => fitsB ((rowsM [[]] s).getD i []) e).map fun i => ws.getD i 0).sum = Wt s ws e := by
    unfold Wt
    rw [zip_range [] 0 _ ws h.len.symm, List.filter_map, List.map_map]
    rfl
  unfold F__law_weight b__law_weight
  refine fnD_rt (S' := S) (sSeq_of (ρ' := ρ0) (S1 := S) ?_ (sRet_of (eCB_of (ds := [.lst (((List.range (rowsM [[]] s).length).filter fun i => fitsB ((rowsM [[]] s).getD i []) e).map fun i => D.int (ws.getD i 0))]) (S1 := S) (aCons_of (eLc_of (xs := (List.range (rowsM [[]] s).length).map fun (i : Nat) => D.int (i : Int)) (S1 := S) (iRng_of (ds := [.int ((rowsM [[]] s).length : Int)]) (S1 := S) ?_ (rangeOf_nat (by omega))) c) rfl) ?_))) rfl
  · unfold toldD
    simp only [fnD, fnE, fnOut, rho0, eVar, bVar, Sl.rd, eC, eBin, eTup, eLst, aNil, aCons, eCB, eCall, tTru, tBl, tAn, DL.tOr, tNo, eAn, DL.eOr, eNo, eIf, eIxR, eSl, pNo, pIs, iSeq, iZp, gNm, gTp, gsNil, gsCons, sNx, sBk, sCt, sSeq, Out.seq, sIf, sAsg, sOwn, sPar, sPar3, sRet, sFz, sPub, sSetR, sSetIx, sMut, sDrop, sFor, eLc, tYs, wipeR, D.elems, D.truth, D.add, D.sub, D.mul, D.fdiv, D.mod, D.pow, D.lt, D.le, D.gt, D.ge, D.isN, D.notN, D.ix, D.cat, liftI, Option.bind_some, Option.bind_none, Option.map_some, Option.map_none, List.map_cons, List.map_nil, List.length_cons, List.length_nil, List.cons_append, List.nil_append, List.replicate, List.set_cons_zero, List.set_cons_succ, List.getElem?_cons_zero, List.getElem?_cons_succ, Nat.reduceAdd, Nat.reduceSub, Nat.reduceLeDiff, if_true, if_false, ↓reduceIte, List.isEmpty_nil, List.isEmpty_cons, Bool.not_true, Bool.not_false, Bool.false_eq_true, decide_true, decide_false, decide_eq_true_eq]
    rfl
  · simp only [ρ0]
    simp only [fnD, fnE, fnOut, rho0, eVar, bVar, Sl.rd, eC, eBin, eTup, eLst, aNil, aCons, eCB, eCall, tTru, tBl, tAn, DL.tOr, tNo, eAn, DL.eOr, eNo, eIf, eIxR, eSl, pNo, pIs, iSeq, iZp, gNm, gTp, gsNil, gsCons, sNx, sBk, sCt, sSeq, Out.seq, sIf, sAsg, sOwn, sPar, sPar3, sRet, sFz, sPub, sSetR, sSetIx, sMut, sDrop, sFor, eLc, tYs, wipeR, D.elems, D.truth, D.add, D.sub, D.mul, D.fdiv, D.mod, D.pow, D.lt, D.le, D.gt, D.ge, D.isN, D.notN, D.ix, D.cat, liftI, Option.bind_some, Option.bind_none, Option.map_some, Option.map_none, List.map_cons, List.map_nil, List.length_cons, List.length_nil, List.cons_append, List.nil_append, List.replicate, List.set_cons_zero, List.set_cons_succ, List.getElem?_cons_zero, List.getElem?_cons_succ, Nat.reduceAdd, Nat.reduceSub, Nat.reduceLeDiff, if_true, if_false, ↓reduceIte, List.isEmpty_nil, List.isEmpty_cons, Bool.not_true, Bool.not_false, Bool.false_eq_true, decide_true, decide_false, decide_eq_true_eq, gLen, List.length_map]
  · have e0' : intsOf (((List.range (rowsM [[]] s).length).filter fun i => fitsB ((rowsM [[]] s).getD i []) e).map fun i => D.int (ws.getD i 0)) = some (((List.range (rowsM [[]] s).length).filter fun i => fitsB ((rowsM [[]] s).getD i []) e).map fun i => ws.getD i 0) := e0
    simp only [gSum, e0', Option.map_some, e1]
end
end K64

set_option Elab.async false
set_option linter.all false
set_option maxRecDepth 100000
namespace DL
open L2 (atI atI_nat)
theorem rem_half {a b k : Nat} (hb : b < 2 ^ (k + 1)) (hr : 0 < a % b) (h0 : 0 < b) : b % (a % b) < 2 ^ k := by
  have hlt : a % b < b := Nat.mod_lt _ h0
  generalize a % b = r at *
  rw [Nat.pow_succ] at hb
  by_cases h : r ≤ 2 ^ k
  · exact Nat.lt_of_lt_of_le (Nat.mod_lt _ hr) h
  · rw [Nat.mod_eq_sub_mod (Nat.le_of_lt hlt), Nat.mod_eq_of_lt (by omega)]; omega
theorem fmod_nat (a b : Nat) : Int.fmod (a : Int) (b : Int) = ((a % b : Nat) : Int) := by
  rw [Int.fmod_eq_emod_of_nonneg _ (by omega)]; rfl
theorem mod_nat {a b : Nat} (h : b ≠ 0) : D.mod (.int (a : Int)) (.int (b : Int)) = some (.int ((a % b : Nat) : Int)) := by
  have h' : (b : Int) ≠ 0 := by omega
  simp only [D.mod, liftI, fmod_nat, if_pos h']
/-! dict -/
theorem put_mem {kvs : List (L2.Key × D)} {k : L2.Key} {v : D} {x : L2.Key × D} (h : x ∈ putD kvs k v) : x.1 = k ∨ ∃ y ∈ kvs, y.1 = x.1 := by
  unfold putD at h
  split at h
  · obtain ⟨y, hy, rfl⟩ := List.mem_map.mp h
    by_cases e : y.1 = k
    · simp only [e, if_pos]; exact .inl trivial
    · simp only [if_neg e]; exact .inr ⟨y, hy, rfl⟩
  · rcases List.mem_append.mp h with h | h
    · exact .inr ⟨x, h, rfl⟩
    · simp at h; subst h; exact .inl rfl
theorem merge_mem : ∀ {more acc : List (L2.Key × D)} {x : L2.Key × D}, x ∈ mergeD acc more → (∃ y ∈ acc, y.1 = x.1) ∨ ∃ y ∈ more, y.1 = x.1
  | [], acc, x, h => .inl ⟨x, h, rfl⟩
  | m :: more, acc, x, h => by
    have h' : x ∈ mergeD (putD acc m.1 m.2) more := h
    rcases merge_mem h' with ⟨y, hy, e⟩ | ⟨y, hy, e⟩
    · rcases put_mem hy with e1 | ⟨z, hz, e1⟩
      · exact .inr ⟨m, List.mem_cons_self, e1.symm.trans e⟩
      · exact .inl ⟨z, hz, e1.trans e⟩
    · exact .inr ⟨y, List.mem_cons_of_mem _ hy, e⟩
theorem dFind_none {kvs : List (L2.Key × D)} {k : L2.Key} (h : ∀ x ∈ kvs, x.1 ≠ k) : dFind (kvs.map (·.1)) (kvs.map (·.2)) k = none := by
  unfold dFind
  rw [List.find?_eq_none.mpr]
  · rfl
  · intro x hx
    have := (List.of_mem_zip hx).1
    obtain ⟨y, hy, e⟩ := List.mem_map.mp this
    simpa [← e] using h y hy
def kvE (e : Ev) : List (L2.Key × D) := e.map fun p => (Sum.inl ((p.1 : Nat) : Int), D.int p.2)
theorem pairsOf_ev : ∀ e : Ev, pairsOf (e.map pD) = some (kvE e)
  | [] => rfl
  | p :: e => by
    rw [List.map_cons]
    unfold pD
    simp only [pairsOf, D.key, Option.bind_some]
    have := pairsOf_ev e
    unfold pD at this
    rw [this]
    rfl
theorem find_ev {e : Ev} {v : Nat} (h : ∀ p ∈ e, p.1 ≠ v) : dFind ((mergeD [] (kvE e)).map (·.1)) ((mergeD [] (kvE e)).map (·.2)) (Sum.inl (v : Int)) = none := dFind_none fun x hx => by
  rcases merge_mem hx with ⟨y, hy, _⟩ | ⟨y, hy, ey⟩
  · simp at hy
  · unfold kvE at hy
    obtain ⟨p, hp, rfl⟩ := List.mem_map.mp hy
    rw [← ey]
    intro z
    have z' : ((p.1 : Nat) : Int) = (v : Int) := Sum.inl.inj z
    exact h p hp (by omega)
/-! sorted -/
def sortE (l : Ev) : Ev := l.mergeSort fun p q => D.le' (pD p) (pD q)
theorem sortE_mem {l : Ev} {p : Nat × Int} : p ∈ sortE l ↔ p ∈ l := (List.mergeSort_perm _ _).mem_iff
theorem sortE_len (l : Ev) : (sortE l).length = l.length := List.length_mergeSort _
theorem canSort_ev (l : Ev) : canSort (l.map pD) = true := by
  unfold canSort
  simp only [List.all_map, Bool.and_eq_true, Bool.or_eq_true, List.all_eq_true, Function.comp]
  refine ⟨⟨fun x _ => rfl, fun x _ y _ => ?_⟩, .inl fun x _ => rfl⟩
  rfl
theorem sorted_ev (l : Ev) : gSorted [.tup (l.map pD)] = some (.lst ((sortE l).map pD)) := by
  unfold gSorted sortE
  simp only [canSort_ev, if_true]
  rw [List.map_mergeSort (s := D.le') (fun a _ b _ => rfl)]
theorem fits_congr {r : List Int} {e e' : Ev} (h : ∀ p, p ∈ e ↔ p ∈ e') : fitsB r e = fitsB r e' := by
  unfold fitsB
  rw [Bool.eq_iff_iff, List.all_eq_true, List.all_eq_true]
  exact ⟨fun k p hp => k p ((h p).mpr hp), fun k p hp => k p ((h p).mp hp)⟩
theorem Wt_congr {s : List Nat} {ws : List Int} {e e' : Ev} (h : ∀ p, p ∈ e ↔ p ∈ e') : Wt s ws e = Wt s ws e' := by
  unfold Wt
  congr 2
  exact List.filter_congr fun p _ => fits_congr h
end DL
namespace K64
open DL
open L2 (atI atI_nat)
theorem div_loop (S : Sto) : ∀ (k : Nat) (xs : List D) (a b : Nat) (z : Sl), b < 2 ^ k → 2 * k + 1 ≤ xs.length →
    forF (gNm 2) (sSeq (sIf (tBl (eBin D.eq (bVar 1) (eC (.int 0)))) (sRet (eCB gAbs (aCons (bVar 0) aNil))) sNx) (sPar 0 1 (aCons (eVar 1) (aCons (eBin D.mod (bVar 0) (bVar 1)) aNil)))) xs [.sh (.int (a : Int)), .sh (.int (b : Int)), z] S = some (.rt (.int ((Nat.gcd a b : Nat) : Int)) S) := by
  have fin : ∀ (x : D) (xs : List D) (a : Nat) (z : Sl), forF (gNm 2) (sSeq (sIf (tBl (eBin D.eq (bVar 1) (eC (.int 0)))) (sRet (eCB gAbs (aCons (bVar 0) aNil))) sNx) (sPar 0 1 (aCons (eVar 1) (aCons (eBin D.mod (bVar 0) (bVar 1)) aNil)))) (x :: xs) [.sh (.int (a : Int)), .sh (.int ((0 : Nat) : Int)), z] S = some (.rt (.int (a : Int)) S) := fun x xs a z => by
    refine forF_ret (ρ1 := [.sh (.int (a : Int)), .sh (.int ((0 : Nat) : Int)), .sh x]) rfl (sSeq_rt (sIf_t (S1 := S) (tBl_of ?_) (sRet_of ?_)))
    · simp only [fnD, fnE, fnOut, rho0, eVar, bVar, Sl.rd, eC, eBin, eTup, eLst, aNil, aCons, eCB, eCall, tTru, tBl, tAn, DL.tOr, tNo, eAn, DL.eOr, eNo, eIf, eIxR, eSl, pNo, pIs, iSeq, iZp, gNm, gTp, gsNil, gsCons, sNx, sBk, sCt, sSeq, Out.seq, sIf, sAsg, sOwn, sPar, sPar3, sRet, sFz, sPub, sSetR, sSetIx, sMut, sDrop, sFor, eLc, tYs, wipeR, D.elems, D.truth, D.add, D.sub, D.mul, D.fdiv, D.mod, D.pow, D.lt, D.le, D.gt, D.ge, D.isN, D.notN, D.ix, D.cat, liftI, Option.bind_some, Option.bind_none, Option.map_some, Option.map_none, List.map_cons, List.map_nil, List.length_cons, List.length_nil, List.cons_append, List.nil_append, List.replicate, List.set_cons_zero, List.set_cons_succ, List.getElem?_cons_zero, List.getElem?_cons_succ, Nat.reduceAdd, Nat.reduceSub, Nat.reduceLeDiff, if_true, if_false, ↓reduceIte, List.isEmpty_nil, List.isEmpty_cons, Bool.not_true, Bool.not_false, Bool.false_eq_true, decide_true, decide_false, decide_eq_true_eq, eq_int]; rfl
    · simp only [fnD, fnE, fnOut, rho0, eVar, bVar, Sl.rd, eC, eBin, eTup, eLst, aNil, aCons, eCB, eCall, tTru, tBl, tAn, DL.tOr, tNo, eAn, DL.eOr, eNo, eIf, eIxR, eSl, pNo, pIs, iSeq, iZp, gNm, gTp, gsNil, gsCons, sNx, sBk, sCt, sSeq, Out.seq, sIf, sAsg, sOwn, sPar, sPar3, sRet, sFz, sPub, sSetR, sSetIx, sMut, sDrop, sFor, eLc, tYs, wipeR, D.elems, D.truth, D.add, D.sub, D.mul, D.fdiv, D.mod, D.pow, D.lt, D.le, D.gt, D.ge, D.isN, D.notN, D.ix, D.cat, liftI, Option.bind_some, Option.bind_none, Option.map_some, Option.map_none, List.map_cons, List.map_nil, List.length_cons, List.length_nil, List.cons_append, List.nil_append, List.replicate, List.set_cons_zero, List.set_cons_succ, List.getElem?_cons_zero, List.getElem?_cons_succ, Nat.reduceAdd, Nat.reduceSub, Nat.reduceLeDiff, if_true, if_false, ↓reduceIte, List.isEmpty_nil, List.isEmpty_cons, Bool.not_true, Bool.not_false, Bool.false_eq_true, decide_true, decide_false, decide_eq_true_eq, gAbs]
      rw [if_neg (by omega)]
  have step : ∀ (x : D) (xs : List D) (a b : Nat) (z : Sl), b ≠ 0 → forF (gNm 2) (sSeq (sIf (tBl (eBin D.eq (bVar 1) (eC (.int 0)))) (sRet (eCB gAbs (aCons (bVar 0) aNil))) sNx) (sPar 0 1 (aCons (eVar 1) (aCons (eBin D.mod (bVar 0) (bVar 1)) aNil)))) (x :: xs) [.sh (.int (a : Int)), .sh (.int (b : Int)), z] S =
      forF (gNm 2) (sSeq (sIf (tBl (eBin D.eq (bVar 1) (eC (.int 0)))) (sRet (eCB gAbs (aCons (bVar 0) aNil))) sNx) (sPar 0 1 (aCons (eVar 1) (aCons (eBin D.mod (bVar 0) (bVar 1)) aNil)))) xs [.sh (.int (b : Int)), .sh (.int ((a % b : Nat) : Int)), .sh x] S := fun x xs a b z hb => by
    have e0 : decide ((b : Int) = 0) = false := decide_eq_false (by omega)
    refine forF_step (ρ1 := [.sh (.int (a : Int)), .sh (.int (b : Int)), .sh x]) (S2 := S) rfl (sSeq_of (S1 := S) (ρ' := [.sh (.int (a : Int)), .sh (.int (b : Int)), .sh x]) (sIf_f (S1 := S) (tBl_of ?_) rfl) ?_)
    · simp only [fnD, fnE, fnOut, rho0, eVar, bVar, Sl.rd, eC, eBin, eTup, eLst, aNil, aCons, eCB, eCall, tTru, tBl, tAn, DL.tOr, tNo, eAn, DL.eOr, eNo, eIf, eIxR, eSl, pNo, pIs, iSeq, iZp, gNm, gTp, gsNil, gsCons, sNx, sBk, sCt, sSeq, Out.seq, sIf, sAsg, sOwn, sPar, sPar3, sRet, sFz, sPub, sSetR, sSetIx, sMut, sDrop, sFor, eLc, tYs, wipeR, D.elems, D.truth, D.add, D.sub, D.mul, D.fdiv, D.mod, D.pow, D.lt, D.le, D.gt, D.ge, D.isN, D.notN, D.ix, D.cat, liftI, Option.bind_some, Option.bind_none, Option.map_some, Option.map_none, List.map_cons, List.map_nil, List.length_cons, List.length_nil, List.cons_append, List.nil_append, List.replicate, List.set_cons_zero, List.set_cons_succ, List.getElem?_cons_zero, List.getElem?_cons_succ, Nat.reduceAdd, Nat.reduceSub, Nat.reduceLeDiff, if_true, if_false, ↓reduceIte, List.isEmpty_nil, List.isEmpty_cons, Bool.not_true, Bool.not_false, Bool.false_eq_true, decide_true, decide_false, decide_eq_true_eq, eq_int, e0]
    · have m : eBin D.mod (bVar 0) (bVar 1) [.sh (.int (a : Int)), .sh (.int (b : Int)), .sh x] S = some (.int ((a % b : Nat) : Int), S) := eBin_of (d1 := .int (a : Int)) (d2 := .int (b : Int)) (S1 := S) (S2 := S) rfl rfl (mod_nat hb)
      simp only [sPar, aCons, aNil, eVar, m, List.getElem?_cons_zero, List.getElem?_cons_succ, Option.bind_some, List.set_cons_zero, List.set_cons_succ]
  intro k
  induction k with
  | zero =>
    intro xs a b z hb hx
    obtain ⟨x, xs, rfl⟩ : ∃ x r, xs = x :: r := by cases xs with | nil => simp at hx | cons x r => exact ⟨x, r, rfl⟩
    have : b = 0 := by simpa using hb
    subst this
    rw [fin, Nat.gcd_zero_right]
  | succ k ih =>
    intro xs a b z hb hx
    obtain ⟨x, y, xs, rfl⟩ : ∃ x y r, xs = x :: y :: r := by
      match xs, hx with
      | x :: y :: r, _ => exact ⟨x, y, r, rfl⟩
      | [x], h => simp at h
      | [], h => simp at h
    by_cases h0 : b = 0
    · subst h0; rw [fin, Nat.gcd_zero_right]
    · rw [step x _ a b z h0]
      by_cases h1 : a % b = 0
      · rw [h1, fin]
        have : Nat.gcd a b = b := by rw [Nat.gcd_comm, Nat.gcd_rec, h1, Nat.gcd_zero_left]
        rw [this]
      · rw [step y _ b (a % b) _ h1, ih xs (a % b) (b % (a % b)) _ (rem_half hb (Nat.pos_of_ne_zero h1) (Nat.pos_of_ne_zero h0)) (by simp at hx; omega)]
        have e1 : Nat.gcd (a % b) (b % (a % b)) = Nat.gcd a b := by
          rw [Nat.gcd_comm a b, Nat.gcd_rec b a, Nat.gcd_rec (a % b) b, Nat.gcd_comm]
        rw [e1]
theorem divisor_s (a b : Int) (S : Sto) (ha : 0 ≤ a) (hb : 0 ≤ b) (h : b.natAbs < 2 ^ 8999) : F__law_divisor [.int a, .int b] S = some (.int (Nat.gcd a.natAbs b.natAbs : Int), S) := by
  obtain ⟨a, rfl⟩ := Int.eq_ofNat_of_zero_le ha
  obtain ⟨b, rfl⟩ := Int.eq_ofNat_of_zero_le hb
  have l := div_loop S 8999 ((List.range 20000).map fun (i : Nat) => D.int (i : Int)) a b .un (by simpa using h) (by simp)
  unfold F__law_divisor b__law_divisor
  exact fnD_rt (S' := S) (sSeq_rt (sFor_of (iRng_of (ds := [.int ((20000 : Nat) : Int)]) (S1 := S) rfl (rangeOf_nat (by decide))) l)) rfl
theorem law_plus_s {j k : Nat} {p q : Int × Int} (S : Sto) (hp : Fb j p) (hq : Fb k q) (h1 : 0 ≤ p.1) (h2 : 0 ≤ q.1) (l : j + k ≤ 8990) : F__law_plus [frD p, frD q] S = some (frD (plF p q), S) := by
  have m := fun {x : Int} {i : Nat} (h : x.natAbs < 2 ^ i) (l : i ≤ 8999) => bd_mono h l
  have o1 := okMul_t (m hp.n (by omega)) (m hq.d (by omega))
  have o2 := okMul_t (m hq.n (by omega)) (m hp.d (by omega))
  have o3 := okMul_t (m hp.d (by omega)) (m hq.d (by omega))
  have hd : 0 < p.2 * q.2 := Int.mul_pos hp.pos hq.pos
  have hb : (p.2 * q.2).natAbs < 2 ^ 8999 := m (mul_bd hp.d hq.d) (by omega)
  have hn : 0 ≤ p.1 * q.2 + q.1 * p.2 := Int.add_nonneg (Int.mul_nonneg h1 (Int.le_of_lt hq.pos)) (Int.mul_nonneg h2 (Int.le_of_lt hp.pos))
  have fs := divisor_s (p.1 * q.2 + q.1 * p.2) (p.2 * q.2) S hn (Int.le_of_lt hd) hb
  have o : okDiv (Nat.gcd (p.1 * q.2 + q.1 * p.2).natAbs (p.2 * q.2).natAbs : Int) = true := okDiv_t (gcd_pos hd) (by have := gcd_le (a := p.1 * q.2 + q.1 * p.2) hd; omega)
  unfold F__law_plus b__law_plus frD plF nf
  simp only [fnD, fnE, fnOut, rho0, eVar, bVar, Sl.rd, eC, eBin, eTup, eLst, aNil, aCons, eCB, eCall, tTru, tBl, tAn, DL.tOr, tNo, eAn, DL.eOr, eNo, eIf, eIxR, eSl, pNo, pIs, iSeq, iZp, gNm, gTp, gsNil, gsCons, sNx, sBk, sCt, sSeq, Out.seq, sIf, sAsg, sOwn, sPar, sPar3, sRet, sFz, sPub, sSetR, sSetIx, sMut, sDrop, sFor, eLc, tYs, wipeR, D.elems, D.truth, D.add, D.sub, D.mul, D.fdiv, D.mod, D.pow, D.lt, D.le, D.gt, D.ge, D.isN, D.notN, D.ix, D.cat, liftI, Option.bind_some, Option.bind_none, Option.map_some, Option.map_none, List.map_cons, List.map_nil, List.length_cons, List.length_nil, List.cons_append, List.nil_append, List.replicate, List.set_cons_zero, List.set_cons_succ, List.getElem?_cons_zero, List.getElem?_cons_succ, Nat.reduceAdd, Nat.reduceSub, Nat.reduceLeDiff, if_true, if_false, ↓reduceIte, List.isEmpty_nil, List.isEmpty_cons, Bool.not_true, Bool.not_false, Bool.false_eq_true, decide_true, decide_false, decide_eq_true_eq, at0, at1, o1, o2, o3, fs, o, sz2]
theorem together_s (a b : Ev) (S : Sto) (h : a.length + b.length ≤ 1000) : F_together [evD a, evD b] S = some (evD (sortE (a ++ b)), S) := by
  have e := sorted_ev (a ++ b)
  rw [List.map_append] at e
  have l : (a.map pD).length + (b.map pD).length ≤ PySem.sizeLine := szle (by simp; omega)
  unfold F_together b_together evD
  simp only [List.length_map] at l
  simp only [fnD, fnE, fnOut, rho0, eVar, bVar, Sl.rd, eC, eBin, eTup, eLst, aNil, aCons, eCB, eCall, tTru, tBl, tAn, DL.tOr, tNo, eAn, DL.eOr, eNo, eIf, eIxR, eSl, pNo, pIs, iSeq, iZp, gNm, gTp, gsNil, gsCons, sNx, sBk, sCt, sSeq, Out.seq, sIf, sAsg, sOwn, sPar, sPar3, sRet, sFz, sPub, sSetR, sSetIx, sMut, sDrop, sFor, eLc, tYs, wipeR, D.elems, D.truth, D.add, D.sub, D.mul, D.fdiv, D.mod, D.pow, D.lt, D.le, D.gt, D.ge, D.isN, D.notN, D.ix, D.cat, liftI, Option.bind_some, Option.bind_none, Option.map_some, Option.map_none, List.map_cons, List.map_nil, List.length_cons, List.length_nil, List.cons_append, List.nil_append, List.replicate, List.set_cons_zero, List.set_cons_succ, List.getElem?_cons_zero, List.getElem?_cons_succ, Nat.reduceAdd, Nat.reduceSub, Nat.reduceLeDiff, if_true, if_false, ↓reduceIte, List.isEmpty_nil, List.isEmpty_cons, Bool.not_true, Bool.not_false, Bool.false_eq_true, decide_true, decide_false, decide_eq_true_eq, add_tup, e, gTuple, List.length_map, l]
section
variable {s : List Nat} {ws : List Int}
theorem chance_given_s (h : Wo s ws) (ev seen : Ev) (S : Sto) (he : Below s.length ev) (hs : Below s.length seen) (hl : seen.length + ev.length ≤ 1000) (dis : ∀ p ∈ ev, ∀ q ∈ seen, q.1 ≠ p.1) :
    F_chance_given [worldD s ws, evD ev, evD seen] S = some (if Wt s ws seen = 0 then .non else frD (nf (Wt s ws (seen ++ ev)) (Wt s ws seen)), S) := by
  have c1 := chance_s h seen S hs
  have c2 := chance_s h (seen ++ ev) S fun p hp => (List.mem_append.mp hp).elim (hs p) (he p)
  let ρ3 : Rho := [.sh (worldD s ws), .sh (evD ev), .sh (evD seen), .sh (frD (nf (Wt s ws seen) ws.sum)), .sh (.dct ((mergeD [] (kvE seen)).map (·.1)) ((mergeD [] (kvE seen)).map (·.2))), .un, .un]
  have cc := compF_all (g := gTp 2 (gsCons (gNm 5) (gsCons (gNm 6) gsNil))) (te := eBin D.ne (eGet2 (bVar 4) (eVar 5) (eVar 6)) (bVar 6)) (ρ := ρ3) (S := S) pD (fun _ => D.bl false) ev fun p hp => by
    have f := find_ev (e := seen) (v := p.1) fun q hq => dis p hp q hq
    refine ⟨_, by simp only [ρ3]; unfold pD; simp only [fnD, fnE, fnOut, rho0, eVar, bVar, Sl.rd, eC, eBin, eTup, eLst, aNil, aCons, eCB, eCall, tTru, tBl, tAn, DL.tOr, tNo, eAn, DL.eOr, eNo, eIf, eIxR, eSl, pNo, pIs, iSeq, iZp, gNm, gTp, gsNil, gsCons, sNx, sBk, sCt, sSeq, Out.seq, sIf, sAsg, sOwn, sPar, sPar3, sRet, sFz, sPub, sSetR, sSetIx, sMut, sDrop, sFor, eLc, tYs, wipeR, D.elems, D.truth, D.add, D.sub, D.mul, D.fdiv, D.mod, D.pow, D.lt, D.le, D.gt, D.ge, D.isN, D.notN, D.ix, D.cat, liftI, Option.bind_some, Option.bind_none, Option.map_some, Option.map_none, List.map_cons, List.map_nil, List.length_cons, List.length_nil, List.cons_append, List.nil_append, List.replicate, List.set_cons_zero, List.set_cons_succ, List.getElem?_cons_zero, List.getElem?_cons_succ, Nat.reduceAdd, Nat.reduceSub, Nat.reduceLeDiff, if_true, if_false, ↓reduceIte, List.isEmpty_nil, List.isEmpty_cons, Bool.not_true, Bool.not_false, Bool.false_eq_true, decide_true, decide_false, decide_eq_true_eq]; rfl, ?_⟩
    simp only [fnD, fnE, fnOut, rho0, eVar, bVar, Sl.rd, eC, eBin, eTup, eLst, aNil, aCons, eCB, eCall, tTru, tBl, tAn, DL.tOr, tNo, eAn, DL.eOr, eNo, eIf, eIxR, eSl, pNo, pIs, iSeq, iZp, gNm, gTp, gsNil, gsCons, sNx, sBk, sCt, sSeq, Out.seq, sIf, sAsg, sOwn, sPar, sPar3, sRet, sFz, sPub, sSetR, sSetIx, sMut, sDrop, sFor, eLc, tYs, wipeR, D.elems, D.truth, D.add, D.sub, D.mul, D.fdiv, D.mod, D.pow, D.lt, D.le, D.gt, D.ge, D.isN, D.notN, D.ix, D.cat, liftI, Option.bind_some, Option.bind_none, Option.map_some, Option.map_none, List.map_cons, List.map_nil, List.length_cons, List.length_nil, List.cons_append, List.nil_append, List.replicate, List.set_cons_zero, List.set_cons_succ, List.getElem?_cons_zero, List.getElem?_cons_succ, Nat.reduceAdd, Nat.reduceSub, Nat.reduceLeDiff, if_true, if_false, ↓reduceIte, List.isEmpty_nil, List.isEmpty_cons, Bool.not_true, Bool.not_false, Bool.false_eq_true, decide_true, decide_false, decide_eq_true_eq, eGet2, D.key, f, Option.getD_none, ne_int]
  have bb : boolsOf (ev.map fun _ => D.bl false) = some (ev.map fun _ => false) := by
    have := boolsOf_map (ev.map fun _ => false)
    rwa [List.map_map] at this
  have any : ((ev.map fun _ => false).any id) = false := by simp
  have nonneg := h.wt_nn seen
  have q1 : (nf (Wt s ws seen) ws.sum).1 * ws.sum = Wt s ws seen * (nf (Wt s ws seen) ws.sum).2 := nf_cross _ _
  have q2 := nf_pos (a := Wt s ws seen) h.pos
  have fb : Fb 13 (nf (Wt s ws seen) ws.sum) := nf_fb (h.wt_bd seen) h.pos h.sum_bd
  have fa : Fb 13 (nf (Wt s ws (seen ++ ev)) ws.sum) := nf_fb (h.wt_bd _) h.pos h.sum_bd
  have pre : ∀ {o : Option Out} {rest : Stm}, (sIf (tOr (tBl (eBin D.eq (eBin D.ix (bVar 3) (eC (.int 0))) (eC (.int 0)))) (tTru (eCB gAny (aCons (eLc (iSeq (bVar 1)) (gTp 2 (gsCons (gNm 5) (gsCons (gNm 6) gsNil))) tYs (eBin D.ne (eGet2 (bVar 4) (eVar 5) (eVar 6)) (bVar 6)) [5, 6]) aNil)))) (sRet (eC .non)) sNx) ρ3 S = o → True := fun _ => trivial
  have d1 : sAsg (eCall F_chance (aCons (eVar 0) (aCons (eVar 2) aNil))) (gNm 3) (rho0 7 [worldD s ws, evD ev, evD seen]) S = some (.nx [.sh (worldD s ws), .sh (evD ev), .sh (evD seen), .sh (frD (nf (Wt s ws seen) ws.sum)), .un, .un, .un] S) := sAsg_of (eCall_of (S1 := S) rfl c1) rfl
  have d2 : sAsg (eCB gDict (aCons (bVar 2) aNil)) (gNm 4) [.sh (worldD s ws), .sh (evD ev), .sh (evD seen), .sh (frD (nf (Wt s ws seen) ws.sum)), .un, .un, .un] S = some (.nx ρ3 S) := sAsg_of (eCB_of (ds := [evD seen]) (S1 := S) rfl (by unfold evD; simp only [gDict, pairsOf_ev, Option.map_some])) rfl
  have t1 : tBl (eBin D.eq (eBin D.ix (bVar 3) (eC (.int 0))) (eC (.int 0))) ρ3 S = some (decide ((nf (Wt s ws seen) ws.sum).1 = 0), S) := by
    simp only [ρ3]
    unfold frD
    simp only [fnD, fnE, fnOut, rho0, eVar, bVar, Sl.rd, eC, eBin, eTup, eLst, aNil, aCons, eCB, eCall, tTru, tBl, tAn, DL.tOr, tNo, eAn, DL.eOr, eNo, eIf, eIxR, eSl, pNo, pIs, iSeq, iZp, gNm, gTp, gsNil, gsCons, sNx, sBk, sCt, sSeq, Out.seq, sIf, sAsg, sOwn, sPar, sPar3, sRet, sFz, sPub, sSetR, sSetIx, sMut, sDrop, sFor, eLc, tYs, wipeR, D.elems, D.truth, D.add, D.sub, D.mul, D.fdiv, D.mod, D.pow, D.lt, D.le, D.gt, D.ge, D.isN, D.notN, D.ix, D.cat, liftI, Option.bind_some, Option.bind_none, Option.map_some, Option.map_none, List.map_cons, List.map_nil, List.length_cons, List.length_nil, List.cons_append, List.nil_append, List.replicate, List.set_cons_zero, List.set_cons_succ, List.getElem?_cons_zero, List.getElem?_cons_succ, Nat.reduceAdd, Nat.reduceSub, Nat.reduceLeDiff, if_true, if_false, ↓reduceIte, List.isEmpty_nil, List.isEmpty_cons, Bool.not_true, Bool.not_false, Bool.false_eq_true, decide_true, decide_false, decide_eq_true_eq, at0, eq_int]
  have t2 : tTru (eCB gAny (aCons (eLc (iSeq (bVar 1)) (gTp 2 (gsCons (gNm 5) (gsCons (gNm 6) gsNil))) tYs (eBin D.ne (eGet2 (bVar 4) (eVar 5) (eVar 6)) (bVar 6)) [5, 6]) aNil)) ρ3 S = some (false, S) :=
    tTru_of (d := .bl false) (eCB_of (ds := [.lst (ev.map fun _ => D.bl false)]) (S1 := S) (aCons_of (eLc_of (xs := ev.map pD) (S1 := S) rfl cc) rfl) (by simp only [gAny, bb, Option.map_some, any])) rfl
  unfold F_chance_given b_chance_given
  by_cases hz : Wt s ws seen = 0
  · rw [if_pos hz]
    have hd : decide ((nf (Wt s ws seen) ws.sum).1 = 0) = true := by
      rw [hz, nf_zero h.pos]; rfl
    rw [hd] at t1
    exact fnD_rt (S' := S) (sSeq_of d1 (sSeq_of d2 (sSeq_rt (sIf_t (S1 := S) (by simp only [DL.tOr, t1, Option.bind_some, if_true]) rfl)))) rfl
  · rw [if_neg hz]
    have hpos : 0 < Wt s ws seen := by omega
    have hq1 : 0 < (nf (Wt s ws seen) ws.sum).1 := by
      have : 0 < (nf (Wt s ws seen) ws.sum).1 * ws.sum := by rw [q1]; exact Int.mul_pos hpos q2
      exact Int.pos_of_mul_pos_left this h.pos
    have hd : decide ((nf (Wt s ws seen) ws.sum).1 = 0) = false := decide_eq_false (by omega)
    rw [hd] at t1
    have o := over_s S fa fb hq1 (by decide)
    have e : nf ((nf (Wt s ws (seen ++ ev)) ws.sum).1 * (nf (Wt s ws seen) ws.sum).2) ((nf (Wt s ws (seen ++ ev)) ws.sum).2 * (nf (Wt s ws seen) ws.sum).1) = nf (Wt s ws (seen ++ ev)) (Wt s ws seen) := by
      refine nf_eq (Int.mul_pos fa.pos hq1) hpos ?_
      have p1 : (nf (Wt s ws (seen ++ ev)) ws.sum).1 * ws.sum = Wt s ws (seen ++ ev) * (nf (Wt s ws (seen ++ ev)) ws.sum).2 := nf_cross _ _
      refine Int.eq_of_mul_eq_mul_right (a := ws.sum) (by have := h.pos; omega) ?_
      generalize (nf (Wt s ws (seen ++ ev)) ws.sum).1 = a1 at *
      generalize (nf (Wt s ws (seen ++ ev)) ws.sum).2 = a2 at *
      generalize (nf (Wt s ws seen) ws.sum).1 = b1 at *
      generalize (nf (Wt s ws seen) ws.sum).2 = b2 at *
      generalize Wt s ws (seen ++ ev) = A at *
      generalize Wt s ws seen = B at *
      generalize ws.sum = w at *
      calc a1 * b2 * B * w = (a1 * w) * (B * b2) := by simp only [Int.mul_assoc, Int.mul_comm, Int.mul_left_comm]
        _ = (A * a2) * (b1 * w) := by rw [p1, q1]
        _ = A * (a2 * b1) * w := by simp only [Int.mul_assoc, Int.mul_comm, Int.mul_left_comm]
    rw [e] at o
    have ll : seen.length + ev.length ≤ PySem.sizeLine := szle (by omega)
    refine fnD_rt (S' := S) (sSeq_of d1 (sSeq_of d2 (sSeq_of (ρ' := ρ3) (S1 := S) (sIf_f (S1 := S) (by simp only [DL.tOr, t1, t2, Option.bind_some, Bool.false_eq_true, if_false]) rfl) (sRet_of (eCall_of (ds := [frD (nf (Wt s ws (seen ++ ev)) ws.sum), frD (nf (Wt s ws seen) ws.sum)]) (S1 := S) (aCons_of (S1 := S) (eCall_of (ds := [worldD s ws, evD (seen ++ ev)]) (S1 := S) ?_ c2) rfl) o))))) rfl
    simp only [ρ3]
    unfold evD
    simp only [fnD, fnE, fnOut, rho0, eVar, bVar, Sl.rd, eC, eBin, eTup, eLst, aNil, aCons, eCB, eCall, tTru, tBl, tAn, DL.tOr, tNo, eAn, DL.eOr, eNo, eIf, eIxR, eSl, pNo, pIs, iSeq, iZp, gNm, gTp, gsNil, gsCons, sNx, sBk, sCt, sSeq, Out.seq, sIf, sAsg, sOwn, sPar, sPar3, sRet, sFz, sPub, sSetR, sSetIx, sMut, sDrop, sFor, eLc, tYs, wipeR, D.elems, D.truth, D.add, D.sub, D.mul, D.fdiv, D.mod, D.pow, D.lt, D.le, D.gt, D.ge, D.isN, D.notN, D.ix, D.cat, liftI, Option.bind_some, Option.bind_none, Option.map_some, Option.map_none, List.map_cons, List.map_nil, List.length_cons, List.length_nil, List.cons_append, List.nil_append, List.replicate, List.set_cons_zero, List.set_cons_succ, List.getElem?_cons_zero, List.getElem?_cons_succ, Nat.reduceAdd, Nat.reduceSub, Nat.reduceLeDiff, if_true, if_false, ↓reduceIte, List.isEmpty_nil, List.isEmpty_cons, Bool.not_true, Bool.not_false, Bool.false_eq_true, decide_true, decide_false, decide_eq_true_eq, gTuple, add_tup, List.length_map, ll, List.map_append]
end
end K64

set_option Elab.async false
set_option linter.all false
set_option maxRecDepth 100000
namespace DL
open L2 (atI atI_nat)
def optD : Option (Int × Int) → D
  | none => .non
  | some p => frD p
/-- the mixing of the values of ys by the events -/
def mixM (s : List Nat) (ws : List Int) (xs ys : Ev) : List Ev → Int × Int → Option (Int × Int)
  | [], f => some f
  | z :: zs, f => if 0 < Wt s ws z then (if Wt s ws (xs ++ z) = 0 then none else mixM s ws xs ys zs (plF f (Wt s ws z * Wt s ws (ys ++ xs ++ z), ws.sum * Wt s ws (xs ++ z)))) else mixM s ws xs ys zs f
/-- an event of few variables -/
def Ok (s : List Nat) (e : Ev) : Prop := Below s.length e ∧ e.length ≤ 100
theorem Ok.app {s : List Nat} {a b : Ev} (ha : Ok s a) (hb : Ok s b) : Below s.length (a ++ b) := fun p hp => (List.mem_append.mp hp).elim (ha.1 p) (hb.1 p)
theorem evD_add {a b : Ev} (h : a.length + b.length ≤ 1000) : D.add (evD a) (evD b) = some (evD (a ++ b)) := by
  unfold evD
  rw [add_tup (szle (by simp; omega)), List.map_append]
theorem wsum_t {s : List Nat} {ws : List Int} : gSum [.lst (ws.map D.int)] = some (.int ws.sum) := by
  simp only [gSum, intsOf_map, Option.map_some]
theorem plF_nn {p q : Int × Int} (hp : 0 < p.2) (hq : 0 < q.2) (h1 : 0 ≤ p.1) (h2 : 0 ≤ q.1) : 0 ≤ (plF p q).1 := by
  have hd := Int.mul_pos hp hq
  have hn : 0 ≤ p.1 * q.2 + q.1 * p.2 := Int.add_nonneg (Int.mul_nonneg h1 (Int.le_of_lt hq)) (Int.mul_nonneg h2 (Int.le_of_lt hp))
  exact Int.ediv_nonneg hn (Int.le_of_lt (gcd_pos hd))
theorem nf_nn {a b : Int} (hb : 0 < b) (h : 0 ≤ a) : 0 ≤ (nf a b).1 := Int.ediv_nonneg h (Int.le_of_lt (gcd_pos hb))
theorem nf_pos1 {a b : Int} (hb : 0 < b) (h : 0 ≤ a) : 0 < (nf a b).1 ↔ 0 < a := by
  have c := nf_cross a b
  have p := nf_pos (a := a) hb
  constructor
  · intro q
    have : 0 < a * (nf a b).2 := by rw [← c]; exact Int.mul_pos q hb
    exact Int.pos_of_mul_pos_left this p
  · intro q
    have : 0 < (nf a b).1 * b := by rw [c]; exact Int.mul_pos q p
    exact Int.pos_of_mul_pos_left this hb
end DL
namespace K64
open DL
open L2 (atI atI_nat)
section
variable {s : List Nat} {ws : List Int}
def mixB : Stm := (sSeq (sAsg (eCall F__law_weight (aCons (eVar 0) (aCons (eVar 6) aNil))) (gNm 7))
    (sIf (tBl (eBin D.gt (bVar 7) (eC (.int 0)))) (sSeq (sAsg (eCall F__law_weight (aCons (eVar 0) (aCons (eBin D.add (bVar 3) (bVar 6)) aNil))) (gNm 8))
    (sSeq (sIf (tBl (eBin D.eq (bVar 8) (eC (.int 0)))) (sRet (eC .non)) sNx)
    (sAsg (eCall F__law_plus (aCons (eVar 5) (aCons (eTup (aCons (eBin D.mul (bVar 7) (eCall F__law_weight (aCons (eVar 0) (aCons (eBin D.add (eBin D.add (bVar 1) (bVar 3)) (bVar 6)) aNil)))) (aCons (eBin D.mul (bVar 4) (bVar 8)) aNil))) aNil))) (gNm 5)))) sNx))
theorem mix_loop (h : Wo s ws) (xs ys : Ev) (hx : Ok s xs) (hy : Ok s ys) (S : Sto) (l : D) : ∀ (es : List Ev) (f : Int × Int) (k : Nat) (z w1 w2 : Sl), (∀ e ∈ es, Ok s e) → Fb k f → 0 ≤ f.1 → k + 27 * es.length ≤ 8000 →
    (mixM s ws xs ys es f = none → forF (gNm 6) mixB (es.map evD) [.sh (toldD s ws), .sh (evD ys), .sh l, .sh (evD xs), .sh (.int ws.sum), .sh (frD f), z, w1, w2] S = some (.rt .non S)) ∧
    (∀ p, mixM s ws xs ys es f = some p → (∃ u w1' w2', forF (gNm 6) mixB (es.map evD) [.sh (toldD s ws), .sh (evD ys), .sh l, .sh (evD xs), .sh (.int ws.sum), .sh (frD f), z, w1, w2] S = some (.nx [.sh (toldD s ws), .sh (evD ys), .sh l, .sh (evD xs), .sh (.int ws.sum), .sh (frD p), u, w1', w2'] S)) ∧ Fb (k + 27 * es.length) p ∧ 0 ≤ p.1) := by
  intro es
  induction es with
  | nil =>
    intro f k z w1 w2 _ hf h0 _
    refine ⟨fun e => by simp [mixM] at e, fun p e => ?_⟩
    simp only [mixM, Option.some.injEq] at e
    subst e
    exact ⟨⟨z, w1, w2, rfl⟩, hf, h0⟩
  | cons e es ih =>
    intro f k z w1 w2 he hf h0 hk
    have oe := he e List.mem_cons_self
    have he' : ∀ e ∈ es, Ok s e := fun e' m => he e' (List.mem_cons_of_mem _ m)
    rw [List.length_cons] at hk
    have W1 := weight_s h e S oe.1
    have W2 := weight_s h (xs ++ e) S (hx.app oe)
    have W3 := weight_s h (ys ++ xs ++ e) S fun p hp => (List.mem_append.mp hp).elim (fun q => hy.app hx p q) (oe.1 p)
    have lx := hx.2; have ly := hy.2; have le := oe.2
    have A1 : D.add (evD xs) (evD e) = some (evD (xs ++ e)) := evD_add (by omega)
    have A2 : D.add (evD ys) (evD xs) = some (evD (ys ++ xs)) := evD_add (by omega)
    have A3 : D.add (evD (ys ++ xs)) (evD e) = some (evD (ys ++ xs ++ e)) := evD_add (by rw [List.length_append]; omega)
    have n1 := h.wt_nn e
    have n2 := h.wt_nn (xs ++ e)
    have n3 := h.wt_nn (ys ++ xs ++ e)
    have b1 := h.wt_bd e
    have b2 := h.wt_bd (xs ++ e)
    have b3 := h.wt_bd (ys ++ xs ++ e)
    have b0 := h.sum_bd
    have p0 := h.pos
    rw [List.map_cons]
    have s1 : ∀ w1, sAsg (eCall F__law_weight (aCons (eVar 0) (aCons (eVar 6) aNil))) (gNm 7) [.sh (toldD s ws), .sh (evD ys), .sh l, .sh (evD xs), .sh (.int ws.sum), .sh (frD f), .sh (evD e), w1, w2] S = some (.nx [.sh (toldD s ws), .sh (evD ys), .sh l, .sh (evD xs), .sh (.int ws.sum), .sh (frD f), .sh (evD e), .sh (.int (Wt s ws e)), w2] S) := fun w1 => sAsg_of (eCall_of (S1 := S) rfl W1) rfl
    by_cases c1 : 0 < Wt s ws e
    · have t1 : tBl (eBin D.gt (bVar 7) (eC (.int 0))) [.sh (toldD s ws), .sh (evD ys), .sh l, .sh (evD xs), .sh (.int ws.sum), .sh (frD f), .sh (evD e), .sh (.int (Wt s ws e)), w2] S = some (true, S) := by
        have d : decide (0 < Wt s ws e) = true := decide_eq_true c1
        simp only [fnD, fnE, fnOut, rho0, eVar, bVar, Sl.rd, eC, eBin, eTup, eLst, aNil, aCons, eCB, eCall, tTru, tBl, tAn, DL.tOr, tNo, eAn, DL.eOr, eNo, eIf, eIxR, eSl, pNo, pIs, iSeq, iZp, gNm, gTp, gsNil, gsCons, sNx, sBk, sCt, sSeq, Out.seq, sIf, sAsg, sOwn, sPar, sPar3, sRet, sFz, sPub, sSetR, sSetIx, sMut, sDrop, sFor, eLc, tYs, wipeR, D.elems, D.truth, D.add, D.sub, D.mul, D.fdiv, D.mod, D.pow, D.lt, D.le, D.gt, D.ge, D.isN, D.notN, D.ix, D.cat, liftI, Option.bind_some, Option.bind_none, Option.map_some, Option.map_none, List.map_cons, List.map_nil, List.length_cons, List.length_nil, List.cons_append, List.nil_append, List.replicate, List.set_cons_zero, List.set_cons_succ, List.getElem?_cons_zero, List.getElem?_cons_succ, Nat.reduceAdd, Nat.reduceSub, Nat.reduceLeDiff, if_true, if_false, ↓reduceIte, List.isEmpty_nil, List.isEmpty_cons, Bool.not_true, Bool.not_false, Bool.false_eq_true, decide_true, decide_false, decide_eq_true_eq, d]
      have s2 : sAsg (eCall F__law_weight (aCons (eVar 0) (aCons (eBin D.add (bVar 3) (bVar 6)) aNil))) (gNm 8) [.sh (toldD s ws), .sh (evD ys), .sh l, .sh (evD xs), .sh (.int ws.sum), .sh (frD f), .sh (evD e), .sh (.int (Wt s ws e)), w2] S = some (.nx [.sh (toldD s ws), .sh (evD ys), .sh l, .sh (evD xs), .sh (.int ws.sum), .sh (frD f), .sh (evD e), .sh (.int (Wt s ws e)), .sh (.int (Wt s ws (xs ++ e)))] S) :=
        sAsg_of (eCall_of (ds := [toldD s ws, evD (xs ++ e)]) (S1 := S) (aCons_of (S1 := S) rfl (aCons_of (S1 := S) (eBin_of (d1 := evD xs) (d2 := evD e) (S1 := S) (S2 := S) rfl rfl A1) rfl)) W2) rfl
      by_cases c2 : Wt s ws (xs ++ e) = 0
      · have t2 : tBl (eBin D.eq (bVar 8) (eC (.int 0))) [.sh (toldD s ws), .sh (evD ys), .sh l, .sh (evD xs), .sh (.int ws.sum), .sh (frD f), .sh (evD e), .sh (.int (Wt s ws e)), .sh (.int (Wt s ws (xs ++ e)))] S = some (true, S) := by
          have d : decide (Wt s ws (xs ++ e) = 0) = true := decide_eq_true c2
          simp only [fnD, fnE, fnOut, rho0, eVar, bVar, Sl.rd, eC, eBin, eTup, eLst, aNil, aCons, eCB, eCall, tTru, tBl, tAn, DL.tOr, tNo, eAn, DL.eOr, eNo, eIf, eIxR, eSl, pNo, pIs, iSeq, iZp, gNm, gTp, gsNil, gsCons, sNx, sBk, sCt, sSeq, Out.seq, sIf, sAsg, sOwn, sPar, sPar3, sRet, sFz, sPub, sSetR, sSetIx, sMut, sDrop, sFor, eLc, tYs, wipeR, D.elems, D.truth, D.add, D.sub, D.mul, D.fdiv, D.mod, D.pow, D.lt, D.le, D.gt, D.ge, D.isN, D.notN, D.ix, D.cat, liftI, Option.bind_some, Option.bind_none, Option.map_some, Option.map_none, List.map_cons, List.map_nil, List.length_cons, List.length_nil, List.cons_append, List.nil_append, List.replicate, List.set_cons_zero, List.set_cons_succ, List.getElem?_cons_zero, List.getElem?_cons_succ, Nat.reduceAdd, Nat.reduceSub, Nat.reduceLeDiff, if_true, if_false, ↓reduceIte, List.isEmpty_nil, List.isEmpty_cons, Bool.not_true, Bool.not_false, Bool.false_eq_true, decide_true, decide_false, decide_eq_true_eq, eq_int, d]
        refine ⟨fun _ => forF_ret (ρ1 := [.sh (toldD s ws), .sh (evD ys), .sh l, .sh (evD xs), .sh (.int ws.sum), .sh (frD f), .sh (evD e), w1, w2]) rfl (sSeq_of (s1 w1) (sIf_t t1 (sSeq_of s2 (sSeq_rt (sIf_t t2 rfl))))), fun p hp => ?_⟩
        simp only [mixM, if_pos c1, if_pos c2] at hp
        cases hp
      · have t2 : tBl (eBin D.eq (bVar 8) (eC (.int 0))) [.sh (toldD s ws), .sh (evD ys), .sh l, .sh (evD xs), .sh (.int ws.sum), .sh (frD f), .sh (evD e), .sh (.int (Wt s ws e)), .sh (.int (Wt s ws (xs ++ e)))] S = some (false, S) := by
          have d : decide (Wt s ws (xs ++ e) = 0) = false := decide_eq_false c2
          simp only [fnD, fnE, fnOut, rho0, eVar, bVar, Sl.rd, eC, eBin, eTup, eLst, aNil, aCons, eCB, eCall, tTru, tBl, tAn, DL.tOr, tNo, eAn, DL.eOr, eNo, eIf, eIxR, eSl, pNo, pIs, iSeq, iZp, gNm, gTp, gsNil, gsCons, sNx, sBk, sCt, sSeq, Out.seq, sIf, sAsg, sOwn, sPar, sPar3, sRet, sFz, sPub, sSetR, sSetIx, sMut, sDrop, sFor, eLc, tYs, wipeR, D.elems, D.truth, D.add, D.sub, D.mul, D.fdiv, D.mod, D.pow, D.lt, D.le, D.gt, D.ge, D.isN, D.notN, D.ix, D.cat, liftI, Option.bind_some, Option.bind_none, Option.map_some, Option.map_none, List.map_cons, List.map_nil, List.length_cons, List.length_nil, List.cons_append, List.nil_append, List.replicate, List.set_cons_zero, List.set_cons_succ, List.getElem?_cons_zero, List.getElem?_cons_succ, Nat.reduceAdd, Nat.reduceSub, Nat.reduceLeDiff, if_true, if_false, ↓reduceIte, List.isEmpty_nil, List.isEmpty_cons, Bool.not_true, Bool.not_false, Bool.false_eq_true, decide_true, decide_false, decide_eq_true_eq, eq_int, d]
        have fq : Fb 26 (Wt s ws e * Wt s ws (ys ++ xs ++ e), ws.sum * Wt s ws (xs ++ e)) := ⟨mul_bd b1 b3, Int.mul_pos p0 (by omega), mul_bd b0 b2⟩
        have q0 : 0 ≤ (Wt s ws e * Wt s ws (ys ++ xs ++ e), ws.sum * Wt s ws (xs ++ e)).1 := Int.mul_nonneg n1 n3
        have P := law_plus_s S hf fq h0 q0 (by omega)
        have f2 : Fb (k + 26 + 1) (plF f (Wt s ws e * Wt s ws (ys ++ xs ++ e), ws.sum * Wt s ws (xs ++ e))) := plF_fb hf fq
        have m1 : okMul (Wt s ws e) (Wt s ws (ys ++ xs ++ e)) = true := okMul_t (bd_mono b1 (by decide)) (bd_mono b3 (by decide))
        have m2 : okMul ws.sum (Wt s ws (xs ++ e)) = true := okMul_t (bd_mono b0 (by decide)) (bd_mono b2 (by decide))
        have M1 : D.mul (.int (Wt s ws e)) (.int (Wt s ws (ys ++ xs ++ e))) = some (.int (Wt s ws e * Wt s ws (ys ++ xs ++ e))) := by simp only [D.mul, liftI, m1, if_true]
        have M2 : D.mul (.int ws.sum) (.int (Wt s ws (xs ++ e))) = some (.int (ws.sum * Wt s ws (xs ++ e))) := by simp only [D.mul, liftI, m2, if_true]
        have s3 : sAsg (eCall F__law_plus (aCons (eVar 5) (aCons (eTup (aCons (eBin D.mul (bVar 7) (eCall F__law_weight (aCons (eVar 0) (aCons (eBin D.add (eBin D.add (bVar 1) (bVar 3)) (bVar 6)) aNil)))) (aCons (eBin D.mul (bVar 4) (bVar 8)) aNil))) aNil))) (gNm 5) [.sh (toldD s ws), .sh (evD ys), .sh l, .sh (evD xs), .sh (.int ws.sum), .sh (frD f), .sh (evD e), .sh (.int (Wt s ws e)), .sh (.int (Wt s ws (xs ++ e)))] S =
            some (.nx [.sh (toldD s ws), .sh (evD ys), .sh l, .sh (evD xs), .sh (.int ws.sum), .sh (frD (plF f (Wt s ws e * Wt s ws (ys ++ xs ++ e), ws.sum * Wt s ws (xs ++ e)))), .sh (evD e), .sh (.int (Wt s ws e)), .sh (.int (Wt s ws (xs ++ e)))] S) :=
          sAsg_of (eCall_of (ds := [frD f, frD (Wt s ws e * Wt s ws (ys ++ xs ++ e), ws.sum * Wt s ws (xs ++ e))]) (S1 := S) (aCons_of (S1 := S) rfl (aCons_of (S1 := S) (eTup_of (ds := [.int (Wt s ws e * Wt s ws (ys ++ xs ++ e)), .int (ws.sum * Wt s ws (xs ++ e))]) (aCons_of (S1 := S) (eBin_of (d1 := .int (Wt s ws e)) (d2 := .int (Wt s ws (ys ++ xs ++ e))) (S1 := S) (S2 := S) rfl
            (eCall_of (ds := [toldD s ws, evD (ys ++ xs ++ e)]) (S1 := S) (aCons_of (S1 := S) rfl (aCons_of (S1 := S) (eBin_of (d1 := evD (ys ++ xs)) (d2 := evD e) (S1 := S) (S2 := S) (eBin_of (d1 := evD ys) (d2 := evD xs) (S1 := S) (S2 := S) rfl rfl A2) rfl A3) rfl)) W3) M1) (aCons_of (S1 := S) (eBin_of (d1 := .int ws.sum) (d2 := .int (Wt s ws (xs ++ e))) (S1 := S) (S2 := S) rfl rfl M2) rfl)) (by show 2 ≤ PySem.sizeLine; decide)) rfl)) P) rfl
        have step : ∀ w1, mixB [.sh (toldD s ws), .sh (evD ys), .sh l, .sh (evD xs), .sh (.int ws.sum), .sh (frD f), .sh (evD e), w1, w2] S = some (.nx [.sh (toldD s ws), .sh (evD ys), .sh l, .sh (evD xs), .sh (.int ws.sum), .sh (frD (plF f (Wt s ws e * Wt s ws (ys ++ xs ++ e), ws.sum * Wt s ws (xs ++ e)))), .sh (evD e), .sh (.int (Wt s ws e)), .sh (.int (Wt s ws (xs ++ e)))] S) := fun w1 =>
          sSeq_of (s1 w1) (sIf_t t1 (sSeq_of s2 (sSeq_of (S1 := S) (ρ' := [.sh (toldD s ws), .sh (evD ys), .sh l, .sh (evD xs), .sh (.int ws.sum), .sh (frD f), .sh (evD e), .sh (.int (Wt s ws e)), .sh (.int (Wt s ws (xs ++ e)))]) (sIf_f t2 rfl) s3)))
        have I := ih (plF f (Wt s ws e * Wt s ws (ys ++ xs ++ e), ws.sum * Wt s ws (xs ++ e))) (k + 26 + 1) (.sh (evD e)) (.sh (.int (Wt s ws e))) (.sh (.int (Wt s ws (xs ++ e)))) he' f2 (plF_nn hf.pos fq.pos h0 q0) (by omega)
        simp only [mixM, if_pos c1, if_neg c2]
        refine ⟨fun hn => ?_, fun p hp => ?_⟩
        · rw [forF_step (S2 := S) rfl (step w1)]
          exact I.1 hn
        · obtain ⟨⟨z', y1, y2, hz⟩, hb, hq⟩ := I.2 p hp
          refine ⟨⟨z', y1, y2, ?_⟩, hb.mono (by rw [List.length_cons]; omega), hq⟩
          rw [forF_step (S2 := S) rfl (step w1)]
          exact hz
    · have t1 : tBl (eBin D.gt (bVar 7) (eC (.int 0))) [.sh (toldD s ws), .sh (evD ys), .sh l, .sh (evD xs), .sh (.int ws.sum), .sh (frD f), .sh (evD e), .sh (.int (Wt s ws e)), w2] S = some (false, S) := by
        have d : decide (0 < Wt s ws e) = false := decide_eq_false c1
        simp only [fnD, fnE, fnOut, rho0, eVar, bVar, Sl.rd, eC, eBin, eTup, eLst, aNil, aCons, eCB, eCall, tTru, tBl, tAn, DL.tOr, tNo, eAn, DL.eOr, eNo, eIf, eIxR, eSl, pNo, pIs, iSeq, iZp, gNm, gTp, gsNil, gsCons, sNx, sBk, sCt, sSeq, Out.seq, sIf, sAsg, sOwn, sPar, sPar3, sRet, sFz, sPub, sSetR, sSetIx, sMut, sDrop, sFor, eLc, tYs, wipeR, D.elems, D.truth, D.add, D.sub, D.mul, D.fdiv, D.mod, D.pow, D.lt, D.le, D.gt, D.ge, D.isN, D.notN, D.ix, D.cat, liftI, Option.bind_some, Option.bind_none, Option.map_some, Option.map_none, List.map_cons, List.map_nil, List.length_cons, List.length_nil, List.cons_append, List.nil_append, List.replicate, List.set_cons_zero, List.set_cons_succ, List.getElem?_cons_zero, List.getElem?_cons_succ, Nat.reduceAdd, Nat.reduceSub, Nat.reduceLeDiff, if_true, if_false, ↓reduceIte, List.isEmpty_nil, List.isEmpty_cons, Bool.not_true, Bool.not_false, Bool.false_eq_true, decide_true, decide_false, decide_eq_true_eq, d]
      have step : mixB [.sh (toldD s ws), .sh (evD ys), .sh l, .sh (evD xs), .sh (.int ws.sum), .sh (frD f), .sh (evD e), w1, w2] S = some (.nx [.sh (toldD s ws), .sh (evD ys), .sh l, .sh (evD xs), .sh (.int ws.sum), .sh (frD f), .sh (evD e), .sh (.int (Wt s ws e)), w2] S) :=
        sSeq_of (s1 w1) (sIf_f t1 rfl)
      have I := ih f k (.sh (evD e)) (.sh (.int (Wt s ws e))) w2 he' hf h0 (by omega)
      simp only [mixM, if_neg c1]
      refine ⟨fun hn => ?_, fun p hp => ?_⟩
      · rw [forF_step (S2 := S) rfl step]
        exact I.1 hn
      · obtain ⟨⟨z', y1, y2, hz⟩, hb, hq⟩ := I.2 p hp
        refine ⟨⟨z', y1, y2, ?_⟩, hb.mono (by rw [List.length_cons]; omega), hq⟩
        rw [forF_step (S2 := S) rfl step]
        exact hz
theorem mixed_s (h : Wo s ws) (xs ys : Ev) (hx : Ok s xs) (hy : Ok s ys) (S : Sto) (es : List Ev) (he : ∀ e ∈ es, Ok s e) (hl : es.length ≤ 200) : F__law_mixed [toldD s ws, evD ys, .lst (es.map evD), evD xs] S = some (optD (mixM s ws xs ys es (0, 1)), S) := by
  have f0 : Fb 1 ((0 : Int), (1 : Int)) := ⟨by decide, by decide, by decide⟩
  have L := mix_loop h xs ys hx hy S (.lst (es.map evD)) es (0, 1) 1 .un .un .un he f0 (by decide) (by omega)
  have s1 : sPar 4 5 (aCons (eCB gSum (aCons (eBin D.ix (bVar 0) (eC (.int 2))) aNil)) (aCons (eTup (aCons (eC (.int 0)) (aCons (eC (.int 1)) aNil))) aNil)) (rho0 9 [toldD s ws, evD ys, .lst (es.map evD), evD xs]) S =
      some (.nx [.sh (toldD s ws), .sh (evD ys), .sh (.lst (es.map evD)), .sh (evD xs), .sh (.int ws.sum), .sh (frD (0, 1)), .un, .un, .un] S) := by
    unfold toldD
    simp only [fnD, fnE, fnOut, rho0, eVar, bVar, Sl.rd, eC, eBin, eTup, eLst, aNil, aCons, eCB, eCall, tTru, tBl, tAn, DL.tOr, tNo, eAn, DL.eOr, eNo, eIf, eIxR, eSl, pNo, pIs, iSeq, iZp, gNm, gTp, gsNil, gsCons, sNx, sBk, sCt, sSeq, Out.seq, sIf, sAsg, sOwn, sPar, sPar3, sRet, sFz, sPub, sSetR, sSetIx, sMut, sDrop, sFor, eLc, tYs, wipeR, D.elems, D.truth, D.add, D.sub, D.mul, D.fdiv, D.mod, D.pow, D.lt, D.le, D.gt, D.ge, D.isN, D.notN, D.ix, D.cat, liftI, Option.bind_some, Option.bind_none, Option.map_some, Option.map_none, List.map_cons, List.map_nil, List.length_cons, List.length_nil, List.cons_append, List.nil_append, List.replicate, List.set_cons_zero, List.set_cons_succ, List.getElem?_cons_zero, List.getElem?_cons_succ, Nat.reduceAdd, Nat.reduceSub, Nat.reduceLeDiff, if_true, if_false, ↓reduceIte, List.isEmpty_nil, List.isEmpty_cons, Bool.not_true, Bool.not_false, Bool.false_eq_true, decide_true, decide_false, decide_eq_true_eq, at2, wsum_t (s := s), sz2]
    rfl
  unfold F__law_mixed b__law_mixed
  cases hm : mixM s ws xs ys es (0, 1) with
  | none => exact fnD_rt (S' := S) (sSeq_of s1 (sSeq_rt (sFor_of (S1 := S) rfl (L.1 hm)))) rfl
  | some p =>
    obtain ⟨⟨z, w1, w2, hz⟩, _⟩ := L.2 p hm
    exact fnD_rt (S' := S) (sSeq_of s1 (sSeq_of (sFor_of (S1 := S) rfl hz) rfl)) rfl
end
end K64

set_option Elab.async false
set_option linter.all false
set_option maxRecDepth 100000
namespace K64
open DL
open L2 (atI atI_nat)
theorem isN_fr (p : Int × Int) : D.isN (frD p) .non = some (.bl false) := rfl
theorem isN_no : D.isN .non .non = some (.bl true) := rfl
theorem tm_cross (q : Int × Int) {C B : Int} (hq : 0 < q.2) (hB : 0 < B) : (tmF q (nf C B)).1 * (q.2 * B) = (q.1 * C) * (tmF q (nf C B)).2 := by
  have c1 : (tmF q (nf C B)).1 * (q.2 * (nf C B).2) = (q.1 * (nf C B).1) * (tmF q (nf C B)).2 := nf_cross _ _
  have c2 : (nf C B).1 * B = C * (nf C B).2 := nf_cross _ _
  have p2 := nf_pos (a := C) hB
  refine Int.eq_of_mul_eq_mul_right (a := (nf C B).2) (by omega) ?_
  generalize (tmF q (nf C B)).1 = t1 at *
  generalize (tmF q (nf C B)).2 = t2 at *
  generalize (nf C B).1 = n1 at *
  generalize (nf C B).2 = n2 at *
  calc t1 * (q.2 * B) * n2 = (t1 * (q.2 * n2)) * B := by simp only [Int.mul_assoc, Int.mul_comm, Int.mul_left_comm]
    _ = (n1 * B) * (q.1 * t2) := by rw [c1]; simp only [Int.mul_assoc, Int.mul_comm, Int.mul_left_comm]
    _ = q.1 * C * t2 * n2 := by rw [c2]; simp only [Int.mul_assoc, Int.mul_comm, Int.mul_left_comm]
theorem tm_pos {q : Int × Int} {C B : Int} (hq : 0 < q.2) (hB : 0 < B) : 0 < (tmF q (nf C B)).2 := nf_pos (Int.mul_pos hq (nf_pos hB))
theorem pl_tm (f q : Int × Int) {C B : Int} (hf : 0 < f.2) (hq : 0 < q.2) (hB : 0 < B) : plF f (tmF q (nf C B)) = plF f (q.1 * C, q.2 * B) :=
  plF_congr f hf (tm_pos hq hB) (Int.mul_pos hq hB) (tm_cross q hq hB)
theorem pl_tm2 (f : Int × Int) {A B C W : Int} (hf : 0 < f.2) (hB : 0 < B) (hW : 0 < W) : plF f (tmF (nf A B) (nf C W)) = plF f (C * A, W * B) := by
  rw [pl_tm f (nf A B) hf (nf_pos hB) hW]
  refine plF_congr f hf (Int.mul_pos (nf_pos hB) hW) (Int.mul_pos hW hB) ?_
  have c := nf_cross A B
  show (nf A B).1 * C * (W * B) = C * A * ((nf A B).2 * W)
  generalize (nf A B).1 = n1 at *
  generalize (nf A B).2 = n2 at *
  calc n1 * C * (W * B) = (n1 * B) * (C * W) := by simp only [Int.mul_assoc, Int.mul_comm, Int.mul_left_comm]
    _ = C * A * (n2 * W) := by rw [c]; simp only [Int.mul_assoc, Int.mul_comm, Int.mul_left_comm]
section
variable {s : List Nat} {ws : List Int}
def adjB (tg : Ars) : Stm := (sSeq (sAsg (eCall F_chance (aCons (eVar 0) (aCons (eVar 5) aNil))) (gNm 6))
    (sIf (tBl (eBin D.gt (eBin D.ix (bVar 6) (eC (.int 0))) (eC (.int 0)))) (sSeq (sAsg (eCall F_chance_given (aCons (eVar 0) (aCons (eVar 2) (aCons (eCall F_together tg) aNil)))) (gNm 7))
    (sSeq (sIf (tBl (eBin D.isN (bVar 7) (eC .non))) (sRet (eC .non)) sNx)
    (sAsg (eCall F_plus (aCons (eVar 4) (aCons (eCall F_times (aCons (eVar 7) (aCons (eVar 6) aNil))) aNil))) (gNm 4)))) sNx))
theorem adj_loop (h : Wo s ws) (xs ys : Ev) (hx : Ok s xs) (hy : Ok s ys) (S : Sto) (tg : Ars) (r1 r3 : Sl) (ta tb : Ev → Ev)
    (htg : ∀ e f w o, tg [.sh (worldD s ws), r1, .sh (evD ys), r3, f, .sh (evD e), w, o] S = some ([evD (ta e), evD (tb e)], S)) (hmem : ∀ e p, p ∈ ta e ++ tb e ↔ p ∈ xs ++ e) (hlen : ∀ e, (ta e).length + (tb e).length = xs.length + e.length) :
    ∀ (es : List Ev) (f : Int × Int) (k : Nat) (z w1 w2 : Sl), (∀ e ∈ es, Ok s e) → (∀ e ∈ es, ∀ p ∈ ys, ∀ q ∈ xs ++ e, q.1 ≠ p.1) → Fb k f → k + 28 * es.length ≤ 8000 →
    (mixM s ws xs ys es f = none → forF (gNm 5) (adjB tg) (es.map evD) [.sh (worldD s ws), r1, .sh (evD ys), r3, .sh (frD f), z, w1, w2] S = some (.rt .non S)) ∧
    (∀ p, mixM s ws xs ys es f = some p → ∃ u w1' w2', forF (gNm 5) (adjB tg) (es.map evD) [.sh (worldD s ws), r1, .sh (evD ys), r3, .sh (frD f), z, w1, w2] S = some (.nx [.sh (worldD s ws), r1, .sh (evD ys), r3, .sh (frD p), u, w1', w2'] S)) := by
  intro es
  induction es with
  | nil =>
    intro f k z w1 w2 _ _ hf _
    refine ⟨fun e => by simp [mixM] at e, fun p e => ?_⟩
    simp only [mixM, Option.some.injEq] at e
    subst e
    exact ⟨z, w1, w2, rfl⟩
  | cons e es ih =>
    intro f k z w1 w2 he hd hf hk
    have oe := he e List.mem_cons_self
    have he' : ∀ e ∈ es, Ok s e := fun e' m => he e' (List.mem_cons_of_mem _ m)
    have hd' : ∀ e ∈ es, ∀ p ∈ ys, ∀ q ∈ xs ++ e, q.1 ≠ p.1 := fun e' m => hd e' (List.mem_cons_of_mem _ m)
    rw [List.length_cons] at hk
    have lx := hx.2; have ly := hy.2; have le := oe.2
    have hm2 : ∀ p, p ∈ sortE (ta e ++ tb e) ↔ p ∈ xs ++ e := fun p => sortE_mem.trans (hmem e p)
    have C1 := chance_s h e S oe.1
    have T1 := together_s (ta e) (tb e) S (by rw [hlen e]; omega)
    have G1 := chance_given_s h ys (sortE (ta e ++ tb e)) S hy.1 (fun p hp => hx.app oe p ((hm2 p).mp hp)) (by rw [sortE_len, List.length_append, hlen e]; omega) fun p hp q hq => hd e List.mem_cons_self p hp q ((hm2 q).mp hq)
    have eB : Wt s ws (sortE (ta e ++ tb e)) = Wt s ws (xs ++ e) := Wt_congr hm2
    have eA : Wt s ws (sortE (ta e ++ tb e) ++ ys) = Wt s ws (ys ++ xs ++ e) := Wt_congr fun p => by
      rw [List.mem_append, hm2 p, List.mem_append, List.mem_append, List.mem_append]
      constructor
      · rintro ((q | q) | q)
        · exact .inl (.inr q)
        · exact .inr q
        · exact .inl (.inl q)
      · rintro ((q | q) | q)
        · exact .inr q
        · exact .inl (.inl q)
        · exact .inl (.inr q)
    rw [eA, eB] at G1
    have n1 := h.wt_nn e
    have p0 := h.pos
    have fW : Fb 13 (nf (Wt s ws e) ws.sum) := nf_fb (h.wt_bd e) p0 h.sum_bd
    rw [List.map_cons]
    have s1 : ∀ w1 w2, sAsg (eCall F_chance (aCons (eVar 0) (aCons (eVar 5) aNil))) (gNm 6) [.sh (worldD s ws), r1, .sh (evD ys), r3, .sh (frD f), .sh (evD e), w1, w2] S = some (.nx [.sh (worldD s ws), r1, .sh (evD ys), r3, .sh (frD f), .sh (evD e), .sh (frD (nf (Wt s ws e) ws.sum)), w2] S) := fun w1 w2 => sAsg_of (eCall_of (S1 := S) rfl C1) rfl
    have t1 : ∀ w2, tBl (eBin D.gt (eBin D.ix (bVar 6) (eC (.int 0))) (eC (.int 0))) [.sh (worldD s ws), r1, .sh (evD ys), r3, .sh (frD f), .sh (evD e), .sh (frD (nf (Wt s ws e) ws.sum)), w2] S = some (decide (0 < (nf (Wt s ws e) ws.sum).1), S) := fun w2 => by
      unfold frD
      simp only [fnD, fnE, fnOut, rho0, eVar, bVar, Sl.rd, eC, eBin, eTup, eLst, aNil, aCons, eCB, eCall, tTru, tBl, tAn, DL.tOr, tNo, eAn, DL.eOr, eNo, eIf, eIxR, eSl, pNo, pIs, iSeq, iZp, gNm, gTp, gsNil, gsCons, sNx, sBk, sCt, sSeq, Out.seq, sIf, sAsg, sOwn, sPar, sPar3, sRet, sFz, sPub, sSetR, sSetIx, sMut, sDrop, sFor, eLc, tYs, wipeR, D.elems, D.truth, D.add, D.sub, D.mul, D.fdiv, D.mod, D.pow, D.lt, D.le, D.gt, D.ge, D.isN, D.notN, D.ix, D.cat, liftI, Option.bind_some, Option.bind_none, Option.map_some, Option.map_none, List.map_cons, List.map_nil, List.length_cons, List.length_nil, List.cons_append, List.nil_append, List.replicate, List.set_cons_zero, List.set_cons_succ, List.getElem?_cons_zero, List.getElem?_cons_succ, Nat.reduceAdd, Nat.reduceSub, Nat.reduceLeDiff, if_true, if_false, ↓reduceIte, List.isEmpty_nil, List.isEmpty_cons, Bool.not_true, Bool.not_false, Bool.false_eq_true, decide_true, decide_false, decide_eq_true_eq, at0]
    by_cases c1 : 0 < Wt s ws e
    · have d1 : decide (0 < (nf (Wt s ws e) ws.sum).1) = true := decide_eq_true ((nf_pos1 p0 n1).mpr c1)
      rw [d1] at t1
      by_cases c2 : Wt s ws (xs ++ e) = 0
      · rw [if_pos c2] at G1
        have s2 : sAsg (eCall F_chance_given (aCons (eVar 0) (aCons (eVar 2) (aCons (eCall F_together tg) aNil)))) (gNm 7) [.sh (worldD s ws), r1, .sh (evD ys), r3, .sh (frD f), .sh (evD e), .sh (frD (nf (Wt s ws e) ws.sum)), w2] S = some (.nx [.sh (worldD s ws), r1, .sh (evD ys), r3, .sh (frD f), .sh (evD e), .sh (frD (nf (Wt s ws e) ws.sum)), .sh .non] S) :=
          sAsg_of (eCall_of (ds := [worldD s ws, evD ys, evD (sortE (ta e ++ tb e))]) (S1 := S) (aCons_of (S1 := S) rfl (aCons_of (S1 := S) rfl (aCons_of (S1 := S) (eCall_of (S1 := S) (htg e _ _ _) T1) rfl))) G1) rfl
        have t2 : tBl (eBin D.isN (bVar 7) (eC .non)) [.sh (worldD s ws), r1, .sh (evD ys), r3, .sh (frD f), .sh (evD e), .sh (frD (nf (Wt s ws e) ws.sum)), .sh .non] S = some (true, S) := tBl_of (eBin_of (d1 := .non) (d2 := .non) (S1 := S) (S2 := S) rfl rfl isN_no)
        refine ⟨fun _ => forF_ret (ρ1 := [.sh (worldD s ws), r1, .sh (evD ys), r3, .sh (frD f), .sh (evD e), w1, w2]) rfl (sSeq_of (s1 w1 w2) (sIf_t (t1 w2) (sSeq_of s2 (sSeq_rt (sIf_t t2 rfl))))), fun p hp => ?_⟩
        simp only [mixM, if_pos c1, if_pos c2] at hp
        cases hp
      · rw [if_neg c2] at G1
        have pB : 0 < Wt s ws (xs ++ e) := by have := h.wt_nn (xs ++ e); omega
        have fO : Fb 13 (nf (Wt s ws (ys ++ xs ++ e)) (Wt s ws (xs ++ e))) := nf_fb (h.wt_bd _) pB (h.wt_bd _)
        have TM := times_s S fO fW (by decide)
        have fT : Fb 26 (tmF (nf (Wt s ws (ys ++ xs ++ e)) (Wt s ws (xs ++ e))) (nf (Wt s ws e) ws.sum)) := nf_fb (mul_bd fO.n fW.n) (Int.mul_pos fO.pos fW.pos) (mul_bd fO.d fW.d)
        have PL := plus_s S hf fT (by omega)
        rw [pl_tm2 f hf.pos pB p0] at PL
        have fq : Fb 26 (Wt s ws e * Wt s ws (ys ++ xs ++ e), ws.sum * Wt s ws (xs ++ e)) := ⟨mul_bd (h.wt_bd _) (h.wt_bd _), Int.mul_pos p0 pB, mul_bd h.sum_bd (h.wt_bd _)⟩
        have f2 := plF_fb hf fq
        have s2 : sAsg (eCall F_chance_given (aCons (eVar 0) (aCons (eVar 2) (aCons (eCall F_together tg) aNil)))) (gNm 7) [.sh (worldD s ws), r1, .sh (evD ys), r3, .sh (frD f), .sh (evD e), .sh (frD (nf (Wt s ws e) ws.sum)), w2] S = some (.nx [.sh (worldD s ws), r1, .sh (evD ys), r3, .sh (frD f), .sh (evD e), .sh (frD (nf (Wt s ws e) ws.sum)), .sh (frD (nf (Wt s ws (ys ++ xs ++ e)) (Wt s ws (xs ++ e))))] S) :=
          sAsg_of (eCall_of (ds := [worldD s ws, evD ys, evD (sortE (ta e ++ tb e))]) (S1 := S) (aCons_of (S1 := S) rfl (aCons_of (S1 := S) rfl (aCons_of (S1 := S) (eCall_of (S1 := S) (htg e _ _ _) T1) rfl))) G1) rfl
        have t2 : tBl (eBin D.isN (bVar 7) (eC .non)) [.sh (worldD s ws), r1, .sh (evD ys), r3, .sh (frD f), .sh (evD e), .sh (frD (nf (Wt s ws e) ws.sum)), .sh (frD (nf (Wt s ws (ys ++ xs ++ e)) (Wt s ws (xs ++ e))))] S = some (false, S) := tBl_of (eBin_of (d1 := frD (nf (Wt s ws (ys ++ xs ++ e)) (Wt s ws (xs ++ e)))) (d2 := .non) (S1 := S) (S2 := S) rfl rfl (isN_fr _))
        have s3 : sAsg (eCall F_plus (aCons (eVar 4) (aCons (eCall F_times (aCons (eVar 7) (aCons (eVar 6) aNil))) aNil))) (gNm 4) [.sh (worldD s ws), r1, .sh (evD ys), r3, .sh (frD f), .sh (evD e), .sh (frD (nf (Wt s ws e) ws.sum)), .sh (frD (nf (Wt s ws (ys ++ xs ++ e)) (Wt s ws (xs ++ e))))] S =
            some (.nx [.sh (worldD s ws), r1, .sh (evD ys), r3, .sh (frD (plF f (Wt s ws e * Wt s ws (ys ++ xs ++ e), ws.sum * Wt s ws (xs ++ e)))), .sh (evD e), .sh (frD (nf (Wt s ws e) ws.sum)), .sh (frD (nf (Wt s ws (ys ++ xs ++ e)) (Wt s ws (xs ++ e))))] S) :=
          sAsg_of (eCall_of (S1 := S) (aCons_of (S1 := S) rfl (aCons_of (S1 := S) (eCall_of (S1 := S) rfl TM) rfl)) PL) rfl
        have step : adjB tg [.sh (worldD s ws), r1, .sh (evD ys), r3, .sh (frD f), .sh (evD e), w1, w2] S = some (.nx [.sh (worldD s ws), r1, .sh (evD ys), r3, .sh (frD (plF f (Wt s ws e * Wt s ws (ys ++ xs ++ e), ws.sum * Wt s ws (xs ++ e)))), .sh (evD e), .sh (frD (nf (Wt s ws e) ws.sum)), .sh (frD (nf (Wt s ws (ys ++ xs ++ e)) (Wt s ws (xs ++ e))))] S) :=
          sSeq_of (s1 w1 w2) (sIf_t (t1 w2) (sSeq_of s2 (sSeq_of (S1 := S) (ρ' := [.sh (worldD s ws), r1, .sh (evD ys), r3, .sh (frD f), .sh (evD e), .sh (frD (nf (Wt s ws e) ws.sum)), .sh (frD (nf (Wt s ws (ys ++ xs ++ e)) (Wt s ws (xs ++ e))))]) (sIf_f t2 rfl) s3)))
        have I := ih (plF f (Wt s ws e * Wt s ws (ys ++ xs ++ e), ws.sum * Wt s ws (xs ++ e))) (k + 26 + 1) (.sh (evD e)) (.sh (frD (nf (Wt s ws e) ws.sum))) (.sh (frD (nf (Wt s ws (ys ++ xs ++ e)) (Wt s ws (xs ++ e))))) he' hd' f2 (by omega)
        simp only [mixM, if_pos c1, if_neg c2]
        refine ⟨fun hn => ?_, fun p hp => ?_⟩
        · rw [forF_step (S2 := S) rfl step]
          exact I.1 hn
        · obtain ⟨z', y1, y2, hz⟩ := I.2 p hp
          refine ⟨z', y1, y2, ?_⟩
          rw [forF_step (S2 := S) rfl step]
          exact hz
    · have d1 : decide (0 < (nf (Wt s ws e) ws.sum).1) = false := decide_eq_false fun q => c1 ((nf_pos1 p0 n1).mp q)
      rw [d1] at t1
      have step : adjB tg [.sh (worldD s ws), r1, .sh (evD ys), r3, .sh (frD f), .sh (evD e), w1, w2] S = some (.nx [.sh (worldD s ws), r1, .sh (evD ys), r3, .sh (frD f), .sh (evD e), .sh (frD (nf (Wt s ws e) ws.sum)), w2] S) := sSeq_of (s1 w1 w2) (sIf_f (t1 w2) rfl)
      have I := ih f k (.sh (evD e)) (.sh (frD (nf (Wt s ws e) ws.sum))) w2 he' hd' hf (by omega)
      simp only [mixM, if_neg c1]
      refine ⟨fun hn => ?_, fun p hp => ?_⟩
      · rw [forF_step (S2 := S) rfl step]
        exact I.1 hn
      · obtain ⟨z', y1, y2, hz⟩ := I.2 p hp
        refine ⟨z', y1, y2, ?_⟩
        rw [forF_step (S2 := S) rfl step]
        exact hz
/-- what the events over the variables are -/
structure VarsOk (s : List Nat) (vars : List Nat) : Prop where
  lt : ∀ v ∈ vars, v < s.length
  sm : Small [[]] (pick s vars)
  ln : vars.length ≤ 5
theorem VarsOk.ok {vars : List Nat} (h : VarsOk s vars) : ∀ e ∈ eventsM s vars, Ok s e := fun e he => by
  unfold eventsM at he
  obtain ⟨r, _, rfl⟩ := List.mem_map.mp he
  refine ⟨fun p hp => h.lt p.1 (List.of_mem_zip hp).1, ?_⟩
  rw [List.length_zip]
  have := h.ln
  omega
theorem VarsOk.mem {vars : List Nat} : ∀ e ∈ eventsM s vars, ∀ p ∈ e, p.1 ∈ vars := fun e he p hp => by
  unfold eventsM at he
  obtain ⟨r, _, rfl⟩ := List.mem_map.mp he
  exact (List.of_mem_zip hp).1
theorem rowsM_pow : ∀ {s : List Nat} {found : List (List Int)}, (∀ n ∈ s, n ≤ 3) → (rowsM found s).length ≤ found.length * 3 ^ s.length
  | [], found, h => by simp [rowsM]
  | n :: s, found, h => by
    have ih := rowsM_pow (s := s) (found := found.flatMap (rowsStep n)) fun m hm => h m (List.mem_cons_of_mem _ hm)
    have hn := h n List.mem_cons_self
    have fl := flat_len (f := rowsStep n) (k := 3) (xs := found) fun r _ => by unfold rowsStep; simpa using hn
    refine Nat.le_trans ih (Nat.le_trans (Nat.mul_le_mul_right _ fl) ?_)
    rw [List.length_cons, Nat.pow_succ, Nat.mul_assoc, Nat.mul_comm 3]
    exact Nat.le_refl _
theorem VarsOk.len {vars : List Nat} (h : VarsOk s vars) : (eventsM s vars).length ≤ 3 ^ vars.length := by
  unfold eventsM
  rw [List.length_map]
  have := rowsM_pow (s := pick s vars) (found := [[]]) h.sm.1
  have e : (pick s vars).length = vars.length := by unfold pick; simp
  rw [e] at this
  simpa using this
theorem adjusted_s (h : Wo s ws) (xs ys : Ev) (hx : Ok s xs) (hy : Ok s ys) (vars : List Nat) (hv : VarsOk s vars) (S : Sto) (hl : (eventsM s vars).length ≤ 200) (hd : ∀ e ∈ eventsM s vars, ∀ p ∈ ys, ∀ q ∈ xs ++ e, q.1 ≠ p.1) :
    F_adjusted [worldD s ws, evD xs, evD ys, varsD vars] S = some (optD (mixM s ws xs ys (eventsM s vars) (0, 1)), S) := by
  have f0 : Fb 1 ((0 : Int), (1 : Int)) := ⟨by decide, by decide, by decide⟩
  have V := values_of_s h vars S hv.lt hv.sm
  have L := adj_loop h xs ys hx hy S (aCons (eVar 1) (aCons (eVar 5) aNil)) (.sh (evD xs)) (.sh (varsD vars)) (fun _ => xs) (fun e => e) (fun _ _ _ _ => rfl) (fun _ _ => Iff.rfl) (fun _ => rfl) (eventsM s vars) (0, 1) 1 .un .un .un hv.ok hd f0 (by omega)
  have s1 : sAsg (eTup (aCons (eC (.int 0)) (aCons (eC (.int 1)) aNil))) (gNm 4) (rho0 8 [worldD s ws, evD xs, evD ys, varsD vars]) S = some (.nx [.sh (worldD s ws), .sh (evD xs), .sh (evD ys), .sh (varsD vars), .sh (frD (0, 1)), .un, .un, .un] S) := by
    simp only [fnD, fnE, fnOut, rho0, eVar, bVar, Sl.rd, eC, eBin, eTup, eLst, aNil, aCons, eCB, eCall, tTru, tBl, tAn, DL.tOr, tNo, eAn, DL.eOr, eNo, eIf, eIxR, eSl, pNo, pIs, iSeq, iZp, gNm, gTp, gsNil, gsCons, sNx, sBk, sCt, sSeq, Out.seq, sIf, sAsg, sOwn, sPar, sPar3, sRet, sFz, sPub, sSetR, sSetIx, sMut, sDrop, sFor, eLc, tYs, wipeR, D.elems, D.truth, D.add, D.sub, D.mul, D.fdiv, D.mod, D.pow, D.lt, D.le, D.gt, D.ge, D.isN, D.notN, D.ix, D.cat, liftI, Option.bind_some, Option.bind_none, Option.map_some, Option.map_none, List.map_cons, List.map_nil, List.length_cons, List.length_nil, List.cons_append, List.nil_append, List.replicate, List.set_cons_zero, List.set_cons_succ, List.getElem?_cons_zero, List.getElem?_cons_succ, Nat.reduceAdd, Nat.reduceSub, Nat.reduceLeDiff, if_true, if_false, ↓reduceIte, List.isEmpty_nil, List.isEmpty_cons, Bool.not_true, Bool.not_false, Bool.false_eq_true, decide_true, decide_false, decide_eq_true_eq, sz2]; rfl
  have I : iSeq (eCall F_values_of (aCons (eVar 0) (aCons (eVar 3) aNil))) [.sh (worldD s ws), .sh (evD xs), .sh (evD ys), .sh (varsD vars), .sh (frD (0, 1)), .un, .un, .un] S = some ((eventsM s vars).map evD, S) := iSeq_of (eCall_of (S1 := S) rfl V) rfl
  unfold F_adjusted b_adjusted
  cases hm : mixM s ws xs ys (eventsM s vars) (0, 1) with
  | none => exact fnD_rt (S' := S) (sSeq_of s1 (sSeq_rt (sFor_of I (L.1 hm)))) rfl
  | some p =>
    obtain ⟨z, w1, w2, hz⟩ := L.2 p hm
    exact fnD_rt (S' := S) (sSeq_of s1 (sSeq_of (sFor_of I hz) rfl)) rfl
theorem behind_s (h : Wo s ws) (x : Nat) (ys ev : Ev) (he : Ok s ev) (hy : Ok s ys) (hv : VarsOk s [x]) (S : Sto) (hd : ∀ e ∈ eventsM s [x], ∀ p ∈ ys, ∀ q ∈ ev ++ e, q.1 ≠ p.1) :
    F_behind_front [worldD s ws, .int (x : Int), evD ys, evD ev] S = some (optD (mixM s ws ev ys (eventsM s [x]) (0, 1)), S) := by
  have f0 : Fb 1 ((0 : Int), (1 : Int)) := ⟨by decide, by decide, by decide⟩
  have V := values_of_s h [x] S hv.lt hv.sm
  have hl := hv.len
  have L := adj_loop h ev ys he hy S (aCons (eVar 5) (aCons (eVar 3) aNil)) (.sh (.int (x : Int))) (.sh (evD ev)) (fun e => e) (fun _ => ev) (fun _ _ _ _ => rfl) (fun e p => by rw [List.mem_append, List.mem_append]; exact Or.comm) (fun e => Nat.add_comm _ _) (eventsM s [x]) (0, 1) 1 .un .un .un hv.ok hd f0 (by simp at hl; omega)
  have s1 : sAsg (eTup (aCons (eC (.int 0)) (aCons (eC (.int 1)) aNil))) (gNm 4) (rho0 8 [worldD s ws, .int (x : Int), evD ys, evD ev]) S = some (.nx [.sh (worldD s ws), .sh (.int (x : Int)), .sh (evD ys), .sh (evD ev), .sh (frD (0, 1)), .un, .un, .un] S) := by
    simp only [fnD, fnE, fnOut, rho0, eVar, bVar, Sl.rd, eC, eBin, eTup, eLst, aNil, aCons, eCB, eCall, tTru, tBl, tAn, DL.tOr, tNo, eAn, DL.eOr, eNo, eIf, eIxR, eSl, pNo, pIs, iSeq, iZp, gNm, gTp, gsNil, gsCons, sNx, sBk, sCt, sSeq, Out.seq, sIf, sAsg, sOwn, sPar, sPar3, sRet, sFz, sPub, sSetR, sSetIx, sMut, sDrop, sFor, eLc, tYs, wipeR, D.elems, D.truth, D.add, D.sub, D.mul, D.fdiv, D.mod, D.pow, D.lt, D.le, D.gt, D.ge, D.isN, D.notN, D.ix, D.cat, liftI, Option.bind_some, Option.bind_none, Option.map_some, Option.map_none, List.map_cons, List.map_nil, List.length_cons, List.length_nil, List.cons_append, List.nil_append, List.replicate, List.set_cons_zero, List.set_cons_succ, List.getElem?_cons_zero, List.getElem?_cons_succ, Nat.reduceAdd, Nat.reduceSub, Nat.reduceLeDiff, if_true, if_false, ↓reduceIte, List.isEmpty_nil, List.isEmpty_cons, Bool.not_true, Bool.not_false, Bool.false_eq_true, decide_true, decide_false, decide_eq_true_eq, sz2]; rfl
  have I : iSeq (eCall F_values_of (aCons (eVar 0) (aCons (eTup (aCons (eVar 1) aNil)) aNil))) [.sh (worldD s ws), .sh (.int (x : Int)), .sh (evD ys), .sh (evD ev), .sh (frD (0, 1)), .un, .un, .un] S = some ((eventsM s [x]).map evD, S) :=
    iSeq_of (eCall_of (ds := [worldD s ws, varsD [x]]) (S1 := S) (aCons_of (S1 := S) rfl (aCons_of (S1 := S) (eTup_of (ds := [.int (x : Int)]) rfl (by show 1 ≤ PySem.sizeLine; decide)) rfl)) V) rfl
  unfold F_behind_front b_behind_front
  cases hm : mixM s ws ev ys (eventsM s [x]) (0, 1) with
  | none => exact fnD_rt (S' := S) (sSeq_of s1 (sSeq_rt (sFor_of I (L.1 hm)))) rfl
  | some p =>
    obtain ⟨z, w1, w2, hz⟩ := L.2 p hm
    exact fnD_rt (S' := S) (sSeq_of s1 (sSeq_of (sFor_of I hz) rfl)) rfl
end
end K64

set_option Elab.async false
set_option linter.all false
set_option maxRecDepth 100000
namespace K64
open DL
open L2 (atI atI_nat)
section
variable {s : List Nat} {ws : List Int}
/-- the front door's value -/
def frM (s : List Nat) (ws : List Int) (x : Nat) (u : Int) (ys : Ev) : List Ev → Int × Int → Option (Int × Int)
  | [], f => some f
  | e :: es, f => if 0 < Wt s ws (e ++ [(x, u)]) then (match mixM s ws e ys (eventsM s [x]) (0, 1) with
      | none => none
      | some q => frM s ws x u ys es (plF f (q.1 * Wt s ws (e ++ [(x, u)]), q.2 * Wt s ws [(x, u)]))) else frM s ws x u ys es f
def lfB : Stm := (sSeq (sAsg (eCall F__law_weight (aCons (eVar 0) (aCons (eBin D.add (bVar 7) (eTup (aCons (eTup (aCons (eVar 1) (aCons (eVar 2) aNil))) aNil))) aNil))) (gNm 8))
    (sIf (tBl (eBin D.gt (bVar 8) (eC (.int 0)))) (sSeq (sAsg (eCall F__law_mixed (aCons (eVar 0) (aCons (eVar 3) (aCons (eCall F__law_events (aCons (eVar 0) (aCons (eTup (aCons (eVar 1) aNil)) aNil))) (aCons (eVar 7) aNil))))) (gNm 9))
    (sSeq (sIf (tBl (eBin D.isN (bVar 9) (eC .non))) (sRet (eC .non)) sNx)
    (sAsg (eCall F__law_plus (aCons (eVar 6) (aCons (eTup (aCons (eBin D.mul (eBin D.ix (bVar 9) (eC (.int 0))) (bVar 8)) (aCons (eBin D.mul (eBin D.ix (bVar 9) (eC (.int 1))) (bVar 5)) aNil))) aNil))) (gNm 6)))) sNx))
def fvB : Stm := (sSeq (sAsg (eCall F_chance_given (aCons (eVar 0) (aCons (eVar 6) (aCons (eTup (aCons (eTup (aCons (eVar 1) (aCons (eVar 2) aNil))) aNil)) aNil)))) (gNm 7))
    (sSeq (sIf (tBl (eBin D.isN (bVar 7) (eC .non))) (sRet (eC .non)) sNx)
    (sIf (tBl (eBin D.gt (eBin D.ix (bVar 7) (eC (.int 0))) (eC (.int 0)))) (sSeq (sAsg (eCall F_behind_front (aCons (eVar 0) (aCons (eVar 1) (aCons (eVar 3) (aCons (eVar 6) aNil))))) (gNm 8))
    (sSeq (sIf (tBl (eBin D.isN (bVar 8) (eC .non))) (sRet (eC .non)) sNx)
    (sAsg (eCall F_plus (aCons (eVar 5) (aCons (eCall F_times (aCons (eVar 8) (aCons (eVar 7) aNil))) aNil))) (gNm 5)))) sNx)))
theorem mix_fb (h : Wo s ws) (xs ys : Ev) (hx : Ok s xs) (hy : Ok s ys) (es : List Ev) (he : ∀ e ∈ es, Ok s e) (hl : es.length ≤ 3) {q : Int × Int} (hq : mixM s ws xs ys es (0, 1) = some q) : Fb 82 q ∧ 0 ≤ q.1 := by
  have f0 : Fb 1 ((0 : Int), (1 : Int)) := ⟨by decide, by decide, by decide⟩
  have L := mix_loop h xs ys hx hy [] .non es (0, 1) 1 .un .un .un he f0 (by decide) (by omega)
  obtain ⟨_, b, n⟩ := L.2 q hq
  exact ⟨b.mono (by omega), n⟩
theorem pair_tup {ρ : Rho} {S : Sto} {x : Nat} {u : Int} (h1 : ρ[1]? = some (.sh (.int (x : Int)))) (h2 : ρ[2]? = some (.sh (.int u))) : eTup (aCons (eTup (aCons (eVar 1) (aCons (eVar 2) aNil))) aNil) ρ S = some (evD [(x, u)], S) := by
  have a : eTup (aCons (eVar 1) (aCons (eVar 2) aNil)) ρ S = some (pD (x, u), S) := by
    refine eTup_of (ds := [.int (x : Int), .int u]) ?_ (by show 2 ≤ PySem.sizeLine; decide)
    simp only [aCons, aNil, eVar, h1, h2, Option.bind_some]
  exact eTup_of (ds := [pD (x, u)]) (aCons_of (S1 := S) a rfl) (by show 1 ≤ PySem.sizeLine; decide)
theorem lf_loop (h : Wo s ws) (x : Nat) (u : Int) (ys : Ev) (hy : Ok s ys) (hv : VarsOk s [x]) (hB : 0 < Wt s ws [(x, u)]) (S : Sto) (zv : Sl) : ∀ (es : List Ev) (f : Int × Int) (k : Nat) (z w1 w2 : Sl), (∀ e ∈ es, Ok s e) → Fb k f → 0 ≤ f.1 → k + 96 * es.length ≤ 8000 →
    (frM s ws x u ys es f = none → forF (gNm 7) lfB (es.map evD) [.sh (toldD s ws), .sh (.int (x : Int)), .sh (.int u), .sh (evD ys), zv, .sh (.int (Wt s ws [(x, u)])), .sh (frD f), z, w1, w2] S = some (.rt .non S)) ∧
    (∀ p, frM s ws x u ys es f = some p → ∃ v w1' w2', forF (gNm 7) lfB (es.map evD) [.sh (toldD s ws), .sh (.int (x : Int)), .sh (.int u), .sh (evD ys), zv, .sh (.int (Wt s ws [(x, u)])), .sh (frD f), z, w1, w2] S = some (.nx [.sh (toldD s ws), .sh (.int (x : Int)), .sh (.int u), .sh (evD ys), zv, .sh (.int (Wt s ws [(x, u)])), .sh (frD p), v, w1', w2'] S)) := by
  intro es
  induction es with
  | nil =>
    intro f k z w1 w2 _ hf h0 _
    refine ⟨fun e => by simp [frM] at e, fun p e => ?_⟩
    simp only [frM, Option.some.injEq] at e
    subst e
    exact ⟨z, w1, w2, rfl⟩
  | cons e es ih =>
    intro f k z w1 w2 he hf h0 hk
    have oe := he e List.mem_cons_self
    have he' : ∀ e ∈ es, Ok s e := fun e' m => he e' (List.mem_cons_of_mem _ m)
    rw [List.length_cons] at hk
    have ox : Ok s [(x, u)] := ⟨fun p hp => by simp at hp; subst hp; exact hv.lt x (by simp), by simp⟩
    have W1 := weight_s h (e ++ [(x, u)]) S (oe.app ox)
    have le := oe.2
    have A1 : D.add (evD e) (evD [(x, u)]) = some (evD (e ++ [(x, u)])) := evD_add (by simp; omega)
    have n1 := h.wt_nn (e ++ [(x, u)])
    have E1 := events_s h [x] S hv.lt hv.sm (by simp)
    have hl3 := hv.len
    have hl4 : (eventsM s [x]).length ≤ 3 := by simpa using hl3
    have M1 := mixed_s h e ys oe hy S (eventsM s [x]) hv.ok (by omega)
    rw [List.map_cons]
    have s1 : ∀ (z w1 w2 : Sl), sAsg (eCall F__law_weight (aCons (eVar 0) (aCons (eBin D.add (bVar 7) (eTup (aCons (eTup (aCons (eVar 1) (aCons (eVar 2) aNil))) aNil))) aNil))) (gNm 8) [.sh (toldD s ws), .sh (.int (x : Int)), .sh (.int u), .sh (evD ys), zv, .sh (.int (Wt s ws [(x, u)])), .sh (frD f), .sh (evD e), w1, w2] S =
        some (.nx [.sh (toldD s ws), .sh (.int (x : Int)), .sh (.int u), .sh (evD ys), zv, .sh (.int (Wt s ws [(x, u)])), .sh (frD f), .sh (evD e), .sh (.int (Wt s ws (e ++ [(x, u)]))), w2] S) := fun z w1 w2 =>
      sAsg_of (eCall_of (ds := [toldD s ws, evD (e ++ [(x, u)])]) (S1 := S) (aCons_of (S1 := S) rfl (aCons_of (S1 := S) (eBin_of (d1 := evD e) (d2 := evD [(x, u)]) (S1 := S) (S2 := S) rfl (pair_tup rfl rfl) A1) rfl)) W1) rfl
    have t1 : ∀ w2, tBl (eBin D.gt (bVar 8) (eC (.int 0))) [.sh (toldD s ws), .sh (.int (x : Int)), .sh (.int u), .sh (evD ys), zv, .sh (.int (Wt s ws [(x, u)])), .sh (frD f), .sh (evD e), .sh (.int (Wt s ws (e ++ [(x, u)]))), w2] S = some (decide (0 < Wt s ws (e ++ [(x, u)])), S) := fun w2 => by simp only [fnD, fnE, fnOut, rho0, eVar, bVar, Sl.rd, eC, eBin, eTup, eLst, aNil, aCons, eCB, eCall, tTru, tBl, tAn, DL.tOr, tNo, eAn, DL.eOr, eNo, eIf, eIxR, eSl, pNo, pIs, iSeq, iZp, gNm, gTp, gsNil, gsCons, sNx, sBk, sCt, sSeq, Out.seq, sIf, sAsg, sOwn, sPar, sPar3, sRet, sFz, sPub, sSetR, sSetIx, sMut, sDrop, sFor, eLc, tYs, wipeR, D.elems, D.truth, D.add, D.sub, D.mul, D.fdiv, D.mod, D.pow, D.lt, D.le, D.gt, D.ge, D.isN, D.notN, D.ix, D.cat, liftI, Option.bind_some, Option.bind_none, Option.map_some, Option.map_none, List.map_cons, List.map_nil, List.length_cons, List.length_nil, List.cons_append, List.nil_append, List.replicate, List.set_cons_zero, List.set_cons_succ, List.getElem?_cons_zero, List.getElem?_cons_succ, Nat.reduceAdd, Nat.reduceSub, Nat.reduceLeDiff, if_true, if_false, ↓reduceIte, List.isEmpty_nil, List.isEmpty_cons, Bool.not_true, Bool.not_false, Bool.false_eq_true, decide_true, decide_false, decide_eq_true_eq]
    by_cases c1 : 0 < Wt s ws (e ++ [(x, u)])
    · have d1 : decide (0 < Wt s ws (e ++ [(x, u)])) = true := decide_eq_true c1
      rw [d1] at t1
      have s2 : sAsg (eCall F__law_mixed (aCons (eVar 0) (aCons (eVar 3) (aCons (eCall F__law_events (aCons (eVar 0) (aCons (eTup (aCons (eVar 1) aNil)) aNil))) (aCons (eVar 7) aNil))))) (gNm 9) [.sh (toldD s ws), .sh (.int (x : Int)), .sh (.int u), .sh (evD ys), zv, .sh (.int (Wt s ws [(x, u)])), .sh (frD f), .sh (evD e), .sh (.int (Wt s ws (e ++ [(x, u)]))), w2] S =
          some (.nx [.sh (toldD s ws), .sh (.int (x : Int)), .sh (.int u), .sh (evD ys), zv, .sh (.int (Wt s ws [(x, u)])), .sh (frD f), .sh (evD e), .sh (.int (Wt s ws (e ++ [(x, u)]))), .sh (optD (mixM s ws e ys (eventsM s [x]) (0, 1)))] S) :=
        sAsg_of (eCall_of (ds := [toldD s ws, evD ys, .lst ((eventsM s [x]).map evD), evD e]) (S1 := S) (aCons_of (S1 := S) rfl (aCons_of (S1 := S) rfl (aCons_of (S1 := S) (eCall_of (ds := [toldD s ws, varsD [x]]) (S1 := S) (aCons_of (S1 := S) rfl (aCons_of (S1 := S) (eTup_of (ds := [.int (x : Int)]) rfl (by show 1 ≤ PySem.sizeLine; decide)) rfl)) E1) (aCons_of (S1 := S) rfl rfl)))) M1) rfl
      cases hm : mixM s ws e ys (eventsM s [x]) (0, 1) with
      | none =>
        rw [hm] at s2
        have t2 : tBl (eBin D.isN (bVar 9) (eC .non)) [.sh (toldD s ws), .sh (.int (x : Int)), .sh (.int u), .sh (evD ys), zv, .sh (.int (Wt s ws [(x, u)])), .sh (frD f), .sh (evD e), .sh (.int (Wt s ws (e ++ [(x, u)]))), .sh (optD none)] S = some (true, S) := tBl_of (eBin_of (d1 := .non) (d2 := .non) (S1 := S) (S2 := S) rfl rfl isN_no)
        refine ⟨fun _ => forF_ret (ρ1 := [.sh (toldD s ws), .sh (.int (x : Int)), .sh (.int u), .sh (evD ys), zv, .sh (.int (Wt s ws [(x, u)])), .sh (frD f), .sh (evD e), w1, w2]) rfl (sSeq_of (s1 z w1 w2) (sIf_t (t1 w2) (sSeq_of s2 (sSeq_rt (sIf_t t2 rfl))))), fun p hp => ?_⟩
        simp only [frM, if_pos c1, hm] at hp
        cases hp
      | some q =>
        rw [hm] at s2
        obtain ⟨fq, q0⟩ := mix_fb h e ys oe hy (eventsM s [x]) hv.ok hl4 hm
        have t2 : tBl (eBin D.isN (bVar 9) (eC .non)) [.sh (toldD s ws), .sh (.int (x : Int)), .sh (.int u), .sh (evD ys), zv, .sh (.int (Wt s ws [(x, u)])), .sh (frD f), .sh (evD e), .sh (.int (Wt s ws (e ++ [(x, u)]))), .sh (optD (some q))] S = some (false, S) := tBl_of (eBin_of (d1 := frD q) (d2 := .non) (S1 := S) (S2 := S) rfl rfl (isN_fr _))
        have b1 := h.wt_bd (e ++ [(x, u)])
        have b2 := h.wt_bd [(x, u)]
        have fr : Fb 95 (q.1 * Wt s ws (e ++ [(x, u)]), q.2 * Wt s ws [(x, u)]) := ⟨mul_bd fq.n b1, Int.mul_pos fq.pos hB, mul_bd fq.d b2⟩
        have r0 : 0 ≤ (q.1 * Wt s ws (e ++ [(x, u)]), q.2 * Wt s ws [(x, u)]).1 := Int.mul_nonneg q0 n1
        have P := law_plus_s S hf fr h0 r0 (by omega)
        have f2 := plF_fb hf fr
        have m1 : okMul q.1 (Wt s ws (e ++ [(x, u)])) = true := okMul_t (bd_mono fq.n (by decide)) (bd_mono b1 (by decide))
        have m2 : okMul q.2 (Wt s ws [(x, u)]) = true := okMul_t (bd_mono fq.d (by decide)) (bd_mono b2 (by decide))
        have s3 : sAsg (eCall F__law_plus (aCons (eVar 6) (aCons (eTup (aCons (eBin D.mul (eBin D.ix (bVar 9) (eC (.int 0))) (bVar 8)) (aCons (eBin D.mul (eBin D.ix (bVar 9) (eC (.int 1))) (bVar 5)) aNil))) aNil))) (gNm 6) [.sh (toldD s ws), .sh (.int (x : Int)), .sh (.int u), .sh (evD ys), zv, .sh (.int (Wt s ws [(x, u)])), .sh (frD f), .sh (evD e), .sh (.int (Wt s ws (e ++ [(x, u)]))), .sh (optD (some q))] S =
            some (.nx [.sh (toldD s ws), .sh (.int (x : Int)), .sh (.int u), .sh (evD ys), zv, .sh (.int (Wt s ws [(x, u)])), .sh (frD (plF f (q.1 * Wt s ws (e ++ [(x, u)]), q.2 * Wt s ws [(x, u)]))), .sh (evD e), .sh (.int (Wt s ws (e ++ [(x, u)]))), .sh (optD (some q))] S) := by
          refine sAsg_of (eCall_of (ds := [frD f, frD (q.1 * Wt s ws (e ++ [(x, u)]), q.2 * Wt s ws [(x, u)])]) (S1 := S) ?_ P) rfl
          unfold optD frD
          simp only [fnD, fnE, fnOut, rho0, eVar, bVar, Sl.rd, eC, eBin, eTup, eLst, aNil, aCons, eCB, eCall, tTru, tBl, tAn, DL.tOr, tNo, eAn, DL.eOr, eNo, eIf, eIxR, eSl, pNo, pIs, iSeq, iZp, gNm, gTp, gsNil, gsCons, sNx, sBk, sCt, sSeq, Out.seq, sIf, sAsg, sOwn, sPar, sPar3, sRet, sFz, sPub, sSetR, sSetIx, sMut, sDrop, sFor, eLc, tYs, wipeR, D.elems, D.truth, D.add, D.sub, D.mul, D.fdiv, D.mod, D.pow, D.lt, D.le, D.gt, D.ge, D.isN, D.notN, D.ix, D.cat, liftI, Option.bind_some, Option.bind_none, Option.map_some, Option.map_none, List.map_cons, List.map_nil, List.length_cons, List.length_nil, List.cons_append, List.nil_append, List.replicate, List.set_cons_zero, List.set_cons_succ, List.getElem?_cons_zero, List.getElem?_cons_succ, Nat.reduceAdd, Nat.reduceSub, Nat.reduceLeDiff, if_true, if_false, ↓reduceIte, List.isEmpty_nil, List.isEmpty_cons, Bool.not_true, Bool.not_false, Bool.false_eq_true, decide_true, decide_false, decide_eq_true_eq, at0, at1, m1, m2, sz2]
        have step : lfB [.sh (toldD s ws), .sh (.int (x : Int)), .sh (.int u), .sh (evD ys), zv, .sh (.int (Wt s ws [(x, u)])), .sh (frD f), .sh (evD e), w1, w2] S = some (.nx [.sh (toldD s ws), .sh (.int (x : Int)), .sh (.int u), .sh (evD ys), zv, .sh (.int (Wt s ws [(x, u)])), .sh (frD (plF f (q.1 * Wt s ws (e ++ [(x, u)]), q.2 * Wt s ws [(x, u)]))), .sh (evD e), .sh (.int (Wt s ws (e ++ [(x, u)]))), .sh (optD (some q))] S) :=
          sSeq_of (s1 z w1 w2) (sIf_t (t1 w2) (sSeq_of s2 (sSeq_of (S1 := S) (ρ' := [.sh (toldD s ws), .sh (.int (x : Int)), .sh (.int u), .sh (evD ys), zv, .sh (.int (Wt s ws [(x, u)])), .sh (frD f), .sh (evD e), .sh (.int (Wt s ws (e ++ [(x, u)]))), .sh (optD (some q))]) (sIf_f t2 rfl) s3)))
        have I := ih (plF f (q.1 * Wt s ws (e ++ [(x, u)]), q.2 * Wt s ws [(x, u)])) (k + 95 + 1) (.sh (evD e)) (.sh (.int (Wt s ws (e ++ [(x, u)])))) (.sh (optD (some q))) he' f2 (plF_nn hf.pos fr.pos h0 r0) (by omega)
        simp only [frM, if_pos c1, hm]
        refine ⟨fun hn => ?_, fun p hp => ?_⟩
        · rw [forF_step (S2 := S) rfl step]
          exact I.1 hn
        · obtain ⟨z', y1, y2, hz⟩ := I.2 p hp
          refine ⟨z', y1, y2, ?_⟩
          rw [forF_step (S2 := S) rfl step]
          exact hz
    · have d1 : decide (0 < Wt s ws (e ++ [(x, u)])) = false := decide_eq_false c1
      rw [d1] at t1
      have step : lfB [.sh (toldD s ws), .sh (.int (x : Int)), .sh (.int u), .sh (evD ys), zv, .sh (.int (Wt s ws [(x, u)])), .sh (frD f), .sh (evD e), w1, w2] S = some (.nx [.sh (toldD s ws), .sh (.int (x : Int)), .sh (.int u), .sh (evD ys), zv, .sh (.int (Wt s ws [(x, u)])), .sh (frD f), .sh (evD e), .sh (.int (Wt s ws (e ++ [(x, u)]))), w2] S) := sSeq_of (s1 z w1 w2) (sIf_f (t1 w2) rfl)
      have I := ih f k (.sh (evD e)) (.sh (.int (Wt s ws (e ++ [(x, u)])))) w2 he' hf h0 (by omega)
      simp only [frM, if_neg c1]
      refine ⟨fun hn => ?_, fun p hp => ?_⟩
      · rw [forF_step (S2 := S) rfl step]
        exact I.1 hn
      · obtain ⟨z', y1, y2, hz⟩ := I.2 p hp
        refine ⟨z', y1, y2, ?_⟩
        rw [forF_step (S2 := S) rfl step]
        exact hz
theorem fv_loop (h : Wo s ws) (x : Nat) (u : Int) (ys : Ev) (hy : Ok s ys) (hv : VarsOk s [x]) (hB : 0 < Wt s ws [(x, u)]) (S : Sto) (zv : Sl) : ∀ (es : List Ev) (f : Int × Int) (k : Nat) (z w1 w2 : Sl), (∀ e ∈ es, Ok s e) → (∀ e ∈ es, ∀ p ∈ e, x ≠ p.1) →
    (∀ e ∈ es, ∀ o ∈ eventsM s [x], ∀ p ∈ ys, ∀ q ∈ e ++ o, q.1 ≠ p.1) → Fb k f → k + 96 * es.length ≤ 8000 →
    (frM s ws x u ys es f = none → forF (gNm 6) fvB (es.map evD) [.sh (worldD s ws), .sh (.int (x : Int)), .sh (.int u), .sh (evD ys), zv, .sh (frD f), z, w1, w2] S = some (.rt .non S)) ∧
    (∀ p, frM s ws x u ys es f = some p → ∃ v w1' w2', forF (gNm 6) fvB (es.map evD) [.sh (worldD s ws), .sh (.int (x : Int)), .sh (.int u), .sh (evD ys), zv, .sh (frD f), z, w1, w2] S = some (.nx [.sh (worldD s ws), .sh (.int (x : Int)), .sh (.int u), .sh (evD ys), zv, .sh (frD p), v, w1', w2'] S)) := by
  intro es
  induction es with
  | nil =>
    intro f k z w1 w2 _ _ _ hf _
    refine ⟨fun e => by simp [frM] at e, fun p e => ?_⟩
    simp only [frM, Option.some.injEq] at e
    subst e
    exact ⟨z, w1, w2, rfl⟩
  | cons e es ih =>
    intro f k z w1 w2 he hd1 hd2 hf hk
    have oe := he e List.mem_cons_self
    have he' : ∀ e ∈ es, Ok s e := fun e' m => he e' (List.mem_cons_of_mem _ m)
    have hd1' : ∀ e ∈ es, ∀ p ∈ e, x ≠ p.1 := fun e' m => hd1 e' (List.mem_cons_of_mem _ m)
    have hd2' : ∀ e ∈ es, ∀ o ∈ eventsM s [x], ∀ p ∈ ys, ∀ q ∈ e ++ o, q.1 ≠ p.1 := fun e' m => hd2 e' (List.mem_cons_of_mem _ m)
    rw [List.length_cons] at hk
    have ox : Ok s [(x, u)] := ⟨fun p hp => by simp at hp; subst hp; exact hv.lt x (by simp), by simp⟩
    have le := oe.2
    have G1 := chance_given_s h e [(x, u)] S oe.1 ox.1 (by simp; omega) fun p hp q hq => by
      simp at hq; subst hq; exact hd1 e List.mem_cons_self p hp
    rw [if_neg (by omega)] at G1
    have eCC : Wt s ws ([(x, u)] ++ e) = Wt s ws (e ++ [(x, u)]) := Wt_congr fun p => by rw [List.mem_append, List.mem_append]; exact Or.comm
    rw [eCC] at G1
    have n1 := h.wt_nn (e ++ [(x, u)])
    have fW : Fb 13 (nf (Wt s ws (e ++ [(x, u)])) (Wt s ws [(x, u)])) := nf_fb (h.wt_bd _) hB (h.wt_bd _)
    have hl3 := hv.len
    have hl4 : (eventsM s [x]).length ≤ 3 := by simpa using hl3
    have M1 := behind_s h x ys e oe hy hv S (hd2 e List.mem_cons_self)
    rw [List.map_cons]
    have s1 : ∀ w1 w2, sAsg (eCall F_chance_given (aCons (eVar 0) (aCons (eVar 6) (aCons (eTup (aCons (eTup (aCons (eVar 1) (aCons (eVar 2) aNil))) aNil)) aNil)))) (gNm 7) [.sh (worldD s ws), .sh (.int (x : Int)), .sh (.int u), .sh (evD ys), zv, .sh (frD f), .sh (evD e), w1, w2] S =
        some (.nx [.sh (worldD s ws), .sh (.int (x : Int)), .sh (.int u), .sh (evD ys), zv, .sh (frD f), .sh (evD e), .sh (frD (nf (Wt s ws (e ++ [(x, u)])) (Wt s ws [(x, u)]))), w2] S) := fun w1 w2 =>
      sAsg_of (eCall_of (ds := [worldD s ws, evD e, evD [(x, u)]]) (S1 := S) (aCons_of (S1 := S) rfl (aCons_of (S1 := S) rfl (aCons_of (S1 := S) (pair_tup rfl rfl) rfl))) G1) rfl
    have t0 : ∀ w2, tBl (eBin D.isN (bVar 7) (eC .non)) [.sh (worldD s ws), .sh (.int (x : Int)), .sh (.int u), .sh (evD ys), zv, .sh (frD f), .sh (evD e), .sh (frD (nf (Wt s ws (e ++ [(x, u)])) (Wt s ws [(x, u)]))), w2] S = some (false, S) := fun w2 => tBl_of (eBin_of (d1 := frD (nf (Wt s ws (e ++ [(x, u)])) (Wt s ws [(x, u)]))) (d2 := .non) (S1 := S) (S2 := S) rfl rfl (isN_fr _))
    have t1 : ∀ w2, tBl (eBin D.gt (eBin D.ix (bVar 7) (eC (.int 0))) (eC (.int 0))) [.sh (worldD s ws), .sh (.int (x : Int)), .sh (.int u), .sh (evD ys), zv, .sh (frD f), .sh (evD e), .sh (frD (nf (Wt s ws (e ++ [(x, u)])) (Wt s ws [(x, u)]))), w2] S = some (decide (0 < (nf (Wt s ws (e ++ [(x, u)])) (Wt s ws [(x, u)])).1), S) := fun w2 => by
      unfold frD
      simp only [fnD, fnE, fnOut, rho0, eVar, bVar, Sl.rd, eC, eBin, eTup, eLst, aNil, aCons, eCB, eCall, tTru, tBl, tAn, DL.tOr, tNo, eAn, DL.eOr, eNo, eIf, eIxR, eSl, pNo, pIs, iSeq, iZp, gNm, gTp, gsNil, gsCons, sNx, sBk, sCt, sSeq, Out.seq, sIf, sAsg, sOwn, sPar, sPar3, sRet, sFz, sPub, sSetR, sSetIx, sMut, sDrop, sFor, eLc, tYs, wipeR, D.elems, D.truth, D.add, D.sub, D.mul, D.fdiv, D.mod, D.pow, D.lt, D.le, D.gt, D.ge, D.isN, D.notN, D.ix, D.cat, liftI, Option.bind_some, Option.bind_none, Option.map_some, Option.map_none, List.map_cons, List.map_nil, List.length_cons, List.length_nil, List.cons_append, List.nil_append, List.replicate, List.set_cons_zero, List.set_cons_succ, List.getElem?_cons_zero, List.getElem?_cons_succ, Nat.reduceAdd, Nat.reduceSub, Nat.reduceLeDiff, if_true, if_false, ↓reduceIte, List.isEmpty_nil, List.isEmpty_cons, Bool.not_true, Bool.not_false, Bool.false_eq_true, decide_true, decide_false, decide_eq_true_eq, at0]
    by_cases c1 : 0 < Wt s ws (e ++ [(x, u)])
    · have d1 : decide (0 < (nf (Wt s ws (e ++ [(x, u)])) (Wt s ws [(x, u)])).1) = true := decide_eq_true ((nf_pos1 hB n1).mpr c1)
      rw [d1] at t1
      have s2 : sAsg (eCall F_behind_front (aCons (eVar 0) (aCons (eVar 1) (aCons (eVar 3) (aCons (eVar 6) aNil))))) (gNm 8) [.sh (worldD s ws), .sh (.int (x : Int)), .sh (.int u), .sh (evD ys), zv, .sh (frD f), .sh (evD e), .sh (frD (nf (Wt s ws (e ++ [(x, u)])) (Wt s ws [(x, u)]))), w2] S =
          some (.nx [.sh (worldD s ws), .sh (.int (x : Int)), .sh (.int u), .sh (evD ys), zv, .sh (frD f), .sh (evD e), .sh (frD (nf (Wt s ws (e ++ [(x, u)])) (Wt s ws [(x, u)]))), .sh (optD (mixM s ws e ys (eventsM s [x]) (0, 1)))] S) :=
        sAsg_of (eCall_of (S1 := S) rfl M1) rfl
      cases hm : mixM s ws e ys (eventsM s [x]) (0, 1) with
      | none =>
        rw [hm] at s2
        have t2 : tBl (eBin D.isN (bVar 8) (eC .non)) [.sh (worldD s ws), .sh (.int (x : Int)), .sh (.int u), .sh (evD ys), zv, .sh (frD f), .sh (evD e), .sh (frD (nf (Wt s ws (e ++ [(x, u)])) (Wt s ws [(x, u)]))), .sh (optD none)] S = some (true, S) := tBl_of (eBin_of (d1 := .non) (d2 := .non) (S1 := S) (S2 := S) rfl rfl isN_no)
        refine ⟨fun _ => forF_ret (ρ1 := [.sh (worldD s ws), .sh (.int (x : Int)), .sh (.int u), .sh (evD ys), zv, .sh (frD f), .sh (evD e), w1, w2]) rfl (sSeq_of (s1 w1 w2) (sSeq_of (S1 := S) (sIf_f (t0 w2) rfl) (sIf_t (t1 w2) (sSeq_of s2 (sSeq_rt (sIf_t t2 rfl)))))), fun p hp => ?_⟩
        simp only [frM, if_pos c1, hm] at hp
        cases hp
      | some q =>
        rw [hm] at s2
        obtain ⟨fq, q0⟩ := mix_fb h e ys oe hy (eventsM s [x]) hv.ok hl4 hm
        have t2 : tBl (eBin D.isN (bVar 8) (eC .non)) [.sh (worldD s ws), .sh (.int (x : Int)), .sh (.int u), .sh (evD ys), zv, .sh (frD f), .sh (evD e), .sh (frD (nf (Wt s ws (e ++ [(x, u)])) (Wt s ws [(x, u)]))), .sh (optD (some q))] S = some (false, S) := tBl_of (eBin_of (d1 := frD q) (d2 := .non) (S1 := S) (S2 := S) rfl rfl (isN_fr _))
        have fr : Fb 95 (q.1 * Wt s ws (e ++ [(x, u)]), q.2 * Wt s ws [(x, u)]) := ⟨mul_bd fq.n (h.wt_bd _), Int.mul_pos fq.pos hB, mul_bd fq.d (h.wt_bd _)⟩
        have TM := times_s S fq fW (by decide)
        have fT : Fb 95 (tmF q (nf (Wt s ws (e ++ [(x, u)])) (Wt s ws [(x, u)]))) := nf_fb (mul_bd fq.n fW.n) (Int.mul_pos fq.pos fW.pos) (mul_bd fq.d fW.d)
        have PL := plus_s S hf fT (by omega)
        rw [pl_tm f q hf.pos fq.pos hB] at PL
        have f2 := plF_fb hf fr
        have s3 : sAsg (eCall F_plus (aCons (eVar 5) (aCons (eCall F_times (aCons (eVar 8) (aCons (eVar 7) aNil))) aNil))) (gNm 5) [.sh (worldD s ws), .sh (.int (x : Int)), .sh (.int u), .sh (evD ys), zv, .sh (frD f), .sh (evD e), .sh (frD (nf (Wt s ws (e ++ [(x, u)])) (Wt s ws [(x, u)]))), .sh (optD (some q))] S =
            some (.nx [.sh (worldD s ws), .sh (.int (x : Int)), .sh (.int u), .sh (evD ys), zv, .sh (frD (plF f (q.1 * Wt s ws (e ++ [(x, u)]), q.2 * Wt s ws [(x, u)]))), .sh (evD e), .sh (frD (nf (Wt s ws (e ++ [(x, u)])) (Wt s ws [(x, u)]))), .sh (optD (some q))] S) :=
          sAsg_of (eCall_of (S1 := S) (aCons_of (S1 := S) rfl (aCons_of (S1 := S) (eCall_of (ds := [frD q, frD (nf (Wt s ws (e ++ [(x, u)])) (Wt s ws [(x, u)]))]) (S1 := S) rfl TM) rfl)) PL) rfl
        have step : fvB [.sh (worldD s ws), .sh (.int (x : Int)), .sh (.int u), .sh (evD ys), zv, .sh (frD f), .sh (evD e), w1, w2] S = some (.nx [.sh (worldD s ws), .sh (.int (x : Int)), .sh (.int u), .sh (evD ys), zv, .sh (frD (plF f (q.1 * Wt s ws (e ++ [(x, u)]), q.2 * Wt s ws [(x, u)]))), .sh (evD e), .sh (frD (nf (Wt s ws (e ++ [(x, u)])) (Wt s ws [(x, u)]))), .sh (optD (some q))] S) :=
          sSeq_of (s1 w1 w2) (sSeq_of (S1 := S) (sIf_f (t0 w2) rfl) (sIf_t (t1 w2) (sSeq_of s2 (sSeq_of (S1 := S) (ρ' := [.sh (worldD s ws), .sh (.int (x : Int)), .sh (.int u), .sh (evD ys), zv, .sh (frD f), .sh (evD e), .sh (frD (nf (Wt s ws (e ++ [(x, u)])) (Wt s ws [(x, u)]))), .sh (optD (some q))]) (sIf_f t2 rfl) s3))))
        have I := ih (plF f (q.1 * Wt s ws (e ++ [(x, u)]), q.2 * Wt s ws [(x, u)])) (k + 95 + 1) (.sh (evD e)) (.sh (frD (nf (Wt s ws (e ++ [(x, u)])) (Wt s ws [(x, u)])))) (.sh (optD (some q))) he' hd1' hd2' f2 (by omega)
        simp only [frM, if_pos c1, hm]
        refine ⟨fun hn => ?_, fun p hp => ?_⟩
        · rw [forF_step (S2 := S) rfl step]
          exact I.1 hn
        · obtain ⟨z', y1, y2, hz⟩ := I.2 p hp
          refine ⟨z', y1, y2, ?_⟩
          rw [forF_step (S2 := S) rfl step]
          exact hz
    · have d1 : decide (0 < (nf (Wt s ws (e ++ [(x, u)])) (Wt s ws [(x, u)])).1) = false := decide_eq_false fun q => c1 ((nf_pos1 hB n1).mp q)
      rw [d1] at t1
      have step : fvB [.sh (worldD s ws), .sh (.int (x : Int)), .sh (.int u), .sh (evD ys), zv, .sh (frD f), .sh (evD e), w1, w2] S = some (.nx [.sh (worldD s ws), .sh (.int (x : Int)), .sh (.int u), .sh (evD ys), zv, .sh (frD f), .sh (evD e), .sh (frD (nf (Wt s ws (e ++ [(x, u)])) (Wt s ws [(x, u)]))), w2] S) := sSeq_of (s1 w1 w2) (sSeq_of (S1 := S) (sIf_f (t0 w2) rfl) (sIf_f (t1 w2) rfl))
      have I := ih f k (.sh (evD e)) (.sh (frD (nf (Wt s ws (e ++ [(x, u)])) (Wt s ws [(x, u)])))) w2 he' hd1' hd2' hf (by omega)
      simp only [frM, if_neg c1]
      refine ⟨fun hn => ?_, fun p hp => ?_⟩
      · rw [forF_step (S2 := S) rfl step]
        exact I.1 hn
      · obtain ⟨z', y1, y2, hz⟩ := I.2 p hp
        refine ⟨z', y1, y2, ?_⟩
        rw [forF_step (S2 := S) rfl step]
        exact hz
def frontD (s : List Nat) (ws : List Int) (x : Nat) (u : Int) (ys : Ev) (zs : List Nat) : D := if Wt s ws [(x, u)] = 0 then .non else optD (frM s ws x u ys (eventsM s zs) (0, 1))
theorem law_front_s (h : Wo s ws) (x : Nat) (u : Int) (ys : Ev) (zs : List Nat) (hy : Ok s ys) (hx : VarsOk s [x]) (hz : VarsOk s zs) (hl : (eventsM s zs).length ≤ 81) (S : Sto) :
    F__law_front [toldD s ws, .int (x : Int), .int u, evD ys, varsD zs] S = some (frontD s ws x u ys zs, S) := by
  have f0 : Fb 1 ((0 : Int), (1 : Int)) := ⟨by decide, by decide, by decide⟩
  have ox : Ok s [(x, u)] := ⟨fun p hp => by simp at hp; subst hp; exact hx.lt x (by simp), by simp⟩
  have W1 := weight_s h [(x, u)] S ox.1
  have s1 : sPar 5 6 (aCons (eCall F__law_weight (aCons (eVar 0) (aCons (eTup (aCons (eTup (aCons (eVar 1) (aCons (eVar 2) aNil))) aNil)) aNil))) (aCons (eTup (aCons (eC (.int 0)) (aCons (eC (.int 1)) aNil))) aNil)) (rho0 10 [toldD s ws, .int (x : Int), .int u, evD ys, varsD zs]) S =
      some (.nx [.sh (toldD s ws), .sh (.int (x : Int)), .sh (.int u), .sh (evD ys), .sh (varsD zs), .sh (.int (Wt s ws [(x, u)])), .sh (frD (0, 1)), .un, .un, .un] S) := by
    have a : aCons (eCall F__law_weight (aCons (eVar 0) (aCons (eTup (aCons (eTup (aCons (eVar 1) (aCons (eVar 2) aNil))) aNil)) aNil))) (aCons (eTup (aCons (eC (.int 0)) (aCons (eC (.int 1)) aNil))) aNil) (rho0 10 [toldD s ws, .int (x : Int), .int u, evD ys, varsD zs]) S = some ([.int (Wt s ws [(x, u)]), frD (0, 1)], S) :=
      aCons_of (S1 := S) (eCall_of (ds := [toldD s ws, evD [(x, u)]]) (S1 := S) (aCons_of (S1 := S) rfl (aCons_of (S1 := S) (pair_tup rfl rfl) rfl)) W1) (aCons_of (S1 := S) (eTup_of (ds := [.int 0, .int 1]) rfl (by show 2 ≤ PySem.sizeLine; decide)) rfl)
    unfold sPar
    rw [a]
    rfl
  have t1 : tBl (eBin D.eq (bVar 5) (eC (.int 0))) [.sh (toldD s ws), .sh (.int (x : Int)), .sh (.int u), .sh (evD ys), .sh (varsD zs), .sh (.int (Wt s ws [(x, u)])), .sh (frD (0, 1)), .un, .un, .un] S = some (decide (Wt s ws [(x, u)] = 0), S) := by simp only [fnD, fnE, fnOut, rho0, eVar, bVar, Sl.rd, eC, eBin, eTup, eLst, aNil, aCons, eCB, eCall, tTru, tBl, tAn, DL.tOr, tNo, eAn, DL.eOr, eNo, eIf, eIxR, eSl, pNo, pIs, iSeq, iZp, gNm, gTp, gsNil, gsCons, sNx, sBk, sCt, sSeq, Out.seq, sIf, sAsg, sOwn, sPar, sPar3, sRet, sFz, sPub, sSetR, sSetIx, sMut, sDrop, sFor, eLc, tYs, wipeR, D.elems, D.truth, D.add, D.sub, D.mul, D.fdiv, D.mod, D.pow, D.lt, D.le, D.gt, D.ge, D.isN, D.notN, D.ix, D.cat, liftI, Option.bind_some, Option.bind_none, Option.map_some, Option.map_none, List.map_cons, List.map_nil, List.length_cons, List.length_nil, List.cons_append, List.nil_append, List.replicate, List.set_cons_zero, List.set_cons_succ, List.getElem?_cons_zero, List.getElem?_cons_succ, Nat.reduceAdd, Nat.reduceSub, Nat.reduceLeDiff, if_true, if_false, ↓reduceIte, List.isEmpty_nil, List.isEmpty_cons, Bool.not_true, Bool.not_false, Bool.false_eq_true, decide_true, decide_false, decide_eq_true_eq, eq_int]
  unfold F__law_front b__law_front frontD
  by_cases c : Wt s ws [(x, u)] = 0
  · rw [if_pos c]
    rw [decide_eq_true c] at t1
    exact fnD_rt (S' := S) (sSeq_of s1 (sSeq_rt (sIf_t t1 rfl))) rfl
  · rw [if_neg c]
    rw [decide_eq_false c] at t1
    have hB : 0 < Wt s ws [(x, u)] := by have := h.wt_nn [(x, u)]; omega
    have L := lf_loop h x u ys hy hx hB S (.sh (varsD zs)) (eventsM s zs) (0, 1) 1 .un .un .un hz.ok f0 (by decide) (by omega)
    have E1 := events_s h zs S hz.lt hz.sm (by have := hz.ln; omega)
    have I : iSeq (eCall F__law_events (aCons (eVar 0) (aCons (eVar 4) aNil))) [.sh (toldD s ws), .sh (.int (x : Int)), .sh (.int u), .sh (evD ys), .sh (varsD zs), .sh (.int (Wt s ws [(x, u)])), .sh (frD (0, 1)), .un, .un, .un] S = some ((eventsM s zs).map evD, S) := iSeq_of (eCall_of (S1 := S) rfl E1) rfl
    cases hm : frM s ws x u ys (eventsM s zs) (0, 1) with
    | none => exact fnD_rt (S' := S) (sSeq_of s1 (sSeq_of (S1 := S) (sIf_f t1 rfl) (sSeq_rt (sFor_of I (L.1 hm))))) rfl
    | some p =>
      obtain ⟨z, w1, w2, hz'⟩ := L.2 p hm
      exact fnD_rt (S' := S) (sSeq_of s1 (sSeq_of (S1 := S) (sIf_f t1 rfl) (sSeq_of (sFor_of I hz') rfl))) rfl
theorem front_s (h : Wo s ws) (x : Nat) (u : Int) (ys : Ev) (zs : List Nat) (hy : Ok s ys) (hx : VarsOk s [x]) (hz : VarsOk s zs) (hl : (eventsM s zs).length ≤ 81) (hne : eventsM s zs ≠ []) (S : Sto)
    (hd1 : ∀ e ∈ eventsM s zs, ∀ p ∈ e, x ≠ p.1) (hd2 : ∀ e ∈ eventsM s zs, ∀ o ∈ eventsM s [x], ∀ p ∈ ys, ∀ q ∈ e ++ o, q.1 ≠ p.1) :
    F_front_value [worldD s ws, .int (x : Int), .int u, evD ys, varsD zs] S = some (frontD s ws x u ys zs, S) := by
  have f0 : Fb 1 ((0 : Int), (1 : Int)) := ⟨by decide, by decide, by decide⟩
  have ox : Ok s [(x, u)] := ⟨fun p hp => by simp at hp; subst hp; exact hx.lt x (by simp), by simp⟩
  have V := values_of_s h zs S hz.lt hz.sm
  have s1 : sAsg (eTup (aCons (eC (.int 0)) (aCons (eC (.int 1)) aNil))) (gNm 5) (rho0 9 [worldD s ws, .int (x : Int), .int u, evD ys, varsD zs]) S = some (.nx [.sh (worldD s ws), .sh (.int (x : Int)), .sh (.int u), .sh (evD ys), .sh (varsD zs), .sh (frD (0, 1)), .un, .un, .un] S) := by
    simp only [fnD, fnE, fnOut, rho0, eVar, bVar, Sl.rd, eC, eBin, eTup, eLst, aNil, aCons, eCB, eCall, tTru, tBl, tAn, DL.tOr, tNo, eAn, DL.eOr, eNo, eIf, eIxR, eSl, pNo, pIs, iSeq, iZp, gNm, gTp, gsNil, gsCons, sNx, sBk, sCt, sSeq, Out.seq, sIf, sAsg, sOwn, sPar, sPar3, sRet, sFz, sPub, sSetR, sSetIx, sMut, sDrop, sFor, eLc, tYs, wipeR, D.elems, D.truth, D.add, D.sub, D.mul, D.fdiv, D.mod, D.pow, D.lt, D.le, D.gt, D.ge, D.isN, D.notN, D.ix, D.cat, liftI, Option.bind_some, Option.bind_none, Option.map_some, Option.map_none, List.map_cons, List.map_nil, List.length_cons, List.length_nil, List.cons_append, List.nil_append, List.replicate, List.set_cons_zero, List.set_cons_succ, List.getElem?_cons_zero, List.getElem?_cons_succ, Nat.reduceAdd, Nat.reduceSub, Nat.reduceLeDiff, if_true, if_false, ↓reduceIte, List.isEmpty_nil, List.isEmpty_cons, Bool.not_true, Bool.not_false, Bool.false_eq_true, decide_true, decide_false, decide_eq_true_eq, sz2]; rfl
  have I : iSeq (eCall F_values_of (aCons (eVar 0) (aCons (eVar 4) aNil))) [.sh (worldD s ws), .sh (.int (x : Int)), .sh (.int u), .sh (evD ys), .sh (varsD zs), .sh (frD (0, 1)), .un, .un, .un] S = some ((eventsM s zs).map evD, S) := iSeq_of (eCall_of (S1 := S) rfl V) rfl
  unfold F_front_value b_front_value frontD
  by_cases c : Wt s ws [(x, u)] = 0
  · rw [if_pos c]
    obtain ⟨e, es, he⟩ : ∃ e es, eventsM s zs = e :: es := by cases hq : eventsM s zs with | nil => exact absurd hq hne | cons e es => exact ⟨e, es, rfl⟩
    have oe := hz.ok e (by rw [he]; simp)
    have le := oe.2
    have G1 := chance_given_s h e [(x, u)] S oe.1 ox.1 (by simp; omega) fun p hp q hq => by
      simp at hq; subst hq; exact hd1 e (by rw [he]; simp) p hp
    rw [if_pos c] at G1
    have L : forF (gNm 6) fvB ((eventsM s zs).map evD) [.sh (worldD s ws), .sh (.int (x : Int)), .sh (.int u), .sh (evD ys), .sh (varsD zs), .sh (frD (0, 1)), .un, .un, .un] S = some (.rt .non S) := by
      rw [he, List.map_cons]
      refine forF_ret (ρ1 := [.sh (worldD s ws), .sh (.int (x : Int)), .sh (.int u), .sh (evD ys), .sh (varsD zs), .sh (frD (0, 1)), .sh (evD e), .un, .un]) rfl (sSeq_of (S1 := S) (ρ' := [.sh (worldD s ws), .sh (.int (x : Int)), .sh (.int u), .sh (evD ys), .sh (varsD zs), .sh (frD (0, 1)), .sh (evD e), .sh .non, .un]) ?_ (sSeq_rt (sIf_t (S1 := S) (tBl_of (eBin_of (d1 := .non) (d2 := .non) (S1 := S) (S2 := S) rfl rfl isN_no)) rfl)))
      exact sAsg_of (eCall_of (ds := [worldD s ws, evD e, evD [(x, u)]]) (S1 := S) (aCons_of (S1 := S) rfl (aCons_of (S1 := S) rfl (aCons_of (S1 := S) (pair_tup rfl rfl) rfl))) G1) rfl
    exact fnD_rt (S' := S) (sSeq_of s1 (sSeq_rt (sFor_of I L))) rfl
  · rw [if_neg c]
    have hB : 0 < Wt s ws [(x, u)] := by have := h.wt_nn [(x, u)]; omega
    have L := fv_loop h x u ys hy hx hB S (.sh (varsD zs)) (eventsM s zs) (0, 1) 1 .un .un .un hz.ok hd1 hd2 f0 (by omega)
    cases hm : frM s ws x u ys (eventsM s zs) (0, 1) with
    | none => exact fnD_rt (S' := S) (sSeq_of s1 (sSeq_rt (sFor_of I (L.1 hm)))) rfl
    | some p =>
      obtain ⟨z, w1, w2, hz'⟩ := L.2 p hm
      exact fnD_rt (S' := S) (sSeq_of s1 (sSeq_of (sFor_of I hz') rfl)) rfl
end
end K64

set_option Elab.async false
set_option linter.all false
set_option maxRecDepth 100000
namespace K64
open DL
open L2 (atI atI_nat ixN)
/-- the counter's list -/
def cS (l : List D) (p q t : Int) : Sto := [.lst [.lst l, .int p, .int q, .int t, .int 20]]
section
variable {l : List D} {p q t : Int} {ρ : Rho}
theorem get0 : eIxR (eVar 0) (eC (.int 0)) (.sh (.ref 0) :: ρ) (cS l p q t) = some (.lst l, cS l p q t) := rfl
theorem get1 : eIxR (eVar 0) (eC (.int 1)) (.sh (.ref 0) :: ρ) (cS l p q t) = some (.int p, cS l p q t) := rfl
theorem get2 : eIxR (eVar 0) (eC (.int 2)) (.sh (.ref 0) :: ρ) (cS l p q t) = some (.int q, cS l p q t) := rfl
theorem get3 : eIxR (eVar 0) (eC (.int 3)) (.sh (.ref 0) :: ρ) (cS l p q t) = some (.int t, cS l p q t) := rfl
theorem set1 {f : Ex} {S : Sto} {i : Int} (h : f (.sh (.ref 0) :: ρ) S = some (.int i, cS l p q t)) : sSetR (eVar 0) f (eC (.int 1)) (.sh (.ref 0) :: ρ) S = some (.nx (.sh (.ref 0) :: ρ) (cS l i q t)) := by
  unfold sSetR; rw [h]; rfl
theorem set2 {f : Ex} {S : Sto} {i : Int} (h : f (.sh (.ref 0) :: ρ) S = some (.int i, cS l p q t)) : sSetR (eVar 0) f (eC (.int 2)) (.sh (.ref 0) :: ρ) S = some (.nx (.sh (.ref 0) :: ρ) (cS l p i t)) := by
  unfold sSetR; rw [h]; rfl
theorem set3 {f : Ex} {S : Sto} {i : Int} (h : f (.sh (.ref 0) :: ρ) S = some (.int i, cS l p q t)) : sSetR (eVar 0) f (eC (.int 3)) (.sh (.ref 0) :: ρ) S = some (.nx (.sh (.ref 0) :: ρ) (cS l p q i)) := by
  unfold sSetR; rw [h]; rfl
theorem len0 : eCB gLen (aCons (eIxR (eVar 0) (eC (.int 0))) aNil) (.sh (.ref 0) :: ρ) (cS l p q t) = some (.int l.length, cS l p q t) := rfl
end
theorem i_add (i j : Int) : D.add (.int i) (.int j) = some (.int (i + j)) := rfl
theorem i_sub (i j : Int) : D.sub (.int i) (.int j) = some (.int (i - j)) := rfl
theorem i_mul {i j : Int} {a b : Nat} (hi : i.natAbs < 2 ^ a) (hj : j.natAbs < 2 ^ b) (ha : a ≤ 8999) (hb : b ≤ 8999) : D.mul (.int i) (.int j) = some (.int (i * j)) := by
  have o := okMul_t (bd_mono hi ha) (bd_mono hj hb)
  simp only [D.mul, liftI, o, if_true]
theorem i_mod {i j : Int} (hj : 0 < j) : D.mod (.int i) (.int j) = some (.int (i % j)) := by
  have : j ≠ 0 := by omega
  simp only [D.mod, liftI, if_pos this, Int.fmod_eq_emod_of_nonneg i (Int.le_of_lt hj)]
theorem i_div {i j : Int} (hj : 0 < j) (h : j.natAbs < 2 ^ 8999) : D.fdiv (.int i) (.int j) = some (.int (i / j)) := by
  have o := okDiv_t hj h
  simp only [D.fdiv, liftI, o, if_true]
theorem i_lt (i j : Int) : D.lt (.int i) (.int j) = some (.bl (decide (i < j))) := rfl
theorem i_ge (i j : Int) : D.ge (.int i) (.int j) = some (.bl (decide (j ≤ i))) := rfl
theorem i_pow : D.pow (.int 10) (.int 18) = some (.int 1000000000000000000) := by
  have c : (0 : Int) ≤ 18 ∧ (18 : Int) ≤ 1000000 ∧ (10 : Int).natAbs < 2 ^ 64 := by decide
  simp only [D.pow, liftI, if_pos c]
  rfl
theorem bd64 {x : Int} (h0 : 0 ≤ x) (h : x < 18446744073709551616) : x.natAbs < 2 ^ 64 := by omega
/-- the end of _law_fill, from a number that is not great -/
theorem fill_tail (ns : List Int) (p q t n : Int) (hn : 0 ≤ n) (hn2 : n < 2000000000000000000) (ht : 0 ≤ t) (ht2 : t ≤ 200000) :
    ∃ r : Int, 0 ≤ r ∧ (sSeq (sIf (tAn (tTru (eIxR (eVar 0) (eC (.int 0)))) (tBl (eBin D.ge (eIxR (eVar 0) (eC (.int 1))) (eCB gLen (aCons (eIxR (eVar 0) (eC (.int 0))) aNil))))) (sAsg (eBin D.add (bVar 1) (eBin D.mod (eCB gInt (aCons (eBin D.ix (eIxR (eVar 0) (eC (.int 0))) (eUn D.neg (eC (.int 1)))) aNil)) (eC (.int 1000003)))) (gNm 1)) sNx)
    (sSeq (sAsg (eBin D.mod (eCB gInt (aCons (eBin D.add (eBin D.mul (bVar 1) (eC (.int 48271))) (eBin D.mul (eIxR (eVar 0) (eC (.int 3))) (eC (.int 69621)))) aNil)) (eC (.int 2147483647))) (gNm 1))
    (sRet (eBin D.add (eBin D.fdiv (eCB gInt (aCons (eBin D.add (eBin D.add (eBin D.mul (bVar 1) (bVar 1)) (eBin D.mul (eIxR (eVar 0) (eC (.int 3))) (eC (.int 7919)))) (eC (.int 11))) aNil)) (eC (.int 64))) (eC (.int 36028797018963968)))))) [.sh (.ref 0), .sh (.int n)] (cS (ns.map D.int) p q t) = some (.rt (.int r) (cS (ns.map D.int) p q t)) := by
  generalize hS : cS (ns.map D.int) p q t = S
  have g0 : eIxR (eVar 0) (eC (.int 0)) = eIxR (eVar 0) (eC (.int 0)) := rfl
  obtain ⟨m, hm0, hm1, h4⟩ : ∃ m : Int, 0 ≤ m ∧ m < 3000000000000000000 ∧ sIf (tAn (tTru (eIxR (eVar 0) (eC (.int 0)))) (tBl (eBin D.ge (eIxR (eVar 0) (eC (.int 1))) (eCB gLen (aCons (eIxR (eVar 0) (eC (.int 0))) aNil))))) (sAsg (eBin D.add (bVar 1) (eBin D.mod (eCB gInt (aCons (eBin D.ix (eIxR (eVar 0) (eC (.int 0))) (eUn D.neg (eC (.int 1)))) aNil)) (eC (.int 1000003)))) (gNm 1)) sNx [.sh (.ref 0), .sh (.int n)] S = some (.nx [.sh (.ref 0), .sh (.int m)] S) := by
    subst hS
    have t2 : tBl (eBin D.ge (eIxR (eVar 0) (eC (.int 1))) (eCB gLen (aCons (eIxR (eVar 0) (eC (.int 0))) aNil))) [.sh (.ref 0), .sh (.int n)] (cS (ns.map D.int) p q t) = some (decide (((ns.map D.int).length : Int) ≤ p), cS (ns.map D.int) p q t) := tBl_of (eBin_of get1 len0 (i_ge _ _))
    cases ns with
    | nil =>
      refine ⟨n, hn, by omega, sIf_f (S1 := cS [] p q t) ?_ rfl⟩
      rfl
    | cons x ns =>
      have t1 : tTru (eIxR (eVar 0) (eC (.int 0))) [.sh (.ref 0), .sh (.int n)] (cS ((x :: ns).map D.int) p q t) = some (true, cS ((x :: ns).map D.int) p q t) := rfl
      by_cases c : (((x :: ns).map D.int).length : Int) ≤ p
      · rw [decide_eq_true c] at t2
        obtain ⟨y, hy⟩ : ∃ y : Int, atI ((x :: ns).map D.int) (-1) = some (.int y) := by
          refine ⟨(x :: ns).getLast (by simp), ?_⟩
          conv => lhs; rw [← List.dropLast_concat_getLast (l := x :: ns) (by simp), List.map_append]
          exact L2.atI_last _ _
        have e1 := Int.emod_nonneg y (b := 1000003) (by decide)
        have e2 := Int.emod_lt_of_pos y (b := 1000003) (by decide)
        refine ⟨n + y % 1000003, by omega, by omega, sIf_t (S1 := cS ((x :: ns).map D.int) p q t) ?_ ?_⟩
        · simp only [tAn, t1, Option.bind_some, if_true, t2]
        · have hx : eBin D.ix (eIxR (eVar 0) (eC (.int 0))) (eUn D.neg (eC (.int 1))) [.sh (.ref 0), .sh (.int n)] (cS ((x :: ns).map D.int) p q t) = some (.int y, cS ((x :: ns).map D.int) p q t) := eBin_of (d2 := .int (-1)) (S2 := cS ((x :: ns).map D.int) p q t) get0 rfl hy
          exact sAsg_of (eBin_of (d1 := .int n) (S1 := cS ((x :: ns).map D.int) p q t) rfl (eBin_of (d1 := .int y) (d2 := .int 1000003) (S2 := cS ((x :: ns).map D.int) p q t) (eCB_of (aCons_of hx rfl) rfl) rfl (i_mod (by decide))) (i_add _ _)) rfl
      · rw [decide_eq_false c] at t2
        refine ⟨n, hn, by omega, sIf_f (S1 := cS ((x :: ns).map D.int) p q t) ?_ rfl⟩
        simp only [tAn, t1, Option.bind_some, if_true, t2]
  subst hS
  have k1 : D.mul (.int m) (.int 48271) = some (.int (m * 48271)) := i_mul (a := 64) (b := 64) (bd64 hm0 (by omega)) (by decide) (by decide) (by decide)
  have k2 : D.mul (.int t) (.int 69621) = some (.int (t * 69621)) := i_mul (a := 64) (b := 64) (bd64 ht (by omega)) (by decide) (by decide) (by decide)
  have e1 := Int.emod_nonneg (m * 48271 + t * 69621) (b := 2147483647) (by decide)
  have e2 := Int.emod_lt_of_pos (m * 48271 + t * 69621) (b := 2147483647) (by decide)
  have h5 : sAsg (eBin D.mod (eCB gInt (aCons (eBin D.add (eBin D.mul (bVar 1) (eC (.int 48271))) (eBin D.mul (eIxR (eVar 0) (eC (.int 3))) (eC (.int 69621)))) aNil)) (eC (.int 2147483647))) (gNm 1) [.sh (.ref 0), .sh (.int m)] (cS (ns.map D.int) p q t) = some (.nx [.sh (.ref 0), .sh (.int ((m * 48271 + t * 69621) % 2147483647))] (cS (ns.map D.int) p q t)) :=
    sAsg_of (eBin_of (d1 := .int (m * 48271 + t * 69621)) (d2 := .int 2147483647) (S2 := cS (ns.map D.int) p q t) (eCB_of (ds := [.int (m * 48271 + t * 69621)]) (S1 := cS (ns.map D.int) p q t) (aCons_of (S1 := cS (ns.map D.int) p q t) (eBin_of (S2 := cS (ns.map D.int) p q t) (eBin_of (d1 := .int m) (d2 := .int 48271) (S1 := cS (ns.map D.int) p q t) (S2 := cS (ns.map D.int) p q t) rfl rfl k1) (eBin_of (d2 := .int 69621) (S2 := cS (ns.map D.int) p q t) get3 rfl k2) (i_add _ _)) rfl) rfl) rfl (i_mod (by decide))) rfl
  generalize (m * 48271 + t * 69621) % 2147483647 = u at *
  have k3 : D.mul (.int u) (.int u) = some (.int (u * u)) := i_mul (a := 64) (b := 64) (bd64 e1 (by omega)) (bd64 e1 (by omega)) (by decide) (by decide)
  have k4 : D.mul (.int t) (.int 7919) = some (.int (t * 7919)) := i_mul (a := 64) (b := 64) (bd64 ht (by omega)) (by decide) (by decide) (by decide)
  have k5 : D.fdiv (.int (u * u + t * 7919 + 11)) (.int 64) = some (.int ((u * u + t * 7919 + 11) / 64)) := i_div (by decide) (bd_mono (j := 64) (by decide) (by decide))
  have uu : 0 ≤ u * u := Int.mul_nonneg e1 e1
  refine ⟨(u * u + t * 7919 + 11) / 64 + 36028797018963968, by omega, sSeq_of h4 (sSeq_of h5 (sRet_of ?_))⟩
  exact eBin_of (d1 := .int ((u * u + t * 7919 + 11) / 64)) (d2 := .int 36028797018963968) (S1 := cS (ns.map D.int) p q t) (S2 := cS (ns.map D.int) p q t) (eBin_of (d1 := .int (u * u + t * 7919 + 11)) (d2 := .int 64) (S1 := cS (ns.map D.int) p q t) (S2 := cS (ns.map D.int) p q t) (eCB_of (ds := [.int (u * u + t * 7919 + 11)]) (S1 := cS (ns.map D.int) p q t) (aCons_of (S1 := cS (ns.map D.int) p q t) (eBin_of (d1 := .int (u * u + t * 7919)) (d2 := .int 11) (S1 := cS (ns.map D.int) p q t) (S2 := cS (ns.map D.int) p q t) (eBin_of (d1 := .int (u * u)) (S1 := cS (ns.map D.int) p q t) (S2 := cS (ns.map D.int) p q t) (eBin_of (d1 := .int u) (d2 := .int u) (S1 := cS (ns.map D.int) p q t) (S2 := cS (ns.map D.int) p q t) rfl rfl k3) (eBin_of (d2 := .int 7919) (S2 := cS (ns.map D.int) p q t) get3 rfl k4) (i_add _ _)) rfl (i_add _ _)) rfl) rfl) rfl k5) rfl (i_add _ _)
/-- the counter is in order; m bounds how often it was filled -/
def Good (m : Nat) (S : Sto) : Prop := ∃ (ns : List Int) (p q t : Int), S = cS (ns.map D.int) p q t ∧ 0 ≤ p ∧ 0 ≤ q ∧ 0 ≤ t ∧ t ≤ m
theorem fill_s (ns : List Int) (p q t : Int) (hp : 0 ≤ p) (ht : 0 ≤ t) (ht2 : t ≤ 100000) : ∃ (r : Int) (p' : Int), 0 ≤ r ∧ 0 ≤ p' ∧ F__law_fill [.ref 0] (cS (ns.map D.int) p q t) = some (.int r, cS (ns.map D.int) p' q (t + 1)) := by
  have s1 : sSetR (eVar 0) (eBin D.add (eIxR (eVar 0) (eC (.int 3))) (eC (.int 1))) (eC (.int 3)) [.sh (.ref 0), .un] (cS (ns.map D.int) p q t) = some (.nx [.sh (.ref 0), .un] (cS (ns.map D.int) p q (t + 1))) := set3 (eBin_of (S2 := cS (ns.map D.int) p q t) get3 rfl (i_add _ _))
  have k1 : D.mul (.int (t + 1)) (.int 69621) = some (.int ((t + 1) * 69621)) := i_mul (a := 64) (b := 64) (bd64 (by omega) (by omega)) (by decide) (by decide) (by decide)
  have s2 : sAsg (eBin D.add (eBin D.mul (eIxR (eVar 0) (eC (.int 3))) (eC (.int 69621))) (eC (.int 12345))) (gNm 1) [.sh (.ref 0), .un] (cS (ns.map D.int) p q (t + 1)) = some (.nx [.sh (.ref 0), .sh (.int ((t + 1) * 69621 + 12345))] (cS (ns.map D.int) p q (t + 1))) :=
    sAsg_of (eBin_of (d2 := .int 12345) (S2 := cS (ns.map D.int) p q (t + 1)) (eBin_of (d2 := .int 69621) (S2 := cS (ns.map D.int) p q (t + 1)) get3 rfl k1) rfl (i_add _ _)) rfl
  have c3 : tBl (eBin D.lt (eIxR (eVar 0) (eC (.int 1))) (eCB gLen (aCons (eIxR (eVar 0) (eC (.int 0))) aNil))) [.sh (.ref 0), .sh (.int ((t + 1) * 69621 + 12345))] (cS (ns.map D.int) p q (t + 1)) = some (decide (p < (ns.map D.int).length), cS (ns.map D.int) p q (t + 1)) := tBl_of (eBin_of get1 len0 (i_lt _ _))
  unfold F__law_fill b__law_fill
  by_cases c : p < (ns.map D.int).length
  · rw [decide_eq_true c] at c3
    obtain ⟨j, rfl⟩ := Int.eq_ofNat_of_zero_le hp
    have hj : j < ns.length := by simpa using c
    have a : atI (ns.map D.int) (j : Int) = some (.int ns[j]) := by rw [atI_lt (by simpa using hj), List.getElem_map]
    have s3 : sAsg (eBin D.ix (eIxR (eVar 0) (eC (.int 0))) (eIxR (eVar 0) (eC (.int 1)))) (gNm 1) [.sh (.ref 0), .sh (.int ((t + 1) * 69621 + 12345))] (cS (ns.map D.int) j q (t + 1)) = some (.nx [.sh (.ref 0), .sh (.int ns[j])] (cS (ns.map D.int) j q (t + 1))) := sAsg_of (eBin_of get0 get1 a) rfl
    generalize ns[j] = x at s3
    have s4 : sSetR (eVar 0) (eBin D.add (eIxR (eVar 0) (eC (.int 1))) (eC (.int 1))) (eC (.int 1)) [.sh (.ref 0), .sh (.int x)] (cS (ns.map D.int) j q (t + 1)) = some (.nx [.sh (.ref 0), .sh (.int x)] (cS (ns.map D.int) (j + 1) q (t + 1))) := set1 (eBin_of (S2 := cS (ns.map D.int) j q (t + 1)) get1 rfl (i_add _ _))
    obtain ⟨y, hy0, s5⟩ : ∃ y : Int, 0 ≤ y ∧ sIf (tBl (eBin D.lt (bVar 1) (eC (.int 0)))) (sAsg (eBin D.sub (eBin D.sub (eC (.int 0)) (eC (.int 1))) (bVar 1)) (gNm 1)) sNx [.sh (.ref 0), .sh (.int x)] (cS (ns.map D.int) (j + 1) q (t + 1)) = some (.nx [.sh (.ref 0), .sh (.int y)] (cS (ns.map D.int) (j + 1) q (t + 1))) := by
      have t5 : tBl (eBin D.lt (bVar 1) (eC (.int 0))) [.sh (.ref 0), .sh (.int x)] (cS (ns.map D.int) (j + 1) q (t + 1)) = some (decide (x < 0), cS (ns.map D.int) (j + 1) q (t + 1)) := rfl
      by_cases hx : x < 0
      · rw [decide_eq_true hx] at t5
        exact ⟨0 - 1 - x, by omega, sIf_t t5 rfl⟩
      · rw [decide_eq_false hx] at t5
        exact ⟨x, by omega, sIf_f t5 rfl⟩
    have t6 : tBl (eBin D.ge (bVar 1) (eBin D.pow (eC (.int 10)) (eC (.int 18)))) [.sh (.ref 0), .sh (.int y)] (cS (ns.map D.int) (j + 1) q (t + 1)) = some (decide (1000000000000000000 ≤ y), cS (ns.map D.int) (j + 1) q (t + 1)) := tBl_of (eBin_of (d1 := .int y) (S1 := cS (ns.map D.int) (j + 1) q (t + 1)) (S2 := cS (ns.map D.int) (j + 1) q (t + 1)) rfl (eBin_of (d1 := .int 10) (d2 := .int 18) (S1 := cS (ns.map D.int) (j + 1) q (t + 1)) (S2 := cS (ns.map D.int) (j + 1) q (t + 1)) rfl rfl i_pow) (i_ge _ _))
    by_cases hy : 1000000000000000000 ≤ y
    · rw [decide_eq_true hy] at t6
      exact ⟨y, j + 1, hy0, by omega, fnD_rt (S' := cS (ns.map D.int) (j + 1) q (t + 1)) (sSeq_of s1 (sSeq_of s2 (sSeq_rt (sIf_t c3 (sSeq_of s3 (sSeq_of s4 (sSeq_of s5 (sIf_t t6 rfl)))))))) rfl⟩
    · rw [decide_eq_false hy] at t6
      obtain ⟨r, hr, ft⟩ := fill_tail ns (j + 1) q (t + 1) y hy0 (by omega) (by omega) (by omega)
      exact ⟨r, j + 1, hr, by omega, fnD_rt (S' := cS (ns.map D.int) (j + 1) q (t + 1)) (sSeq_of s1 (sSeq_of s2 (sSeq_of (S1 := cS (ns.map D.int) (j + 1) q (t + 1)) (sIf_t c3 (sSeq_of s3 (sSeq_of s4 (sSeq_of s5 (sIf_f t6 rfl))))) ft))) rfl⟩
  · rw [decide_eq_false c] at c3
    obtain ⟨r, hr, ft⟩ := fill_tail ns p q (t + 1) ((t + 1) * 69621 + 12345) (by omega) (by omega) (by omega) (by omega)
    exact ⟨r, p, hr, hp, fnD_rt (S' := cS (ns.map D.int) p q (t + 1)) (sSeq_of s1 (sSeq_of s2 (sSeq_of (S1 := cS (ns.map D.int) p q (t + 1)) (sIf_f c3 rfl) ft))) rfl⟩
theorem take_s {m : Nat} {S : Sto} (many : Int) (h : Good m S) (hm : m ≤ 50000) (h0 : 0 < many) (h1 : many ≤ 1000000) : ∃ (r : Nat) (S' : Sto), F__law_take [.ref 0, .int many] S = some (.int (r : Int), S') ∧ (r : Int) < many ∧ Good (m + 1) S' := by
  obtain ⟨ns, p, q, t, rfl, hp, hq, ht, htm⟩ := h
  have t1 : tBl (eBin D.lt (eIxR (eVar 0) (eC (.int 2))) (bVar 1)) [.sh (.ref 0), .sh (.int many), .un] (cS (ns.map D.int) p q t) = some (decide (q < many), cS (ns.map D.int) p q t) := tBl_of (eBin_of (d2 := .int many) (S2 := cS (ns.map D.int) p q t) get2 rfl (i_lt _ _))
  obtain ⟨p', q', t', hp', hq', ht', htm', s1⟩ : ∃ p' q' t' : Int, 0 ≤ p' ∧ 0 ≤ q' ∧ 0 ≤ t' ∧ t' ≤ ((m + 1 : Nat) : Int) ∧ sIf (tBl (eBin D.lt (eIxR (eVar 0) (eC (.int 2))) (bVar 1))) (sSetR (eVar 0) (eCall F__law_fill (aCons (eVar 0) aNil)) (eC (.int 2))) sNx [.sh (.ref 0), .sh (.int many), .un] (cS (ns.map D.int) p q t) = some (.nx [.sh (.ref 0), .sh (.int many), .un] (cS (ns.map D.int) p' q' t')) := by
    by_cases c : q < many
    · rw [decide_eq_true c] at t1
      obtain ⟨r, p', hr, hp', hf⟩ := fill_s ns p q t hp ht (by omega)
      exact ⟨p', r, t + 1, hp', hr, by omega, by omega, sIf_t t1 (set2 (eCall_of (S1 := cS (ns.map D.int) p q t) rfl hf))⟩
    · rw [decide_eq_false c] at t1
      exact ⟨p, q, t, hp, hq, ht, by omega, sIf_f t1 rfl⟩
  have e1 := Int.emod_nonneg q' (b := many) (by omega)
  have e2 := Int.emod_lt_of_pos q' h0
  have bm : many.natAbs < 2 ^ 8999 := bd_mono (j := 64) (by omega) (by decide)
  have s2 : sAsg (eBin D.mod (eCB gInt (aCons (eIxR (eVar 0) (eC (.int 2))) aNil)) (bVar 1)) (gNm 2) [.sh (.ref 0), .sh (.int many), .un] (cS (ns.map D.int) p' q' t') = some (.nx [.sh (.ref 0), .sh (.int many), .sh (.int (q' % many))] (cS (ns.map D.int) p' q' t')) :=
    sAsg_of (eBin_of (d2 := .int many) (S2 := cS (ns.map D.int) p' q' t') (eCB_of (aCons_of get2 rfl) rfl) rfl (i_mod h0)) rfl
  have s3 : sSetR (eVar 0) (eBin D.fdiv (eIxR (eVar 0) (eC (.int 2))) (bVar 1)) (eC (.int 2)) [.sh (.ref 0), .sh (.int many), .sh (.int (q' % many))] (cS (ns.map D.int) p' q' t') = some (.nx [.sh (.ref 0), .sh (.int many), .sh (.int (q' % many))] (cS (ns.map D.int) p' (q' / many) t')) :=
    set2 (eBin_of (d2 := .int many) (S2 := cS (ns.map D.int) p' q' t') get2 rfl (i_div h0 bm))
  obtain ⟨r, hr⟩ := Int.eq_ofNat_of_zero_le e1
  refine ⟨r, cS (ns.map D.int) p' (q' / many) t', ?_, by omega, ns, p', q' / many, t', rfl, hp', Int.ediv_nonneg hq' (Int.le_of_lt h0), ht', htm'⟩
  unfold F__law_take b__law_take
  rw [← hr]
  exact fnD_rt (S' := cS (ns.map D.int) p' (q' / many) t') (sSeq_of s1 (sSeq_of s2 (sSeq_of s3 rfl))) rfl
end K64

set_option Elab.async false
set_option linter.all false
set_option maxRecDepth 100000
namespace K64
open DL
open L2 (atI atI_nat ixN)
theorem ixN_lt {n j : Nat} (h : j < n) : ixN n (j : Int) = some j := by
  unfold ixN
  rw [if_pos (by omega), if_pos (by omega)]
  simp
theorem Good.len {m : Nat} {S : Sto} (h : Good m S) : S.length = 1 := by
  obtain ⟨ns, p, q, t, rfl, _⟩ := h; rfl
theorem Good.mono {m k : Nat} {S : Sto} (h : Good m S) (l : m ≤ k) : Good k S := by
  obtain ⟨ns, p, q, t, rfl, h1, h2, h3, h4⟩ := h
  exact ⟨ns, p, q, t, rfl, h1, h2, h3, by omega⟩
theorem start_s (ns : List Int) (S : Sto) : ∃ ns' : List Int, F__law_start [.scr ns] S = some (.lst [.lst (ns'.map D.int), .int 0, .int 0, .int 0, .int 20], S) := by
  refine ⟨(ns.drop (HT.sIx (ns.map D.int).length 0 none)).take (HT.sIx (ns.map D.int).length (ns.map D.int).length (some 63) - HT.sIx (ns.map D.int).length 0 none), ?_⟩
  have c : cutD (ns.map D.int) none (some 63) = ((ns.drop (HT.sIx (ns.map D.int).length 0 none)).take (HT.sIx (ns.map D.int).length (ns.map D.int).length (some 63) - HT.sIx (ns.map D.int).length 0 none)).map D.int := by
    unfold cutD
    rw [List.map_take, List.map_drop]
  generalize (ns.drop (HT.sIx (ns.map D.int).length 0 none)).take (HT.sIx (ns.map D.int).length (ns.map D.int).length (some 63) - HT.sIx (ns.map D.int).length 0 none) = ns' at *
  have cc := compF_all (g := gNm 1) (te := eCB gInt (aCons (bVar 1) aNil)) (ρ := [.sh (.scr ns), .un]) (S := S) D.int D.int ns' fun x _ => ⟨_, rfl, rfl⟩
  have sl : eSl D.slice (bVar 0) pNo (pIs (eC (.int 63))) [.sh (.scr ns), .un] S = some (.lst (ns'.map D.int), S) := by
    show ((D.slice (.scr ns) none (some 63)).map fun z => (z, S)) = _
    show (some (D.lst (cutD (ns.map D.int) none (some 63)))).map _ = _
    rw [c]; rfl
  have l : eLc (iSeq (eSl D.slice (bVar 0) pNo (pIs (eC (.int 63))))) (gNm 1) tYs (eCB gInt (aCons (bVar 1) aNil)) [1] [.sh (.scr ns), .un] S = some (.lst (ns'.map D.int), S) := eLc_of (iSeq_of sl rfl) cc
  have a : aCons (eLc (iSeq (eSl D.slice (bVar 0) pNo (pIs (eC (.int 63))))) (gNm 1) tYs (eCB gInt (aCons (bVar 1) aNil)) [1]) (aCons (eC (.int 0)) (aCons (eC (.int 0)) (aCons (eC (.int 0)) (aCons (eC (.int 20)) aNil)))) [.sh (.scr ns), .un] S = some ([.lst (ns'.map D.int), .int 0, .int 0, .int 0, .int 20], S) := aCons_of l rfl
  show b__law_start (rho0 2 [.scr ns]) S = _
  unfold b__law_start eLst
  have a' : aCons (eLc (iSeq (eSl D.slice (bVar 0) pNo (pIs (eC (.int 63))))) (gNm 1) tYs (eCB gInt (aCons (bVar 1) aNil)) [1]) (aCons (eC (.int 0)) (aCons (eC (.int 0)) (aCons (eC (.int 0)) (aCons (eC (.int 20)) aNil)))) (rho0 2 [.scr ns]) S = some ([.lst (ns'.map D.int), .int 0, .int 0, .int 0, .int 20], S) := a
  rw [a', Option.bind_some]
  rw [if_pos (by show 5 ≤ PySem.sizeLine; decide)]
theorem compF_st {α β : Type} {g : Tg} {te : Ex} {ρ : Rho} (enc : α → D) (R : β → D) (ok : β → Prop) (h : ∀ x m S, m ≤ 40000 → Good m S → ∃ ρ2 b S', g (enc x) ρ = some ρ2 ∧ te ρ2 S = some (R b, S') ∧ Good (m + 1) S' ∧ ok b) :
    ∀ (xs : List α) (m : Nat) (S : Sto), Good m S → m + xs.length ≤ 40000 → ∃ (bs : List β) (S' : Sto), compF g tYs te ρ (xs.map enc) S = some (bs.map R, S') ∧ Good (m + xs.length) S' ∧ bs.length = xs.length ∧ ∀ b ∈ bs, ok b
  | [], m, S, hS, _ => ⟨[], S, rfl, hS, rfl, fun b hb => by simp at hb⟩
  | x :: xs, m, S, hS, hm => by
    rw [List.length_cons] at hm
    obtain ⟨ρ2, b, S1, e1, e2, g1, o1⟩ := h x m S (by omega) hS
    obtain ⟨bs, S2, e3, g2, hl, o2⟩ := compF_st enc R ok h xs (m + 1) S1 g1 (by omega)
    refine ⟨b :: bs, S2, ?_, by rw [List.length_cons, show m + (xs.length + 1) = m + 1 + xs.length by omega]; exact g2, by rw [List.length_cons, List.length_cons, hl], fun c hc => ?_⟩
    · rw [List.map_cons]
      unfold compF
      rw [e1, Option.bind_some]
      show ((some (true, S) : Option (Bool × Sto))).bind _ = _
      rw [Option.bind_some, if_pos rfl, e2, Option.bind_some, e3]
      rfl
    · rcases List.mem_cons.mp hc with rfl | hc
      · exact o1
      · exact o2 c hc
theorem mem_le_sum {l : List Int} {x : Int} (hx : x ∈ l) (h : ∀ y ∈ l, 0 ≤ y) : x ≤ l.sum := by
  have := sub_sum (l := [x]) (m := l) (List.singleton_sublist.mpr hx) h
  simpa using this
theorem sum_le {k : Int} (hk : 0 ≤ k) : ∀ {l : List Int}, (∀ y ∈ l, y ≤ k) → l.sum ≤ k * l.length
  | [], _ => by simp
  | x :: l, h => by
    have := h x List.mem_cons_self
    have := sum_le hk (l := l) fun y hy => h y (List.mem_cons_of_mem _ hy)
    rw [List.sum_cons, List.length_cons]
    push_cast
    rw [Int.mul_add, Int.mul_one]
    omega
def tabB : Stm := (sSeq (sAsg (eCall F__law_divisor (aCons (eVar 6) (aCons (eVar 4) aNil))) (gNm 7))
    (sMut gAppend 5 (aCons (eTup (aCons (eBin D.fdiv (bVar 6) (bVar 7)) (aCons (eBin D.fdiv (bVar 4) (bVar 7)) aNil))) aNil)))
theorem tab_loop (S : Sto) (W : Int) (hW : 0 < W) (hW2 : W.natAbs < 2 ^ 8999) (r0 r1 r2 r3 u8 u9 : Sl) : ∀ (suf pre : List Int) (z w : Sl), (∀ x ∈ suf, 0 ≤ x) → pre.length + suf.length ≤ 1000 →
    ∃ z' w', forF (gNm 6) tabB (suf.map D.int) [r0, r1, r2, r3, .sh (.int W), .ow (.lst ((pre.map fun x => nf x W).map frD)), z, w, u8, u9] S = some (.nx [r0, r1, r2, r3, .sh (.int W), .ow (.lst (((pre ++ suf).map fun x => nf x W).map frD)), z', w', u8, u9] S) := by
  intro suf
  induction suf with
  | nil => intro pre z w _ _; rw [List.append_nil]; exact ⟨z, w, rfl⟩
  | cons x suf ih =>
    intro pre z w hx hl
    rw [List.length_cons] at hl
    obtain ⟨z', w', hz⟩ := ih (pre ++ [x]) (.sh (.int x)) (.sh (.int (Nat.gcd x.natAbs W.natAbs : Int))) (fun y hy => hx y (List.mem_cons_of_mem _ hy)) (by rw [List.length_append, List.length_singleton]; omega)
    refine ⟨z', w', ?_⟩
    have dv := divisor_s x W S (hx x List.mem_cons_self) (Int.le_of_lt hW) hW2
    have o : okDiv (Nat.gcd x.natAbs W.natAbs : Int) = true := okDiv_t (gcd_pos hW) (by have := gcd_le (a := x) hW; omega)
    have s1 : sAsg (eCall F__law_divisor (aCons (eVar 6) (aCons (eVar 4) aNil))) (gNm 7) [r0, r1, r2, r3, .sh (.int W), .ow (.lst ((pre.map fun x => nf x W).map frD)), .sh (.int x), w, u8, u9] S = some (.nx [r0, r1, r2, r3, .sh (.int W), .ow (.lst ((pre.map fun x => nf x W).map frD)), .sh (.int x), .sh (.int (Nat.gcd x.natAbs W.natAbs : Int)), u8, u9] S) := sAsg_of (eCall_of (S1 := S) rfl dv) rfl
    have e2 : ((pre ++ [x]).map fun x => nf x W).map frD = (pre.map fun x => nf x W).map frD ++ [frD (nf x W)] := by simp
    have len : ((pre.map fun x => nf x W).map frD).length < PySem.sizeLine := Nat.lt_of_lt_of_le (by rw [List.length_map, List.length_map]; omega) (szle (n := 1001) (by decide))
    have a1 : aCons (eTup (aCons (eBin D.fdiv (bVar 6) (bVar 7)) (aCons (eBin D.fdiv (bVar 4) (bVar 7)) aNil))) aNil [r0, r1, r2, r3, .sh (.int W), .ow (.lst ((pre.map fun x => nf x W).map frD)), .sh (.int x), .sh (.int (Nat.gcd x.natAbs W.natAbs : Int)), u8, u9] S = some ([frD (nf x W)], S) := by
      unfold frD nf
      simp only [fnD, fnE, fnOut, rho0, eVar, bVar, Sl.rd, eC, eBin, eTup, eLst, aNil, aCons, eCB, eCall, tTru, tBl, tAn, DL.tOr, tNo, eAn, DL.eOr, eNo, eIf, eIxR, eSl, pNo, pIs, iSeq, iZp, gNm, gTp, gsNil, gsCons, sNx, sBk, sCt, sSeq, Out.seq, sIf, sAsg, sOwn, sPar, sPar3, sRet, sFz, sPub, sSetR, sSetIx, sMut, sDrop, sFor, eLc, tYs, wipeR, D.elems, D.truth, D.add, D.sub, D.mul, D.fdiv, D.mod, D.pow, D.lt, D.le, D.gt, D.ge, D.isN, D.notN, D.ix, D.cat, liftI, Option.bind_some, Option.bind_none, Option.map_some, Option.map_none, List.map_cons, List.map_nil, List.length_cons, List.length_nil, List.cons_append, List.nil_append, List.replicate, List.set_cons_zero, List.set_cons_succ, List.getElem?_cons_zero, List.getElem?_cons_succ, Nat.reduceAdd, Nat.reduceSub, Nat.reduceLeDiff, if_true, if_false, ↓reduceIte, List.isEmpty_nil, List.isEmpty_cons, Bool.not_true, Bool.not_false, Bool.false_eq_true, decide_true, decide_false, decide_eq_true_eq, o, sz2]
    have s2 : sMut gAppend 5 (aCons (eTup (aCons (eBin D.fdiv (bVar 6) (bVar 7)) (aCons (eBin D.fdiv (bVar 4) (bVar 7)) aNil))) aNil) [r0, r1, r2, r3, .sh (.int W), .ow (.lst ((pre.map fun x => nf x W).map frD)), .sh (.int x), .sh (.int (Nat.gcd x.natAbs W.natAbs : Int)), u8, u9] S = some (.nx [r0, r1, r2, r3, .sh (.int W), .ow (.lst (((pre ++ [x]).map fun x => nf x W).map frD)), .sh (.int x), .sh (.int (Nat.gcd x.natAbs W.natAbs : Int)), u8, u9] S) := by
      rw [e2]
      unfold sMut
      rw [a1]
      simp only [List.getElem?_cons_zero, List.getElem?_cons_succ, Option.bind_some, gAppend, len, if_true, Option.map_some, List.set_cons_zero, List.set_cons_succ]
    rw [List.map_cons, forF_step (g := gNm 6) (b := tabB) (ρ1 := [r0, r1, r2, r3, .sh (.int W), .ow (.lst ((pre.map fun x => nf x W).map frD)), .sh (.int x), w, u8, u9]) (S2 := S) rfl (sSeq_of s1 s2), show pre ++ x :: suf = (pre ++ [x]) ++ suf by simp]
    exact hz
theorem world_s {m : Nat} {S : Sto} (h : Good m S) (hm : m ≤ 1000) : ∃ (s : List Nat) (ws : List Int) (S' : Sto), F__law_world [.ref 0] S = some (toldD s ws, S') ∧ Wo s ws ∧ (3 ≤ s.length ∧ s.length ≤ 4) ∧ (∀ n ∈ s, 2 ≤ n ∧ n ≤ 3) ∧ Good 3000 S' := by
  obtain ⟨r, S1, t1, hr, g1⟩ := take_s 2 h (by omega) (by decide) (by decide)
  have c1 := compF_st (g := gNm 8) (te := eBin D.add (eC (.int 2)) (eCB gInt (aCons (eBin D.eq (eCall F__law_take (aCons (eVar 0) (aCons (eC (.int 4)) aNil))) (eC (.int 0))) aNil))) (ρ := [.sh (.ref 0), .un, .un, .un, .un, .un, .un, .un, .un, .un]) (fun (i : Nat) => D.int (i : Int)) (fun (n : Nat) => D.int (n : Int)) (fun n => 2 ≤ n ∧ n ≤ 3) fun x m S hm hS => by
    obtain ⟨r, S', t, hr, g⟩ := take_s 4 hS (by omega) (by decide) (by decide)
    have e : eBin D.eq (eCall F__law_take (aCons (eVar 0) (aCons (eC (.int 4)) aNil))) (eC (.int 0)) [.sh (.ref 0), .un, .un, .un, .un, .un, .un, .un, .sh (.int (x : Int)), .un] S = some (.bl (decide ((r : Int) = 0)), S') := eBin_of (d2 := .int 0) (S2 := S') (eCall_of (S1 := S) rfl t) rfl (eq_int _ _)
    refine ⟨_, if r = 0 then 3 else 2, S', rfl, eBin_of (d1 := .int 2) (d2 := .int (if decide ((r : Int) = 0) = true then 1 else 0)) (S1 := S) (S2 := S') rfl (eCB_of (aCons_of e rfl) rfl) ?_, g, by split <;> omega⟩
    rw [i_add]
    by_cases c : r = 0
    · subst c; rfl
    · have : decide ((r : Int) = 0) = false := decide_eq_false (by omega)
      rw [this, if_neg c]; rfl
  obtain ⟨s, S2, e1, g2, hl, hs⟩ := c1 (List.range (3 + r)) (m + 1) S1 g1 (by simp; omega)
  rw [List.length_range] at hl g2
  have sm : Small [[]] s := ⟨fun n hn => (hs n hn).2, by
    rw [hl]
    have : r = 0 ∨ r = 1 := by omega
    rcases this with rfl | rfl <;> decide, fun q hq => by simp at hq; subst hq; rw [List.length_nil, hl]; omega⟩
  have st1 : sAsg (eCB gTuple (aCons (eLc (iRng (aCons (eBin D.add (eC (.int 3)) (eCall F__law_take (aCons (eVar 0) (aCons (eC (.int 2)) aNil)))) aNil)) (gNm 8) tYs (eBin D.add (eC (.int 2)) (eCB gInt (aCons (eBin D.eq (eCall F__law_take (aCons (eVar 0) (aCons (eC (.int 4)) aNil))) (eC (.int 0))) aNil))) [8]) aNil)) (gNm 1) (rho0 10 [.ref 0]) S = some (.nx [.sh (.ref 0), .sh (szD s), .un, .un, .un, .un, .un, .un, .un, .un] S2) :=
    sAsg_of (eCB_of (ds := [.lst (s.map fun (n : Nat) => D.int (n : Int))]) (S1 := S2) (aCons_of (eLc_of (xs := (List.range (3 + r)).map fun (i : Nat) => D.int (i : Int)) (S1 := S1) (iRng_of (ds := [.int ((3 + r : Nat) : Int)]) (S1 := S1) (aCons_of (eBin_of (d1 := .int 3) (d2 := .int (r : Int)) (S1 := S) (S2 := S1) rfl (eCall_of (S1 := S) rfl t1) (by rw [i_add]; congr 2)) rfl) (rangeOf_nat (by omega))) e1) rfl) rfl) rfl
  have rs := law_rows_s (szD s) s S2 rfl sm
  have st2 : sAsg (eCall F__law_rows (aCons (eVar 1) aNil)) (gNm 2) [.sh (.ref 0), .sh (szD s), .un, .un, .un, .un, .un, .un, .un, .un] S2 = some (.nx [.sh (.ref 0), .sh (szD s), .sh (.lst ((rowsM [[]] s).map rowD)), .un, .un, .un, .un, .un, .un, .un] S2) := sAsg_of (eCall_of (S1 := S2) rfl rs) rfl
  have hrows := rowsM_len sm
  have c2 := compF_st (g := gNm 9) (te := eCB gMax2 (aCons (eC (.int 0)) (aCons (eBin D.sub (eCall F__law_take (aCons (eVar 0) (aCons (eC (.int 9)) aNil))) (eC (.int 2))) aNil))) (ρ := [.sh (.ref 0), .sh (szD s), .sh (.lst ((rowsM [[]] s).map rowD)), .un, .un, .un, .un, .un, .un, .un]) rowD D.int (fun w => 0 ≤ w ∧ w ≤ 6) fun x m S hm hS => by
    obtain ⟨r, S', t, hr, g⟩ := take_s 9 hS (by omega) (by decide) (by decide)
    refine ⟨_, (if (r : Int) - 2 > 0 then (r : Int) - 2 else 0), S', rfl, eCB_of (ds := [.int 0, .int ((r : Int) - 2)]) (S1 := S') (aCons_of (S1 := S) rfl (aCons_of (S1 := S') (eBin_of (d1 := .int (r : Int)) (d2 := .int 2) (S1 := S') (S2 := S') (eCall_of (S1 := S) rfl t) rfl (i_sub _ _)) rfl)) rfl, g, by split <;> omega⟩
  obtain ⟨ws0, S3, e2, g3, hl2, hw⟩ := c2 (rowsM [[]] s) (m + 1 + (3 + r)) S2 g2 (by omega)
  have st3 : sOwn (eLc (iSeq (bVar 2)) (gNm 9) tYs (eCB gMax2 (aCons (eC (.int 0)) (aCons (eBin D.sub (eCall F__law_take (aCons (eVar 0) (aCons (eC (.int 9)) aNil))) (eC (.int 2))) aNil))) [9]) 3 [.sh (.ref 0), .sh (szD s), .sh (.lst ((rowsM [[]] s).map rowD)), .un, .un, .un, .un, .un, .un, .un] S2 = some (.nx [.sh (.ref 0), .sh (szD s), .sh (.lst ((rowsM [[]] s).map rowD)), .ow (.lst (ws0.map D.int)), .un, .un, .un, .un, .un, .un] S3) := by
    unfold sOwn
    rw [eLc_of (xs := (rowsM [[]] s).map rowD) (S1 := S2) rfl e2]
    rfl
  have hpos : 0 < (rowsM [[]] s).length := by
    have : ∀ (s : List Nat) (f : List (List Int)), (∀ n ∈ s, 2 ≤ n) → 0 < f.length → 0 < (rowsM f s).length := fun s => by
      induction s with
      | nil => intro f _ h; exact h
      | cons n s ih =>
        intro f h hf
        refine ih _ (fun k hk => h k (List.mem_cons_of_mem _ hk)) ?_
        cases f with
        | nil => simp at hf
        | cons r f =>
          rw [List.flatMap_cons, List.length_append]
          have := h n List.mem_cons_self
          unfold rowsStep
          simp
          omega
    exact this s [[]] (fun n hn => (hs n hn).1) (by decide)
  obtain ⟨j, S4, t4, hj, g4⟩ := take_s ((rowsM [[]] s).length : Int) g3 (by omega) (by omega) (by omega)
  have hj' : j < (rowsM [[]] s).length := by omega
  have st4 : sSetIx 3 (eC (.int 3)) (eCall F__law_take (aCons (eVar 0) (aCons (eCB gLen (aCons (bVar 2) aNil)) aNil))) [.sh (.ref 0), .sh (szD s), .sh (.lst ((rowsM [[]] s).map rowD)), .ow (.lst (ws0.map D.int)), .un, .un, .un, .un, .un, .un] S3 = some (.nx [.sh (.ref 0), .sh (szD s), .sh (.lst ((rowsM [[]] s).map rowD)), .ow (.lst ((ws0.set j 3).map D.int)), .un, .un, .un, .un, .un, .un] S4) := by
    have tk : eCall F__law_take (aCons (eVar 0) (aCons (eCB gLen (aCons (bVar 2) aNil)) aNil)) [.sh (.ref 0), .sh (szD s), .sh (.lst ((rowsM [[]] s).map rowD)), .ow (.lst (ws0.map D.int)), .un, .un, .un, .un, .un, .un] S3 = some (.int (j : Int), S4) := eCall_of (ds := [.ref 0, .int ((rowsM [[]] s).length : Int)]) (S1 := S3) (aCons_of (S1 := S3) rfl (aCons_of (S1 := S3) (eCB_of (ds := [.lst ((rowsM [[]] s).map rowD)]) rfl (by simp only [gLen, List.length_map])) rfl)) t4
    have ix : ixN (ws0.map D.int).length (j : Int) = some j := ixN_lt (by rw [List.length_map, hl2]; exact hj')
    unfold sSetIx
    simp only [eC, Option.bind_some, List.getElem?_cons_zero, List.getElem?_cons_succ, tk, ix, Option.map_some, List.set_cons_zero, List.set_cons_succ, List.map_set]
  let ws := ws0.set j 3
  have wl : ws.length = (rowsM [[]] s).length := by show (ws0.set j 3).length = _; rw [List.length_set, hl2]
  have wok : ∀ w ∈ ws, 0 ≤ w ∧ w ≤ 6 := fun w hm => by
    rcases List.mem_or_eq_of_mem_set hm with h | h
    · exact hw w h
    · subst h; decide
  have w3 : (3 : Int) ∈ ws := List.mem_set (by rw [hl2]; exact hj') _
  have wo : Wo s ws := ⟨sm, wl, fun w hm => (wok w hm).1, by have := mem_le_sum w3 fun y hy => (wok y hy).1; omega, by
    have := sum_le (k := 6) (by decide) fun y hy => (wok y hy).2
    have h2 : ws.length ≤ 1000 := by rw [wl]; exact hrows
    omega⟩
  have st5 : sAsg (eCB gSum (aCons (bVar 3) aNil)) (gNm 4) [.sh (.ref 0), .sh (szD s), .sh (.lst ((rowsM [[]] s).map rowD)), .sh (.lst (ws.map D.int)), .un, .un, .un, .un, .un, .un] S4 = some (.nx [.sh (.ref 0), .sh (szD s), .sh (.lst ((rowsM [[]] s).map rowD)), .sh (.lst (ws.map D.int)), .sh (.int ws.sum), .un, .un, .un, .un, .un] S4) := sAsg_of (eCB_of (ds := [.lst (ws.map D.int)]) (S1 := S4) rfl (wsum_t (s := s))) rfl
  have st6 : sOwn (eLst aNil) 5 [.sh (.ref 0), .sh (szD s), .sh (.lst ((rowsM [[]] s).map rowD)), .sh (.lst (ws.map D.int)), .sh (.int ws.sum), .un, .un, .un, .un, .un] S4 = some (.nx [.sh (.ref 0), .sh (szD s), .sh (.lst ((rowsM [[]] s).map rowD)), .sh (.lst (ws.map D.int)), .sh (.int ws.sum), .ow (.lst []), .un, .un, .un, .un] S4) := by
    simp only [fnD, fnE, fnOut, rho0, eVar, bVar, Sl.rd, eC, eBin, eTup, eLst, aNil, aCons, eCB, eCall, tTru, tBl, tAn, DL.tOr, tNo, eAn, DL.eOr, eNo, eIf, eIxR, eSl, pNo, pIs, iSeq, iZp, gNm, gTp, gsNil, gsCons, sNx, sBk, sCt, sSeq, Out.seq, sIf, sAsg, sOwn, sPar, sPar3, sRet, sFz, sPub, sSetR, sSetIx, sMut, sDrop, sFor, eLc, tYs, wipeR, D.elems, D.truth, D.add, D.sub, D.mul, D.fdiv, D.mod, D.pow, D.lt, D.le, D.gt, D.ge, D.isN, D.notN, D.ix, D.cat, liftI, Option.bind_some, Option.bind_none, Option.map_some, Option.map_none, List.map_cons, List.map_nil, List.length_cons, List.length_nil, List.cons_append, List.nil_append, List.replicate, List.set_cons_zero, List.set_cons_succ, List.getElem?_cons_zero, List.getElem?_cons_succ, Nat.reduceAdd, Nat.reduceSub, Nat.reduceLeDiff, if_true, if_false, ↓reduceIte, List.isEmpty_nil, List.isEmpty_cons, Bool.not_true, Bool.not_false, Bool.false_eq_true, decide_true, decide_false, decide_eq_true_eq, sz0]
  obtain ⟨z', w', tl⟩ := tab_loop S4 ws.sum wo.pos (bd_mono wo.sum_bd (by decide)) (.sh (.ref 0)) (.sh (szD s)) (.sh (.lst ((rowsM [[]] s).map rowD))) (.sh (.lst (ws.map D.int))) .un .un ws [] .un .un (fun x hx => (wok x hx).1) (by simp; omega)
  have fin : sFz 5 (sRet (eTup (aCons (eVar 1) (aCons (eVar 2) (aCons (eVar 3) (aCons (eTup (aCons (eVar 1) (aCons (eCB gTuple (aCons (bVar 5) aNil)) aNil))) aNil)))))) [.sh (.ref 0), .sh (szD s), .sh (.lst ((rowsM [[]] s).map rowD)), .sh (.lst (ws.map D.int)), .sh (.int ws.sum), .ow (.lst ((ws.map fun x => nf x ws.sum).map frD)), z', w', .un, .un] S4 = some (.rt (toldD s ws) S4) := by
    unfold toldD worldD tabM
    simp only [fnD, fnE, fnOut, rho0, eVar, bVar, Sl.rd, eC, eBin, eTup, eLst, aNil, aCons, eCB, eCall, tTru, tBl, tAn, DL.tOr, tNo, eAn, DL.eOr, eNo, eIf, eIxR, eSl, pNo, pIs, iSeq, iZp, gNm, gTp, gsNil, gsCons, sNx, sBk, sCt, sSeq, Out.seq, sIf, sAsg, sOwn, sPar, sPar3, sRet, sFz, sPub, sSetR, sSetIx, sMut, sDrop, sFor, eLc, tYs, wipeR, D.elems, D.truth, D.add, D.sub, D.mul, D.fdiv, D.mod, D.pow, D.lt, D.le, D.gt, D.ge, D.isN, D.notN, D.ix, D.cat, liftI, Option.bind_some, Option.bind_none, Option.map_some, Option.map_none, List.map_cons, List.map_nil, List.length_cons, List.length_nil, List.cons_append, List.nil_append, List.replicate, List.set_cons_zero, List.set_cons_succ, List.getElem?_cons_zero, List.getElem?_cons_succ, Nat.reduceAdd, Nat.reduceSub, Nat.reduceLeDiff, if_true, if_false, ↓reduceIte, List.isEmpty_nil, List.isEmpty_cons, Bool.not_true, Bool.not_false, Bool.false_eq_true, decide_true, decide_false, decide_eq_true_eq, gTuple, sz2, sz4]
  refine ⟨s, ws, S4, ?_, wo, by omega, hs, g4.mono (by omega)⟩
  unfold F__law_world b__law_world
  refine fnD_rt (S' := S4) (sSeq_of st1 (sSeq_of st2 (sSeq_of st3 (sSeq_of st4 ?_)))) (by rw [g4.len, h.len])
  show sSeq _ _ [.sh (.ref 0), .sh (szD s), .sh (.lst ((rowsM [[]] s).map rowD)), .sh (.lst (ws.map D.int)), .un, .un, .un, .un, .un, .un] S4 = _
  exact sSeq_of st5 (sSeq_of st6 (sSeq_of (sFor_of (xs := ws.map D.int) (S1 := S4) rfl tl) fin))
end K64

set_option Elab.async false
set_option linter.all false
set_option maxRecDepth 100000
namespace K64
open DL
open L2 (atI atI_nat ixN)
theorem eq_fr (p : Int × Int) : D.eq (frD p) (frD p) = some (.bl true) := by
  have e : ((frD p).fit 60 && (frD p).fit 60) = true := by simp [frD, D.fit, D.fits]
  unfold D.eq
  rw [if_pos e]
  simp [frD, D.eqv, D.toP, D.toPs, PySem.PyData.eqv, PySem.PyData.eqvAll]
theorem isi_tup (p : Int × Int) : gIsi [frD p, .ty "tuple"] = some (.bl true) := by
  unfold frD gIsi D.isA
  have : L2.kitB "tuple" "tuple" = some true := by decide +kernel
  simp only [this, Option.map_some]
theorem isi_bool (i : Int) : gIsi [.int i, .ty "bool"] = some (.bl false) := by
  unfold gIsi D.isA
  have : L2.kitB "int" "bool" = some false := by decide +kernel
  simp only [this, Option.map_some]
theorem same_s (o : Option (Int × Int)) (S : Sto) : F__law_same [optD o, optD o] S = some (.bl true, S) := by
  unfold F__law_same b__law_same
  cases o with
  | none =>
    exact fnD_rt (S' := S) (sSeq_rt (sIf_t (S1 := S) (tBl_of (eBin_of (d1 := .non) (d2 := .non) (S1 := S) (S2 := S) rfl rfl isN_no)) (sRet_of (eBin_of (d1 := .non) (d2 := .non) (S1 := S) (S2 := S) rfl rfl isN_no)))) rfl
  | some p =>
    refine fnD_rt (S' := S) (sSeq_of (S1 := S) (ρ' := [.sh (frD p), .sh (frD p)]) (sIf_f (S1 := S) (tBl_of (eBin_of (d1 := frD p) (d2 := .non) (S1 := S) (S2 := S) rfl rfl (isN_fr p))) rfl) (sRet_of ?_)) rfl
    have e1 := isi_tup p
    have e2 := isi_bool p.1
    have e3 := eq_fr p
    have e0 : D.ix (frD p) (.int 0) = some (.int p.1) := at0 _ _
    have el : gLen [frD p] = some (.int 2) := rfl
    have e4 : eBin D.ix (bVar 0) (eC (.int 0)) [.sh (frD p), .sh (frD p)] S = some (.int p.1, S) := eBin_of (d1 := frD p) (d2 := .int 0) (S1 := S) (S2 := S) rfl rfl e0
    have e5 : eBin D.eq (eCB gLen (aCons (bVar 0) aNil)) (eC (.int 2)) [.sh (frD p), .sh (frD p)] S = some (.bl true, S) := eBin_of (d1 := .int 2) (d2 := .int 2) (S1 := S) (S2 := S) (eCB_of (ds := [frD p]) rfl el) rfl (by rw [eq_int]; rfl)
    have e6 : eBin D.eq (bVar 0) (bVar 1) [.sh (frD p), .sh (frD p)] S = some (.bl true, S) := eBin_of (d1 := frD p) (d2 := frD p) (S1 := S) (S2 := S) rfl rfl e3
    have e7 : eCB gIsi (aCons (bVar 0) (aCons (eC (.ty "tuple")) aNil)) [.sh (frD p), .sh (frD p)] S = some (.bl true, S) := eCB_of (ds := [frD p, .ty "tuple"]) rfl e1
    have e8 : eCB gIsi (aCons (eBin D.ix (bVar 0) (eC (.int 0))) (aCons (eC (.ty "bool")) aNil)) [.sh (frD p), .sh (frD p)] S = some (.bl false, S) := eCB_of (ds := [.int p.1, .ty "bool"]) (aCons_of (S1 := S) e4 rfl) e2
    have e9 : eNo (eCB gIsi (aCons (eBin D.ix (bVar 0) (eC (.int 0))) (aCons (eC (.ty "bool")) aNil))) [.sh (frD p), .sh (frD p)] S = some (.bl true, S) := by
      unfold eNo
      rw [e8]; rfl
    have a1 : eAn (eNo (eCB gIsi (aCons (eBin D.ix (bVar 0) (eC (.int 0))) (aCons (eC (.ty "bool")) aNil)))) (eBin D.eq (bVar 0) (bVar 1)) [.sh (frD p), .sh (frD p)] S = some (.bl true, S) := by
      unfold eAn
      rw [e9]
      exact e6
    have a2 : eAn (eBin D.eq (eCB gLen (aCons (bVar 0) aNil)) (eC (.int 2))) (eAn (eNo (eCB gIsi (aCons (eBin D.ix (bVar 0) (eC (.int 0))) (aCons (eC (.ty "bool")) aNil)))) (eBin D.eq (bVar 0) (bVar 1))) [.sh (frD p), .sh (frD p)] S = some (.bl true, S) := by
      unfold eAn at a1 ⊢
      rw [e5]
      exact a1
    unfold eAn at a2 ⊢
    rw [e7]
    exact a2
/-! the order of the variables -/
structure Ord (v : Nat) (o : List Nat) : Prop where
  len : o.length = v
  nd : o.Nodup
  lt : ∀ x ∈ o, x < v
theorem Ord.next {v r : Nat} {o : List Nat} (h : Ord v o) : Ord (v + 1) (o.take r ++ [v] ++ o.drop r) := by
  have pm : (o.take r ++ [v] ++ o.drop r).Perm (v :: o) := by
    have e : v :: o = v :: (o.take r ++ o.drop r) := by rw [List.take_append_drop]
    rw [e, List.append_assoc]
    exact List.perm_middle
  have nv : v ∉ o := fun m => Nat.lt_irrefl _ (h.lt v m)
  refine ⟨by rw [pm.length_eq, List.length_cons, h.len], pm.nodup_iff.mpr (List.nodup_cons.mpr ⟨nv, h.nd⟩), fun x hx => ?_⟩
  rcases List.mem_cons.mp (pm.mem_iff.mp hx) with rfl | hx
  · omega
  · have := h.lt x hx; omega
theorem ord_loop (r0 r2 r3 r4 r5 u8 u9 u10 u11 u12 : Sl) : ∀ (k v : Nat) (o : List Nat) (m : Nat) (S : Sto) (z : Sl), Ord v o → v + k ≤ 100 → Good m S → m + k ≤ 40000 → ∃ (o' : List Nat) (S' : Sto) (z' : Sl), forF (gNm 7) (sMut gInsert 6 (aCons (eCall F__law_take (aCons (eVar 1) (aCons (eBin D.add (bVar 7) (eC (.int 1))) aNil))) (aCons (eVar 7) aNil))) ((List.range' v k).map fun (i : Nat) => D.int (i : Int))
      [r0, .sh (.ref 0), r2, r3, r4, r5, .ow (.lst (o.map fun (i : Nat) => D.int (i : Int))), z, u8, u9, u10, u11, u12] S = some (.nx [r0, .sh (.ref 0), r2, r3, r4, r5, .ow (.lst (o'.map fun (i : Nat) => D.int (i : Int))), z', u8, u9, u10, u11, u12] S') ∧ Ord (v + k) o' ∧ Good (m + k) S' := by
  intro k
  induction k with
  | zero => intro v o m S z ho _ hS _; exact ⟨o, S, z, rfl, ho, hS⟩
  | succ k ih =>
    intro v o m S z ho hv hS hm
    obtain ⟨r, S1, t, hr, g⟩ := take_s ((v : Int) + 1) hS (by omega) (by omega) (by omega)
    obtain ⟨o', S', z', hz, ho', hg⟩ := ih (v + 1) (o.take r ++ [v] ++ o.drop r) (m + 1) S1 (.sh (.int (v : Int))) ho.next (by omega) g (by omega)
    refine ⟨o', S', z', ?_, by rw [show v + (k + 1) = v + 1 + k by omega]; exact ho', hg.mono (by omega)⟩
    have a : aCons (eCall F__law_take (aCons (eVar 1) (aCons (eBin D.add (bVar 7) (eC (.int 1))) aNil))) (aCons (eVar 7) aNil) [r0, .sh (.ref 0), r2, r3, r4, r5, .ow (.lst (o.map fun (i : Nat) => D.int (i : Int))), .sh (.int (v : Int)), u8, u9, u10, u11, u12] S = some ([.int (r : Int), .int (v : Int)], S1) :=
      aCons_of (eCall_of (ds := [.ref 0, .int ((v : Int) + 1)]) (S1 := S) rfl t) rfl
    have c : (o.map fun (i : Nat) => D.int (i : Int)).length < PySem.sizeLine ∧ (0 : Int) ≤ (r : Int) ∧ (r : Int) < 2 ^ 63 := ⟨Nat.lt_of_lt_of_le (by rw [List.length_map, ho.len]; omega) (szle (n := 1000) (by decide)), by omega, by omega⟩
    have e : (o.take r ++ [v] ++ o.drop r).map (fun (i : Nat) => D.int (i : Int)) = (o.map fun (i : Nat) => D.int (i : Int)).take r ++ [D.int (v : Int)] ++ (o.map fun (i : Nat) => D.int (i : Int)).drop r := by simp
    have st : sMut gInsert 6 (aCons (eCall F__law_take (aCons (eVar 1) (aCons (eBin D.add (bVar 7) (eC (.int 1))) aNil))) (aCons (eVar 7) aNil)) [r0, .sh (.ref 0), r2, r3, r4, r5, .ow (.lst (o.map fun (i : Nat) => D.int (i : Int))), .sh (.int (v : Int)), u8, u9, u10, u11, u12] S =
        some (.nx [r0, .sh (.ref 0), r2, r3, r4, r5, .ow (.lst ((o.take r ++ [v] ++ o.drop r).map fun (i : Nat) => D.int (i : Int))), .sh (.int (v : Int)), u8, u9, u10, u11, u12] S1) := by
      rw [e]
      unfold sMut
      simp only [List.getElem?_cons_zero, List.getElem?_cons_succ, a, Option.bind_some, gInsert, if_pos c, Option.map_some, List.set_cons_zero, List.set_cons_succ, Int.toNat_natCast]
    rw [List.range'_succ, List.map_cons, forF_step (g := gNm 7) (ρ1 := [r0, .sh (.ref 0), r2, r3, r4, r5, .ow (.lst (o.map fun (i : Nat) => D.int (i : Int))), .sh (.int (v : Int)), u8, u9, u10, u11, u12]) rfl st]
    exact hz
/-! sorted variables -/
def sortN (l : List Nat) : List Nat := l.mergeSort fun a b => D.le' (.int (a : Int)) (.int (b : Int))
theorem canSort_nat (l : List Nat) : canSort (l.map fun (i : Nat) => D.int (i : Int)) = true := by
  unfold canSort
  simp only [List.all_map, Bool.and_eq_true, Bool.or_eq_true, List.all_eq_true, Function.comp]
  exact ⟨⟨fun x _ => rfl, fun x _ y _ => rfl⟩, .inr fun x _ => rfl⟩
theorem sorted_nat (l : List Nat) : gSorted [.lst (l.map fun (i : Nat) => D.int (i : Int))] = some (.lst ((sortN l).map fun (i : Nat) => D.int (i : Int))) := by
  unfold gSorted sortN
  simp only [canSort_nat, if_true]
  rw [List.map_mergeSort (s := D.le') (fun a _ b _ => rfl)]
theorem sortN_mem {l : List Nat} {x : Nat} : x ∈ sortN l ↔ x ∈ l := (List.mergeSort_perm _ _).mem_iff
theorem sortN_len (l : List Nat) : (sortN l).length = l.length := List.length_mergeSort _
theorem vars_ok {s : List Nat} (hs : ∀ n ∈ s, 2 ≤ n ∧ n ≤ 3) {vars : List Nat} (h1 : ∀ v ∈ vars, v < s.length) (h2 : vars.length ≤ 2) : VarsOk s vars := by
  have pl : (pick s vars).length = vars.length := by unfold pick; simp
  refine ⟨h1, ⟨fun n hn => ?_, ?_, fun r hr => ?_⟩, by omega⟩
  · unfold pick at hn
    obtain ⟨v, hv, rfl⟩ := List.mem_map.mp hn
    have hl := h1 v hv
    rw [List.getD_eq_getElem?_getD, List.getElem?_eq_getElem hl]
    exact (hs _ (List.getElem_mem hl)).2
  · rw [pl]
    have : 3 ^ vars.length ≤ 3 ^ 2 := Nat.pow_le_pow_right (by decide) h2
    simp
    omega
  · simp at hr; subst hr; rw [pl, List.length_nil]; omega
theorem events_ne {s : List Nat} (hs : ∀ n ∈ s, 2 ≤ n ∧ n ≤ 3) {vars : List Nat} (h1 : ∀ v ∈ vars, v < s.length) : eventsM s vars ≠ [] := by
  have : ∀ (p : List Nat) (f : List (List Int)), (∀ n ∈ p, 2 ≤ n) → 0 < f.length → 0 < (rowsM f p).length := fun p => by
    induction p with
    | nil => intro f _ h; exact h
    | cons n p ih =>
      intro f h hf
      refine ih _ (fun k hk => h k (List.mem_cons_of_mem _ hk)) ?_
      cases f with
      | nil => simp at hf
      | cons r f =>
        rw [List.flatMap_cons, List.length_append]
        have := h n List.mem_cons_self
        unfold rowsStep
        simp
        omega
  have q := this (pick s vars) [[]] (fun n hn => by
    unfold pick at hn
    obtain ⟨v, hv, rfl⟩ := List.mem_map.mp hn
    have hl := h1 v hv
    rw [List.getD_eq_getElem?_getD, List.getElem?_eq_getElem hl]
    exact (hs _ (List.getElem_mem hl)).1) (by decide)
  intro e
  unfold eventsM at e
  have : (rowsM [[]] (pick s vars)).length = 0 := by
    have := congrArg List.length e
    simpa using this
  omega
theorem events_len {s : List Nat} {vars : List Nat} (h : VarsOk s vars) (h2 : vars.length ≤ 2) : (eventsM s vars).length ≤ 9 := by
  have := h.len
  have : 3 ^ vars.length ≤ 3 ^ 2 := Nat.pow_le_pow_right (by decide) h2
  omega
theorem slice_nat (a b : Nat) (rest : List Nat) (hi : Option Int) : ∃ k, D.slice (.lst ((a :: b :: rest).map fun (i : Nat) => D.int (i : Int))) (some 2) hi = some (.lst ((rest.take k).map fun (i : Nat) => D.int (i : Int))) := by
  have e : HT.sIx ((a :: b :: rest).map fun (i : Nat) => D.int (i : Int)).length 0 (some 2) = 2 := by
    have := HT.sIx_nat ((a :: b :: rest).map fun (i : Nat) => D.int (i : Int)).length 0 2
    rw [show ((2 : Nat) : Int) = 2 from rfl] at this
    rw [this]
    simp
  refine ⟨HT.sIx ((a :: b :: rest).map fun (i : Nat) => D.int (i : Int)).length ((a :: b :: rest).map fun (i : Nat) => D.int (i : Int)).length hi - 2, ?_⟩
  show some (D.lst (cutD ((a :: b :: rest).map fun (i : Nat) => D.int (i : Int)) (some 2) hi)) = _
  unfold cutD
  rw [e, List.map_take]
  rfl
theorem math (ns : List Int) (hns : ns.length ≤ 63) : ∃ S', b_law (rho0 13 [.scr ns]) [] = some (.rt (.bl true) S') := by
  obtain ⟨ns', hst⟩ := start_s ns []
  have g0 : Good 0 (cS (ns'.map D.int) 0 0 0) := ⟨ns', 0, 0, 0, rfl, by decide, by decide, by decide, by decide⟩
  obtain ⟨s, ws, S1, hw, wo, hl, hs, g1⟩ := world_s g0 (by decide)
  have st1 : sOwn (eCall F__law_start (aCons (eVar 0) aNil)) 1 (rho0 13 [.scr ns]) [] = some (.nx [.sh (.scr ns), .ow (.lst [.lst (ns'.map D.int), .int 0, .int 0, .int 0, .int 20]), .un, .un, .un, .un, .un, .un, .un, .un, .un, .un, .un] []) := by
    unfold sOwn
    rw [eCall_of (S1 := []) rfl hst]
    rfl
  have st2 : sAsg (eCall F__law_world (aCons (eVar 1) aNil)) (gNm 2) [.sh (.scr ns), .sh (.ref 0), .un, .un, .un, .un, .un, .un, .un, .un, .un, .un, .un] (cS (ns'.map D.int) 0 0 0) = some (.nx [.sh (.scr ns), .sh (.ref 0), .sh (toldD s ws), .un, .un, .un, .un, .un, .un, .un, .un, .un, .un] S1) := sAsg_of (eCall_of (S1 := cS (ns'.map D.int) 0 0 0) rfl hw) rfl
  have st3 : sPar 3 4 (aCons (eBin D.ix (bVar 2) (eC (.int 0))) (aCons (eBin D.ix (bVar 2) (eC (.int 3))) aNil)) [.sh (.scr ns), .sh (.ref 0), .sh (toldD s ws), .un, .un, .un, .un, .un, .un, .un, .un, .un, .un] S1 = some (.nx [.sh (.scr ns), .sh (.ref 0), .sh (toldD s ws), .sh (szD s), .sh (worldD s ws), .un, .un, .un, .un, .un, .un, .un, .un] S1) := by
    unfold toldD
    simp only [fnD, fnE, fnOut, rho0, eVar, bVar, Sl.rd, eC, eBin, eTup, eLst, aNil, aCons, eCB, eCall, tTru, tBl, tAn, DL.tOr, tNo, eAn, DL.eOr, eNo, eIf, eIxR, eSl, pNo, pIs, iSeq, iZp, gNm, gTp, gsNil, gsCons, sNx, sBk, sCt, sSeq, Out.seq, sIf, sAsg, sOwn, sPar, sPar3, sRet, sFz, sPub, sSetR, sSetIx, sMut, sDrop, sFor, eLc, tYs, wipeR, D.elems, D.truth, D.add, D.sub, D.mul, D.fdiv, D.mod, D.pow, D.lt, D.le, D.gt, D.ge, D.isN, D.notN, D.ix, D.cat, liftI, Option.bind_some, Option.bind_none, Option.map_some, Option.map_none, List.map_cons, List.map_nil, List.length_cons, List.length_nil, List.cons_append, List.nil_append, List.replicate, List.set_cons_zero, List.set_cons_succ, List.getElem?_cons_zero, List.getElem?_cons_succ, Nat.reduceAdd, Nat.reduceSub, Nat.reduceLeDiff, if_true, if_false, ↓reduceIte, List.isEmpty_nil, List.isEmpty_cons, Bool.not_true, Bool.not_false, Bool.false_eq_true, decide_true, decide_false, decide_eq_true_eq, at0, at3]
  have st4 : sAsg (eCB gLen (aCons (bVar 3) aNil)) (gNm 5) [.sh (.scr ns), .sh (.ref 0), .sh (toldD s ws), .sh (szD s), .sh (worldD s ws), .un, .un, .un, .un, .un, .un, .un, .un] S1 = some (.nx [.sh (.scr ns), .sh (.ref 0), .sh (toldD s ws), .sh (szD s), .sh (worldD s ws), .sh (.int (s.length : Int)), .un, .un, .un, .un, .un, .un, .un] S1) :=
    sAsg_of (eCB_of (ds := [szD s]) (S1 := S1) rfl (by unfold szD; simp only [gLen, List.length_map])) rfl
  have st5 : sOwn (eLst aNil) 6 [.sh (.scr ns), .sh (.ref 0), .sh (toldD s ws), .sh (szD s), .sh (worldD s ws), .sh (.int (s.length : Int)), .un, .un, .un, .un, .un, .un, .un] S1 = some (.nx [.sh (.scr ns), .sh (.ref 0), .sh (toldD s ws), .sh (szD s), .sh (worldD s ws), .sh (.int (s.length : Int)), .ow (.lst []), .un, .un, .un, .un, .un, .un] S1) := by
    simp only [fnD, fnE, fnOut, rho0, eVar, bVar, Sl.rd, eC, eBin, eTup, eLst, aNil, aCons, eCB, eCall, tTru, tBl, tAn, DL.tOr, tNo, eAn, DL.eOr, eNo, eIf, eIxR, eSl, pNo, pIs, iSeq, iZp, gNm, gTp, gsNil, gsCons, sNx, sBk, sCt, sSeq, Out.seq, sIf, sAsg, sOwn, sPar, sPar3, sRet, sFz, sPub, sSetR, sSetIx, sMut, sDrop, sFor, eLc, tYs, wipeR, D.elems, D.truth, D.add, D.sub, D.mul, D.fdiv, D.mod, D.pow, D.lt, D.le, D.gt, D.ge, D.isN, D.notN, D.ix, D.cat, liftI, Option.bind_some, Option.bind_none, Option.map_some, Option.map_none, List.map_cons, List.map_nil, List.length_cons, List.length_nil, List.cons_append, List.nil_append, List.replicate, List.set_cons_zero, List.set_cons_succ, List.getElem?_cons_zero, List.getElem?_cons_succ, Nat.reduceAdd, Nat.reduceSub, Nat.reduceLeDiff, if_true, if_false, ↓reduceIte, List.isEmpty_nil, List.isEmpty_cons, Bool.not_true, Bool.not_false, Bool.false_eq_true, decide_true, decide_false, decide_eq_true_eq, sz0]
  obtain ⟨o, S2, z7, ol, ho, g2⟩ := ord_loop (.sh (.scr ns)) (.sh (toldD s ws)) (.sh (szD s)) (.sh (worldD s ws)) (.sh (.int (s.length : Int))) .un .un .un .un .un s.length 0 [] 3000 S1 .un ⟨rfl, List.nodup_nil, fun x hx => by simp at hx⟩ (by omega) g1 (by omega)
  rw [Nat.zero_add] at ho
  obtain ⟨a, b, rest, rfl⟩ : ∃ a b rest, o = a :: b :: rest := by
    have := ho.len
    match o, this with
    | a :: b :: rest, _ => exact ⟨a, b, rest, rfl⟩
    | [x], h => simp at h; omega
    | [], h => simp at h; omega
  have hal : a < s.length := ho.lt a (by simp)
  have hbl : b < s.length := ho.lt b (by simp)
  have hrl : ∀ v ∈ rest, v < s.length := fun v hv => ho.lt v (by simp [hv])
  have hnd := ho.nd
  rw [List.nodup_cons, List.nodup_cons] at hnd
  obtain ⟨na, nb, nr⟩ := hnd
  have nab : a ≠ b := fun e => na (by simp [e])
  have nar : a ∉ rest := fun e => na (by simp [e])
  have hrlen : rest.length ≤ 2 := by have := ho.len; simp at this; omega
  have o0 : atI ((a :: b :: rest).map fun (i : Nat) => D.int (i : Int)) 0 = some (.int (a : Int)) := at0 _ _
  have o1 : atI ((a :: b :: rest).map fun (i : Nat) => D.int (i : Int)) 1 = some (.int (b : Int)) := at1 _ _ _
  -- zs
  obtain ⟨k1, S3, tk1, hk1, g3⟩ := take_s ((s.length : Int) - 1) g2 (by omega) (by omega) (by omega)
  obtain ⟨kk, hsl⟩ := slice_nat a b rest (some (2 + (k1 : Int)))
  generalize hrho : ([.sh (.scr ns), .sh (.ref 0), .sh (toldD s ws), .sh (szD s), .sh (worldD s ws), .sh (.int (s.length : Int)), .sh (.lst ((a :: b :: rest).map fun (i : Nat) => D.int (i : Int))), z7] : Rho) = pre
  have P : ∀ r : Rho, pre ++ r = [.sh (.scr ns), .sh (.ref 0), .sh (toldD s ws), .sh (szD s), .sh (worldD s ws), .sh (.int (s.length : Int)), .sh (.lst ((a :: b :: rest).map fun (i : Nat) => D.int (i : Int))), z7] ++ r := fun r => by rw [hrho]
  have st6 : sAsg (eCB gTuple (aCons (eCB gSorted (aCons (eSl D.slice (bVar 6) (pIs (eC (.int 2))) (pIs (eBin D.add (eC (.int 2)) (eCall F__law_take (aCons (eVar 1) (aCons (eBin D.sub (bVar 5) (eC (.int 1))) aNil)))))) aNil)) aNil)) (gNm 8) (pre ++ [.un, .un, .un, .un, .un]) S2 = some (.nx (pre ++ [.sh (varsD (sortN (rest.take kk))), .un, .un, .un, .un]) S3) := by
    rw [P, P]
    have tk : eCall F__law_take (aCons (eVar 1) (aCons (eBin D.sub (bVar 5) (eC (.int 1))) aNil)) ([.sh (.scr ns), .sh (.ref 0), .sh (toldD s ws), .sh (szD s), .sh (worldD s ws), .sh (.int (s.length : Int)), .sh (.lst ((a :: b :: rest).map fun (i : Nat) => D.int (i : Int))), z7] ++ [.un, .un, .un, .un, .un]) S2 = some (.int (k1 : Int), S3) := eCall_of (ds := [.ref 0, .int ((s.length : Int) - 1)]) (S1 := S2) rfl tk1
    have sl : eSl D.slice (bVar 6) (pIs (eC (.int 2))) (pIs (eBin D.add (eC (.int 2)) (eCall F__law_take (aCons (eVar 1) (aCons (eBin D.sub (bVar 5) (eC (.int 1))) aNil))))) ([.sh (.scr ns), .sh (.ref 0), .sh (toldD s ws), .sh (szD s), .sh (worldD s ws), .sh (.int (s.length : Int)), .sh (.lst ((a :: b :: rest).map fun (i : Nat) => D.int (i : Int))), z7] ++ [.un, .un, .un, .un, .un]) S2 = some (.lst ((rest.take kk).map fun (i : Nat) => D.int (i : Int)), S3) := by
      have e2 : eBin D.add (eC (.int 2)) (eCall F__law_take (aCons (eVar 1) (aCons (eBin D.sub (bVar 5) (eC (.int 1))) aNil))) ([.sh (.scr ns), .sh (.ref 0), .sh (toldD s ws), .sh (szD s), .sh (worldD s ws), .sh (.int (s.length : Int)), .sh (.lst ((a :: b :: rest).map fun (i : Nat) => D.int (i : Int))), z7] ++ [.un, .un, .un, .un, .un]) S2 = some (.int (2 + (k1 : Int)), S3) := eBin_of (d1 := .int 2) (S1 := S2) rfl tk (i_add _ _)
      have e3 : pIs (eBin D.add (eC (.int 2)) (eCall F__law_take (aCons (eVar 1) (aCons (eBin D.sub (bVar 5) (eC (.int 1))) aNil)))) ([.sh (.scr ns), .sh (.ref 0), .sh (toldD s ws), .sh (szD s), .sh (worldD s ws), .sh (.int (s.length : Int)), .sh (.lst ((a :: b :: rest).map fun (i : Nat) => D.int (i : Int))), z7] ++ [.un, .un, .un, .un, .un]) S2 = some (some (2 + (k1 : Int)), S3) := by
        unfold pIs; rw [e2]; rfl
      have e4 : bVar 6 ([.sh (.scr ns), .sh (.ref 0), .sh (toldD s ws), .sh (szD s), .sh (worldD s ws), .sh (.int (s.length : Int)), .sh (.lst ((a :: b :: rest).map fun (i : Nat) => D.int (i : Int))), z7] ++ [.un, .un, .un, .un, .un]) S2 = some (.lst ((a :: b :: rest).map fun (i : Nat) => D.int (i : Int)), S2) := rfl
      have e5 : pIs (eC (.int 2)) ([.sh (.scr ns), .sh (.ref 0), .sh (toldD s ws), .sh (szD s), .sh (worldD s ws), .sh (.int (s.length : Int)), .sh (.lst ((a :: b :: rest).map fun (i : Nat) => D.int (i : Int))), z7] ++ [.un, .un, .un, .un, .un]) S2 = some (some 2, S2) := rfl
      unfold eSl
      rw [e4, Option.bind_some, e5, Option.bind_some, e3, Option.bind_some, hsl]
      rfl
    exact sAsg_of (eCB_of (ds := [.lst ((sortN (rest.take kk)).map fun (i : Nat) => D.int (i : Int))]) (S1 := S3) (aCons_of (eCB_of (ds := [.lst ((rest.take kk).map fun (i : Nat) => D.int (i : Int))]) (S1 := S3) (aCons_of sl rfl) (sorted_nat _)) rfl) rfl) rfl
  have szat : ∀ v : Nat, v < s.length → D.ix (szD s) (.int (v : Int)) = some (.int ((s.getD v 0 : Nat) : Int)) := fun v hv => by
    show atI (s.map fun (n : Nat) => D.int (n : Int)) ((v : Nat) : Int) = _
    rw [atI_lt (by simpa using hv), List.getElem_map, List.getD_eq_getElem?_getD, List.getElem?_eq_getElem hv]; rfl
  have szb : ∀ v : Nat, v < s.length → 2 ≤ s.getD v 0 ∧ s.getD v 0 ≤ 3 := fun v hv => by
    rw [List.getD_eq_getElem?_getD, List.getElem?_eq_getElem hv]
    exact hs _ (List.getElem_mem hv)
  have sza := szb a hal
  have szbb := szb b hbl
  obtain ⟨u, S4, tk2, hu, g4⟩ := take_s ((s.getD a 0 : Nat) : Int) g3 (by omega) (by omega) (by omega)
  obtain ⟨w, S5, tk3, hwr, g5⟩ := take_s ((s.getD b 0 : Nat) : Int) g4 (by omega) (by omega) (by omega)
  have pr : ∀ (i : Int) (v d : Nat) (S S' : Sto) (r : Rho), atI ((a :: b :: rest).map fun (i : Nat) => D.int (i : Int)) i = some (.int (v : Int)) → v < s.length → F__law_take [.ref 0, .int ((s.getD v 0 : Nat) : Int)] S = some (.int (d : Int), S') →
      eTup (aCons (eTup (aCons (eBin D.ix (bVar 6) (eC (.int i))) (aCons (eCall F__law_take (aCons (eVar 1) (aCons (eBin D.ix (bVar 3) (eBin D.ix (bVar 6) (eC (.int i)))) aNil))) aNil))) aNil) (pre ++ r) S = some (evD [(v, (d : Int))], S') := fun i v d S S' r hi hv ht => by
    rw [P]
    have e1 : eBin D.ix (bVar 6) (eC (.int i)) ([.sh (.scr ns), .sh (.ref 0), .sh (toldD s ws), .sh (szD s), .sh (worldD s ws), .sh (.int (s.length : Int)), .sh (.lst ((a :: b :: rest).map fun (i : Nat) => D.int (i : Int))), z7] ++ r) S = some (.int (v : Int), S) := eBin_of (d1 := .lst ((a :: b :: rest).map fun (i : Nat) => D.int (i : Int))) (d2 := .int i) (S1 := S) (S2 := S) rfl rfl hi
    have e2 : eBin D.ix (bVar 3) (eBin D.ix (bVar 6) (eC (.int i))) ([.sh (.scr ns), .sh (.ref 0), .sh (toldD s ws), .sh (szD s), .sh (worldD s ws), .sh (.int (s.length : Int)), .sh (.lst ((a :: b :: rest).map fun (i : Nat) => D.int (i : Int))), z7] ++ r) S = some (.int ((s.getD v 0 : Nat) : Int), S) := eBin_of (d1 := szD s) (S1 := S) rfl e1 (szat v hv)
    refine eTup_of (ds := [pD (v, (d : Int))]) (aCons_of (S1 := S') (eTup_of (ds := [.int (v : Int), .int (d : Int)]) (aCons_of (S1 := S) e1 (aCons_of (S1 := S') (eCall_of (ds := [.ref 0, .int ((s.getD v 0 : Nat) : Int)]) (S1 := S) (aCons_of (S1 := S) rfl (aCons_of (S1 := S) e2 rfl)) ht) rfl)) (by show 2 ≤ PySem.sizeLine; decide)) rfl) (by show 1 ≤ PySem.sizeLine; decide)
  have st7 : sAsg (eTup (aCons (eTup (aCons (eBin D.ix (bVar 6) (eC (.int 0))) (aCons (eCall F__law_take (aCons (eVar 1) (aCons (eBin D.ix (bVar 3) (eBin D.ix (bVar 6) (eC (.int 0)))) aNil))) aNil))) aNil)) (gNm 9) (pre ++ [.sh (varsD (sortN (rest.take kk))), .un, .un, .un, .un]) S3 = some (.nx (pre ++ [.sh (varsD (sortN (rest.take kk))), .sh (evD [(a, (u : Int))]), .un, .un, .un]) S4) :=
    sAsg_of (pr 0 a u S3 S4 _ o0 hal tk2) (by rw [P, P]; rfl)
  have st8 : sAsg (eTup (aCons (eTup (aCons (eBin D.ix (bVar 6) (eC (.int 1))) (aCons (eCall F__law_take (aCons (eVar 1) (aCons (eBin D.ix (bVar 3) (eBin D.ix (bVar 6) (eC (.int 1)))) aNil))) aNil))) aNil)) (gNm 10) (pre ++ [.sh (varsD (sortN (rest.take kk))), .sh (evD [(a, (u : Int))]), .un, .un, .un]) S4 = some (.nx (pre ++ [.sh (varsD (sortN (rest.take kk))), .sh (evD [(a, (u : Int))]), .sh (evD [(b, (w : Int))]), .un, .un]) S5) :=
    sAsg_of (pr 1 b w S4 S5 _ o1 hbl tk3) (by rw [P, P]; rfl)
  -- the two sides
  have oka : Ok s [(a, (u : Int))] := ⟨fun p hp => by simp at hp; subst hp; exact hal, by simp⟩
  have okb : Ok s [(b, (w : Int))] := ⟨fun p hp => by simp at hp; subst hp; exact hbl, by simp⟩
  have sub : ∀ k : Nat, ∀ v ∈ sortN (rest.take k), v ∈ rest := fun k v hv => List.mem_of_mem_take (sortN_mem.mp hv)
  have vk : ∀ k, VarsOk s (sortN (rest.take k)) := fun k => vars_ok hs (fun v hv => hrl v (sub k v hv)) (by rw [sortN_len, List.length_take]; omega)
  have lk : ∀ k, (eventsM s (sortN (rest.take k))).length ≤ 9 := fun k => events_len (vk k) (by rw [sortN_len, List.length_take]; omega)
  have va : VarsOk s [a] := vars_ok hs (fun v hv => by simp at hv; subst hv; exact hal) (by simp)
  have dis : ∀ k, ∀ e ∈ eventsM s (sortN (rest.take k)), ∀ p ∈ [(b, (w : Int))], ∀ q ∈ [(a, (u : Int))] ++ e, q.1 ≠ p.1 := fun k e he p hp q hq => by
    simp at hp; subst hp
    rcases List.mem_append.mp hq with hq | hq
    · simp at hq; subst hq; exact nab
    · intro z
      have z' : q.1 = b := z
      exact nb (z' ▸ sub k _ (VarsOk.mem e he q hq))
  have A1 := adjusted_s wo [(a, (u : Int))] [(b, (w : Int))] oka okb (sortN (rest.take kk)) (vk kk) S5 (by have := lk kk; omega) (dis kk)
  have E1 := events_s wo (sortN (rest.take kk)) S5 (vk kk).lt (vk kk).sm (by have := (vk kk).ln; omega)
  have B1 := mixed_s wo [(a, (u : Int))] [(b, (w : Int))] oka okb S5 (eventsM s (sortN (rest.take kk))) (vk kk).ok (by have := lk kk; omega)
  have C1 := same_s (mixM s ws [(a, (u : Int))] [(b, (w : Int))] (eventsM s (sortN (rest.take kk))) (0, 1)) S5
  have st9 : sIf (tNo (tTru (eCall F__law_same (aCons (eCall F_adjusted (aCons (eVar 4) (aCons (eVar 9) (aCons (eVar 10) (aCons (eVar 8) aNil))))) (aCons (eCall F__law_mixed (aCons (eVar 2) (aCons (eVar 10) (aCons (eCall F__law_events (aCons (eVar 2) (aCons (eVar 8) aNil))) (aCons (eVar 9) aNil))))) aNil))))) (sRet (eC (.bl false))) sNx (pre ++ [.sh (varsD (sortN (rest.take kk))), .sh (evD [(a, (u : Int))]), .sh (evD [(b, (w : Int))]), .un, .un]) S5 =
      some (.nx (pre ++ [.sh (varsD (sortN (rest.take kk))), .sh (evD [(a, (u : Int))]), .sh (evD [(b, (w : Int))]), .un, .un]) S5) := by
    rw [P]
    refine sIf_f (S1 := S5) ?_ rfl
    have x1 : eCall F_adjusted (aCons (eVar 4) (aCons (eVar 9) (aCons (eVar 10) (aCons (eVar 8) aNil)))) ([.sh (.scr ns), .sh (.ref 0), .sh (toldD s ws), .sh (szD s), .sh (worldD s ws), .sh (.int (s.length : Int)), .sh (.lst ((a :: b :: rest).map fun (i : Nat) => D.int (i : Int))), z7] ++ [.sh (varsD (sortN (rest.take kk))), .sh (evD [(a, (u : Int))]), .sh (evD [(b, (w : Int))]), .un, .un]) S5 = some (optD (mixM s ws [(a, (u : Int))] [(b, (w : Int))] (eventsM s (sortN (rest.take kk))) (0, 1)), S5) := eCall_of (ds := [worldD s ws, evD [(a, (u : Int))], evD [(b, (w : Int))], varsD (sortN (rest.take kk))]) (S1 := S5) rfl A1
    have x2 : eCall F__law_mixed (aCons (eVar 2) (aCons (eVar 10) (aCons (eCall F__law_events (aCons (eVar 2) (aCons (eVar 8) aNil))) (aCons (eVar 9) aNil)))) ([.sh (.scr ns), .sh (.ref 0), .sh (toldD s ws), .sh (szD s), .sh (worldD s ws), .sh (.int (s.length : Int)), .sh (.lst ((a :: b :: rest).map fun (i : Nat) => D.int (i : Int))), z7] ++ [.sh (varsD (sortN (rest.take kk))), .sh (evD [(a, (u : Int))]), .sh (evD [(b, (w : Int))]), .un, .un]) S5 = some (optD (mixM s ws [(a, (u : Int))] [(b, (w : Int))] (eventsM s (sortN (rest.take kk))) (0, 1)), S5) :=
      eCall_of (ds := [toldD s ws, evD [(b, (w : Int))], .lst ((eventsM s (sortN (rest.take kk))).map evD), evD [(a, (u : Int))]]) (S1 := S5) (aCons_of (S1 := S5) rfl (aCons_of (S1 := S5) rfl (aCons_of (S1 := S5) (eCall_of (ds := [toldD s ws, varsD (sortN (rest.take kk))]) (S1 := S5) rfl E1) (aCons_of (S1 := S5) rfl rfl)))) B1
    have x3 := tTru_of (b := true) (eCall_of (F := F__law_same) (aCons_of x1 (aCons_of (fs := aNil) (ds := []) (S2 := S5) x2 rfl)) C1) rfl
    unfold tNo
    rw [x3]
    rfl
  -- the front door
  obtain ⟨k2, hsl2⟩ := slice_nat a b rest none
  have st10 : sAsg (eCB gTuple (aCons (eCB gSorted (aCons (eSl D.slice (bVar 6) (pIs (eC (.int 2))) pNo) aNil)) aNil)) (gNm 8) (pre ++ [.sh (varsD (sortN (rest.take kk))), .sh (evD [(a, (u : Int))]), .sh (evD [(b, (w : Int))]), .un, .un]) S5 = some (.nx (pre ++ [.sh (varsD (sortN (rest.take k2))), .sh (evD [(a, (u : Int))]), .sh (evD [(b, (w : Int))]), .un, .un]) S5) := by
    rw [P, P]
    have sl : eSl D.slice (bVar 6) (pIs (eC (.int 2))) pNo ([.sh (.scr ns), .sh (.ref 0), .sh (toldD s ws), .sh (szD s), .sh (worldD s ws), .sh (.int (s.length : Int)), .sh (.lst ((a :: b :: rest).map fun (i : Nat) => D.int (i : Int))), z7] ++ [.sh (varsD (sortN (rest.take kk))), .sh (evD [(a, (u : Int))]), .sh (evD [(b, (w : Int))]), .un, .un]) S5 = some (.lst ((rest.take k2).map fun (i : Nat) => D.int (i : Int)), S5) := by
      show ((D.slice (.lst ((a :: b :: rest).map fun (i : Nat) => D.int (i : Int))) (some 2) none).map fun z => (z, S5)) = _
      rw [hsl2]; rfl
    exact sAsg_of (eCB_of (ds := [.lst ((sortN (rest.take k2)).map fun (i : Nat) => D.int (i : Int))]) (S1 := S5) (aCons_of (eCB_of (ds := [.lst ((rest.take k2).map fun (i : Nat) => D.int (i : Int))]) (S1 := S5) (aCons_of sl rfl) (sorted_nat _)) rfl) rfl) rfl
  have st11 : sAsg (eBin D.ix (bVar 9) (eC (.int 0))) (gTp 2 (gsCons (gNm 11) (gsCons (gNm 12) gsNil))) (pre ++ [.sh (varsD (sortN (rest.take k2))), .sh (evD [(a, (u : Int))]), .sh (evD [(b, (w : Int))]), .un, .un]) S5 = some (.nx (pre ++ [.sh (varsD (sortN (rest.take k2))), .sh (evD [(a, (u : Int))]), .sh (evD [(b, (w : Int))]), .sh (.int (a : Int)), .sh (.int (u : Int))]) S5) := by
    rw [P, P]
    exact sAsg_of (eBin_of (d1 := evD [(a, (u : Int))]) (d2 := .int 0) (d := pD (a, (u : Int))) (S1 := S5) (S2 := S5) rfl rfl (at0 _ _)) rfl
  have fe : ∀ e ∈ eventsM s (sortN (rest.take k2)), ∀ p ∈ e, a ≠ p.1 := fun e he p hp z => nar (z ▸ sub k2 _ (VarsOk.mem e he p hp))
  have F1 := front_s wo a (u : Int) [(b, (w : Int))] (sortN (rest.take k2)) okb va (vk k2) (by have := lk k2; omega) (events_ne hs fun v hv => hrl v (sub k2 v hv)) S5 fe fun e he o ho p hp q hq => by
    simp at hp; subst hp
    rcases List.mem_append.mp hq with hq | hq
    · intro z
      have z' : q.1 = b := z
      exact nb (z' ▸ sub k2 _ (VarsOk.mem e he q hq))
    · have := VarsOk.mem o ho q hq
      simp at this
      rw [this]; exact nab
  have L1 := law_front_s wo a (u : Int) [(b, (w : Int))] (sortN (rest.take k2)) okb va (vk k2) (by have := lk k2; omega) S5
  obtain ⟨oo, hoo⟩ : ∃ o : Option (Int × Int), frontD s ws a (u : Int) [(b, (w : Int))] (sortN (rest.take k2)) = optD o := by
    unfold frontD
    split
    · exact ⟨none, rfl⟩
    · exact ⟨_, rfl⟩
  rw [hoo] at F1 L1
  have C2 := same_s oo S5
  have st12 : sRet (eCall F__law_same (aCons (eCall F_front_value (aCons (eVar 4) (aCons (eVar 11) (aCons (eVar 12) (aCons (eVar 10) (aCons (eVar 8) aNil)))))) (aCons (eCall F__law_front (aCons (eVar 2) (aCons (eVar 11) (aCons (eVar 12) (aCons (eVar 10) (aCons (eVar 8) aNil)))))) aNil))) (pre ++ [.sh (varsD (sortN (rest.take k2))), .sh (evD [(a, (u : Int))]), .sh (evD [(b, (w : Int))]), .sh (.int (a : Int)), .sh (.int (u : Int))]) S5 = some (.rt (.bl true) S5) := by
    rw [P]
    refine sRet_of (eCall_of (ds := [optD oo, optD oo]) (S1 := S5) (aCons_of (S1 := S5) (eCall_of (ds := [worldD s ws, .int (a : Int), .int (u : Int), evD [(b, (w : Int))], varsD (sortN (rest.take k2))]) (S1 := S5) rfl F1) (aCons_of (S1 := S5) (eCall_of (ds := [toldD s ws, .int (a : Int), .int (u : Int), evD [(b, (w : Int))], varsD (sortN (rest.take k2))]) (S1 := S5) rfl L1) rfl)) C2)
  refine ⟨S5, ?_⟩
  unfold b_law
  refine sSeq_of st1 ?_
  show sSeq _ _ [.sh (.scr ns), .sh (.ref 0), .un, .un, .un, .un, .un, .un, .un, .un, .un, .un, .un] (cS (ns'.map D.int) 0 0 0) = _
  refine sSeq_of st2 (sSeq_of st3 (sSeq_of st4 (sSeq_of st5 (sSeq_of (sFor_of (iRng_of (ds := [.int (s.length : Int)]) (S1 := S1) rfl (rangeOf_nat (by omega))) (by rw [List.range_eq_range']; exact ol)) ?_))))
  show sSeq _ _ ([.sh (.scr ns), .sh (.ref 0), .sh (toldD s ws), .sh (szD s), .sh (worldD s ws), .sh (.int (s.length : Int)), .sh (.lst ((a :: b :: rest).map fun (i : Nat) => D.int (i : Int))), z7] ++ [.un, .un, .un, .un, .un]) S2 = _
  rw [← P]
  exact sSeq_of st6 (sSeq_of st7 (sSeq_of st8 (sSeq_of st9 (sSeq_of st10 (sSeq_of st11 st12)))))
end K64

set_option Elab.async false
set_option maxRecDepth 100000
set_option maxHeartbeats 4000000
namespace K64
open PySem PySem.Spec PyProof.Rows L2 DL
theorem all_mk {l : PySem.W.OpenLaw} {w : World} {K : PySem.W.Frag} {h : Heap} {mg : Str → Option Value} {fa f1 f2 f3 f4 f5 f6 f7 f8 f9 f10 f11 f12 f13 f14 f15 f16 f17 f18 f19 f20 f21 f22 f23 f24 f25 f26 f27 : Addr} (X : K.In h) (G : h.Ns mainGlobals mg) (hfa : mg "law" = some (.ref fa))
    {od1 od2 od3 od4 od5 od6 od7 od8 od9 od10 od11 od12 od13 od14 od15 od16 od17 od18 od19 od20 od21 od22 od23 od24 od25 od26 od27 an1 an2 an3 an4 an5 an6 an7 an8 an9 an10 an11 an12 an13 an14 an15 an16 an17 an18 an19 an20 an21 an22 an23 an24 an25 an26 an27 : Option Addr} {sl1 sl2 sl3 sl4 sl5 sl6 sl7 sl8 sl9 sl10 sl11 sl12 sl13 sl14 sl15 sl16 sl17 sl18 sl19 sl20 sl21 sl22 sl23 sl24 sl25 sl26 sl27 : Array (Option Value)} {oc1 oc2 oc3 oc4 oc5 oc6 oc7 oc8 oc9 oc10 oc11 oc12 oc13 oc14 oc15 oc16 oc17 oc18 oc19 oc20 oc21 oc22 oc23 oc24 oc25 oc26 oc27 kV1 kV2 kV3 kV4 kV5 kV6 kV7 kV8 kV9 kV10 kV11 kV12 kV13 kV14 kV15 kV16 kV17 kV18 kV19 kV20 kV21 kV22 kV23 kV24 kV25 kV26 kV27 dc1 dc2 dc3 dc4 dc5 dc6 dc7 dc8 dc9 dc10 dc11 dc12 dc13 dc14 dc15 dc16 dc17 dc18 dc19 dc20 dc21 dc22 dc23 dc24 dc25 dc26 dc27 pm1 pm2 pm3 pm4 pm5 pm6 pm7 pm8 pm9 pm10 pm11 pm12 pm13 pm14 pm15 pm16 pm17 pm18 pm19 pm20 pm21 pm22 pm23 pm24 pm25 pm26 pm27 cd1 cd2 cd3 cd4 cd5 cd6 cd7 cd8 cd9 cd10 cd11 cd12 cd13 cd14 cd15 cd16 cd17 cd18 cd19 cd20 cd21 cd22 cd23 cd24 cd25 cd26 cd27 ct1 ct2 ct3 ct4 ct5 ct6 ct7 ct8 ct9 ct10 ct11 ct12 ct13 ct14 ct15 ct16 ct17 ct18 ct19 ct20 ct21 ct22 ct23 ct24 ct25 ct26 ct27 : Value}
    (a1 : PySem.W.nsIn K mainGlobals "fraction" = some (some (.ref f1))) (l1 : K.lookup f1 = some ⟨oc1, od1, .func (PySem.W.fnOf "fraction" "fraction" (defArgs s_fraction) (defBody s_fraction) (defScope s_fraction) .none kV1 dc1 pm1 an1 cd1 ct1), sl1⟩) (c1 : PySem.W.codeIn K cd1 "fraction" = true) (k1 : PySem.W.keepIn K (.ref f1) = true)
    (a2 : PySem.W.nsIn K mainGlobals "rows_of" = some (some (.ref f2))) (l2 : K.lookup f2 = some ⟨oc2, od2, .func (PySem.W.fnOf "rows_of" "rows_of" (defArgs s_rows_of) (defBody s_rows_of) (defScope s_rows_of) .none kV2 dc2 pm2 an2 cd2 ct2), sl2⟩) (c2 : PySem.W.codeIn K cd2 "rows_of" = true) (k2 : PySem.W.keepIn K (.ref f2) = true)
    (a3 : PySem.W.nsIn K mainGlobals "fits" = some (some (.ref f3))) (l3 : K.lookup f3 = some ⟨oc3, od3, .func (PySem.W.fnOf "fits" "fits" (defArgs s_fits) (defBody s_fits) (defScope s_fits) .none kV3 dc3 pm3 an3 cd3 ct3), sl3⟩) (c3 : PySem.W.codeIn K cd3 "fits" = true) (k3 : PySem.W.keepIn K (.ref f3) = true)
    (a4 : PySem.W.nsIn K mainGlobals "together" = some (some (.ref f4))) (l4 : K.lookup f4 = some ⟨oc4, od4, .func (PySem.W.fnOf "together" "together" (defArgs s_together) (defBody s_together) (defScope s_together) .none kV4 dc4 pm4 an4 cd4 ct4), sl4⟩) (c4 : PySem.W.codeIn K cd4 "together" = true) (k4 : PySem.W.keepIn K (.ref f4) = true)
    (a5 : PySem.W.nsIn K mainGlobals "_law_start" = some (some (.ref f5))) (l5 : K.lookup f5 = some ⟨oc5, od5, .func (PySem.W.fnOf "_law_start" "_law_start" (defArgs s__law_start) (defBody s__law_start) (defScope s__law_start) .none kV5 dc5 pm5 an5 cd5 ct5), sl5⟩) (c5 : PySem.W.codeIn K cd5 "_law_start" = true) (k5 : PySem.W.keepIn K (.ref f5) = true)
    (a6 : PySem.W.nsIn K mainGlobals "_law_fill" = some (some (.ref f6))) (l6 : K.lookup f6 = some ⟨oc6, od6, .func (PySem.W.fnOf "_law_fill" "_law_fill" (defArgs s__law_fill) (defBody s__law_fill) (defScope s__law_fill) .none kV6 dc6 pm6 an6 cd6 ct6), sl6⟩) (c6 : PySem.W.codeIn K cd6 "_law_fill" = true) (k6 : PySem.W.keepIn K (.ref f6) = true)
    (a7 : PySem.W.nsIn K mainGlobals "_law_divisor" = some (some (.ref f7))) (l7 : K.lookup f7 = some ⟨oc7, od7, .func (PySem.W.fnOf "_law_divisor" "_law_divisor" (defArgs s__law_divisor) (defBody s__law_divisor) (defScope s__law_divisor) .none kV7 dc7 pm7 an7 cd7 ct7), sl7⟩) (c7 : PySem.W.codeIn K cd7 "_law_divisor" = true) (k7 : PySem.W.keepIn K (.ref f7) = true)
    (a8 : PySem.W.nsIn K mainGlobals "_law_rows" = some (some (.ref f8))) (l8 : K.lookup f8 = some ⟨oc8, od8, .func (PySem.W.fnOf "_law_rows" "_law_rows" (defArgs s__law_rows) (defBody s__law_rows) (defScope s__law_rows) .none kV8 dc8 pm8 an8 cd8 ct8), sl8⟩) (c8 : PySem.W.codeIn K cd8 "_law_rows" = true) (k8 : PySem.W.keepIn K (.ref f8) = true)
    (a9 : PySem.W.nsIn K mainGlobals "_law_weight" = some (some (.ref f9))) (l9 : K.lookup f9 = some ⟨oc9, od9, .func (PySem.W.fnOf "_law_weight" "_law_weight" (defArgs s__law_weight) (defBody s__law_weight) (defScope s__law_weight) .none kV9 dc9 pm9 an9 cd9 ct9), sl9⟩) (c9 : PySem.W.codeIn K cd9 "_law_weight" = true) (k9 : PySem.W.keepIn K (.ref f9) = true)
    (a10 : PySem.W.nsIn K mainGlobals "_law_same" = some (some (.ref f10))) (l10 : K.lookup f10 = some ⟨oc10, od10, .func (PySem.W.fnOf "_law_same" "_law_same" (defArgs s__law_same) (defBody s__law_same) (defScope s__law_same) .none kV10 dc10 pm10 an10 cd10 ct10), sl10⟩) (c10 : PySem.W.codeIn K cd10 "_law_same" = true) (k10 : PySem.W.keepIn K (.ref f10) = true)
    (a11 : PySem.W.nsIn K mainGlobals "plus" = some (some (.ref f11))) (l11 : K.lookup f11 = some ⟨oc11, od11, .func (PySem.W.fnOf "plus" "plus" (defArgs s_plus) (defBody s_plus) (defScope s_plus) .none kV11 dc11 pm11 an11 cd11 ct11), sl11⟩) (c11 : PySem.W.codeIn K cd11 "plus" = true) (k11 : PySem.W.keepIn K (.ref f11) = true)
    (a12 : PySem.W.nsIn K mainGlobals "times" = some (some (.ref f12))) (l12 : K.lookup f12 = some ⟨oc12, od12, .func (PySem.W.fnOf "times" "times" (defArgs s_times) (defBody s_times) (defScope s_times) .none kV12 dc12 pm12 an12 cd12 ct12), sl12⟩) (c12 : PySem.W.codeIn K cd12 "times" = true) (k12 : PySem.W.keepIn K (.ref f12) = true)
    (a13 : PySem.W.nsIn K mainGlobals "over" = some (some (.ref f13))) (l13 : K.lookup f13 = some ⟨oc13, od13, .func (PySem.W.fnOf "over" "over" (defArgs s_over) (defBody s_over) (defScope s_over) .none kV13 dc13 pm13 an13 cd13 ct13), sl13⟩) (c13 : PySem.W.codeIn K cd13 "over" = true) (k13 : PySem.W.keepIn K (.ref f13) = true)
    (a14 : PySem.W.nsIn K mainGlobals "values_of" = some (some (.ref f14))) (l14 : K.lookup f14 = some ⟨oc14, od14, .func (PySem.W.fnOf "values_of" "values_of" (defArgs s_values_of) (defBody s_values_of) (defScope s_values_of) .none kV14 dc14 pm14 an14 cd14 ct14), sl14⟩) (c14 : PySem.W.codeIn K cd14 "values_of" = true) (k14 : PySem.W.keepIn K (.ref f14) = true)
    (a15 : PySem.W.nsIn K mainGlobals "_law_take" = some (some (.ref f15))) (l15 : K.lookup f15 = some ⟨oc15, od15, .func (PySem.W.fnOf "_law_take" "_law_take" (defArgs s__law_take) (defBody s__law_take) (defScope s__law_take) .none kV15 dc15 pm15 an15 cd15 ct15), sl15⟩) (c15 : PySem.W.codeIn K cd15 "_law_take" = true) (k15 : PySem.W.keepIn K (.ref f15) = true)
    (a16 : PySem.W.nsIn K mainGlobals "_law_events" = some (some (.ref f16))) (l16 : K.lookup f16 = some ⟨oc16, od16, .func (PySem.W.fnOf "_law_events" "_law_events" (defArgs s__law_events) (defBody s__law_events) (defScope s__law_events) .none kV16 dc16 pm16 an16 cd16 ct16), sl16⟩) (c16 : PySem.W.codeIn K cd16 "_law_events" = true) (k16 : PySem.W.keepIn K (.ref f16) = true)
    (a17 : PySem.W.nsIn K mainGlobals "_law_plus" = some (some (.ref f17))) (l17 : K.lookup f17 = some ⟨oc17, od17, .func (PySem.W.fnOf "_law_plus" "_law_plus" (defArgs s__law_plus) (defBody s__law_plus) (defScope s__law_plus) .none kV17 dc17 pm17 an17 cd17 ct17), sl17⟩) (c17 : PySem.W.codeIn K cd17 "_law_plus" = true) (k17 : PySem.W.keepIn K (.ref f17) = true)
    (a18 : PySem.W.nsIn K mainGlobals "total" = some (some (.ref f18))) (l18 : K.lookup f18 = some ⟨oc18, od18, .func (PySem.W.fnOf "total" "total" (defArgs s_total) (defBody s_total) (defScope s_total) .none kV18 dc18 pm18 an18 cd18 ct18), sl18⟩) (c18 : PySem.W.codeIn K cd18 "total" = true) (k18 : PySem.W.keepIn K (.ref f18) = true)
    (a19 : PySem.W.nsIn K mainGlobals "_law_world" = some (some (.ref f19))) (l19 : K.lookup f19 = some ⟨oc19, od19, .func (PySem.W.fnOf "_law_world" "_law_world" (defArgs s__law_world) (defBody s__law_world) (defScope s__law_world) .none kV19 dc19 pm19 an19 cd19 ct19), sl19⟩) (c19 : PySem.W.codeIn K cd19 "_law_world" = true) (k19 : PySem.W.keepIn K (.ref f19) = true)
    (a20 : PySem.W.nsIn K mainGlobals "_law_mixed" = some (some (.ref f20))) (l20 : K.lookup f20 = some ⟨oc20, od20, .func (PySem.W.fnOf "_law_mixed" "_law_mixed" (defArgs s__law_mixed) (defBody s__law_mixed) (defScope s__law_mixed) .none kV20 dc20 pm20 an20 cd20 ct20), sl20⟩) (c20 : PySem.W.codeIn K cd20 "_law_mixed" = true) (k20 : PySem.W.keepIn K (.ref f20) = true)
    (a21 : PySem.W.nsIn K mainGlobals "chance" = some (some (.ref f21))) (l21 : K.lookup f21 = some ⟨oc21, od21, .func (PySem.W.fnOf "chance" "chance" (defArgs s_chance) (defBody s_chance) (defScope s_chance) .none kV21 dc21 pm21 an21 cd21 ct21), sl21⟩) (c21 : PySem.W.codeIn K cd21 "chance" = true) (k21 : PySem.W.keepIn K (.ref f21) = true)
    (a22 : PySem.W.nsIn K mainGlobals "_law_front" = some (some (.ref f22))) (l22 : K.lookup f22 = some ⟨oc22, od22, .func (PySem.W.fnOf "_law_front" "_law_front" (defArgs s__law_front) (defBody s__law_front) (defScope s__law_front) .none kV22 dc22 pm22 an22 cd22 ct22), sl22⟩) (c22 : PySem.W.codeIn K cd22 "_law_front" = true) (k22 : PySem.W.keepIn K (.ref f22) = true)
    (a23 : PySem.W.nsIn K mainGlobals "chance_given" = some (some (.ref f23))) (l23 : K.lookup f23 = some ⟨oc23, od23, .func (PySem.W.fnOf "chance_given" "chance_given" (defArgs s_chance_given) (defBody s_chance_given) (defScope s_chance_given) .none kV23 dc23 pm23 an23 cd23 ct23), sl23⟩) (c23 : PySem.W.codeIn K cd23 "chance_given" = true) (k23 : PySem.W.keepIn K (.ref f23) = true)
    (a24 : PySem.W.nsIn K mainGlobals "adjusted" = some (some (.ref f24))) (l24 : K.lookup f24 = some ⟨oc24, od24, .func (PySem.W.fnOf "adjusted" "adjusted" (defArgs s_adjusted) (defBody s_adjusted) (defScope s_adjusted) .none kV24 dc24 pm24 an24 cd24 ct24), sl24⟩) (c24 : PySem.W.codeIn K cd24 "adjusted" = true) (k24 : PySem.W.keepIn K (.ref f24) = true)
    (a25 : PySem.W.nsIn K mainGlobals "behind_front" = some (some (.ref f25))) (l25 : K.lookup f25 = some ⟨oc25, od25, .func (PySem.W.fnOf "behind_front" "behind_front" (defArgs s_behind_front) (defBody s_behind_front) (defScope s_behind_front) .none kV25 dc25 pm25 an25 cd25 ct25), sl25⟩) (c25 : PySem.W.codeIn K cd25 "behind_front" = true) (k25 : PySem.W.keepIn K (.ref f25) = true)
    (a26 : PySem.W.nsIn K mainGlobals "front_value" = some (some (.ref f26))) (l26 : K.lookup f26 = some ⟨oc26, od26, .func (PySem.W.fnOf "front_value" "front_value" (defArgs s_front_value) (defBody s_front_value) (defScope s_front_value) .none kV26 dc26 pm26 an26 cd26 ct26), sl26⟩) (c26 : PySem.W.codeIn K cd26 "front_value" = true) (k26 : PySem.W.keepIn K (.ref f26) = true)
    (a27 : PySem.W.nsIn K mainGlobals "law" = some (some (.ref f27))) (l27 : K.lookup f27 = some ⟨oc27, od27, .func (PySem.W.fnOf "law" "law" (defArgs s_law) (defBody s_law) (defScope s_law) .none kV27 dc27 pm27 an27 cd27 ct27), sl27⟩) (c27 : PySem.W.codeIn K cd27 "law" = true) (k27 : PySem.W.keepIn K (.ref f27) = true)
    (z_abs : PySem.W.nsIn K mainGlobals "abs" = some none)
    (z_all : PySem.W.nsIn K mainGlobals "all" = some none)
    (z_any : PySem.W.nsIn K mainGlobals "any" = some none)
    (z_bool : PySem.W.nsIn K mainGlobals "bool" = some none)
    (z_dict : PySem.W.nsIn K mainGlobals "dict" = some none)
    (z_int : PySem.W.nsIn K mainGlobals "int" = some none)
    (z_isinstance : PySem.W.nsIn K mainGlobals "isinstance" = some none)
    (z_len : PySem.W.nsIn K mainGlobals "len" = some none)
    (z_max : PySem.W.nsIn K mainGlobals "max" = some none)
    (z_range : PySem.W.nsIn K mainGlobals "range" = some none)
    (z_sorted : PySem.W.nsIn K mainGlobals "sorted" = some none)
    (z_sum : PySem.W.nsIn K mainGlobals "sum" = some none)
    (z_tuple : PySem.W.nsIn K mainGlobals "tuple" = some none)
    (z_zip : PySem.W.nsIn K mainGlobals "zip" = some none)
    (g_gcd : PySem.W.nsIn K mainGlobals "gcd" = some (some (.builtin "math.gcd")))
    : ∃ fd : FuncData, (∀ (s : Shared) (v : Value), BindsTo s fd ⟨[v], []⟩ [("script", v)]) ∧ ∀ base : Heap, K.In base → base.Ns mainGlobals mg → FnOk l.prog w K mg base CX0 8 fa fd ["script"] (DL.spLaw K) := by
  have e := hfa.symm.trans (PySem.W.mg_of X G a27)
  cases e
  have D1 := defAt_mk (st := s_fraction) (ps := ["above", "below"]) X G a1 l1 c1 k1 fun _ _ _ _ _ _ us hl => match us, hl with | [_, _], _ => rfl
  have D2 := defAt_mk (st := s_rows_of) (ps := ["sizes"]) X G a2 l2 c2 k2 fun _ _ _ _ _ _ us hl => match us, hl with | [_], _ => rfl
  have D3 := defAt_mk (st := s_fits) (ps := ["row", "event"]) X G a3 l3 c3 k3 fun _ _ _ _ _ _ us hl => match us, hl with | [_, _], _ => rfl
  have D4 := defAt_mk (st := s_together) (ps := ["first", "second"]) X G a4 l4 c4 k4 fun _ _ _ _ _ _ us hl => match us, hl with | [_, _], _ => rfl
  have D5 := defAt_mk (st := s__law_start) (ps := ["script"]) X G a5 l5 c5 k5 fun _ _ _ _ _ _ us hl => match us, hl with | [_], _ => rfl
  have D6 := defAt_mk (st := s__law_fill) (ps := ["c"]) X G a6 l6 c6 k6 fun _ _ _ _ _ _ us hl => match us, hl with | [_], _ => rfl
  have D7 := defAt_mk (st := s__law_divisor) (ps := ["a", "b"]) X G a7 l7 c7 k7 fun _ _ _ _ _ _ us hl => match us, hl with | [_, _], _ => rfl
  have D8 := defAt_mk (st := s__law_rows) (ps := ["sizes"]) X G a8 l8 c8 k8 fun _ _ _ _ _ _ us hl => match us, hl with | [_], _ => rfl
  have D9 := defAt_mk (st := s__law_weight) (ps := ["told", "event"]) X G a9 l9 c9 k9 fun _ _ _ _ _ _ us hl => match us, hl with | [_, _], _ => rfl
  have D10 := defAt_mk (st := s__law_same) (ps := ["value", "due"]) X G a10 l10 c10 k10 fun _ _ _ _ _ _ us hl => match us, hl with | [_, _], _ => rfl
  have D11 := defAt_mk (st := s_plus) (ps := ["a", "b"]) X G a11 l11 c11 k11 fun _ _ _ _ _ _ us hl => match us, hl with | [_, _], _ => rfl
  have D12 := defAt_mk (st := s_times) (ps := ["a", "b"]) X G a12 l12 c12 k12 fun _ _ _ _ _ _ us hl => match us, hl with | [_, _], _ => rfl
  have D13 := defAt_mk (st := s_over) (ps := ["a", "b"]) X G a13 l13 c13 k13 fun _ _ _ _ _ _ us hl => match us, hl with | [_, _], _ => rfl
  have D14 := defAt_mk (st := s_values_of) (ps := ["world", "variables"]) X G a14 l14 c14 k14 fun _ _ _ _ _ _ us hl => match us, hl with | [_, _], _ => rfl
  have D15 := defAt_mk (st := s__law_take) (ps := ["c", "many"]) X G a15 l15 c15 k15 fun _ _ _ _ _ _ us hl => match us, hl with | [_, _], _ => rfl
  have D16 := defAt_mk (st := s__law_events) (ps := ["told", "variables"]) X G a16 l16 c16 k16 fun _ _ _ _ _ _ us hl => match us, hl with | [_, _], _ => rfl
  have D17 := defAt_mk (st := s__law_plus) (ps := ["a", "b"]) X G a17 l17 c17 k17 fun _ _ _ _ _ _ us hl => match us, hl with | [_, _], _ => rfl
  have D18 := defAt_mk (st := s_total) (ps := ["fractions"]) X G a18 l18 c18 k18 fun _ _ _ _ _ _ us hl => match us, hl with | [_], _ => rfl
  have D19 := defAt_mk (st := s__law_world) (ps := ["c"]) X G a19 l19 c19 k19 fun _ _ _ _ _ _ us hl => match us, hl with | [_], _ => rfl
  have D20 := defAt_mk (st := s__law_mixed) (ps := ["told", "ys", "event", "xs"]) X G a20 l20 c20 k20 fun _ _ _ _ _ _ us hl => match us, hl with | [_, _, _, _], _ => rfl
  have D21 := defAt_mk (st := s_chance) (ps := ["world", "event"]) X G a21 l21 c21 k21 fun _ _ _ _ _ _ us hl => match us, hl with | [_, _], _ => rfl
  have D22 := defAt_mk (st := s__law_front) (ps := ["told", "x", "u", "ys", "zs"]) X G a22 l22 c22 k22 fun _ _ _ _ _ _ us hl => match us, hl with | [_, _, _, _, _], _ => rfl
  have D23 := defAt_mk (st := s_chance_given) (ps := ["world", "event", "seen"]) X G a23 l23 c23 k23 fun _ _ _ _ _ _ us hl => match us, hl with | [_, _, _], _ => rfl
  have D24 := defAt_mk (st := s_adjusted) (ps := ["world", "xs", "ys", "zs"]) X G a24 l24 c24 k24 fun _ _ _ _ _ _ us hl => match us, hl with | [_, _, _, _], _ => rfl
  have D25 := defAt_mk (st := s_behind_front) (ps := ["world", "x", "ys", "event"]) X G a25 l25 c25 k25 fun _ _ _ _ _ _ us hl => match us, hl with | [_, _, _, _], _ => rfl
  have D26 := defAt_mk (st := s_front_value) (ps := ["world", "x", "u", "ys", "zs"]) X G a26 l26 c26 k26 fun _ _ _ _ _ _ us hl => match us, hl with | [_, _, _, _, _], _ => rfl
  have D27 := defAt_mk (st := s_law) (ps := ["script"]) X G a27 l27 c27 k27 fun _ _ _ _ _ _ us hl => match us, hl with | [_], _ => rfl
  let T : Top K mg := {
    D_fraction := ⟨_, _, D1.2.1, D1.1, k1, D1.2.2⟩,
    D_rows_of := ⟨_, _, D2.2.1, D2.1, k2, D2.2.2⟩,
    D_fits := ⟨_, _, D3.2.1, D3.1, k3, D3.2.2⟩,
    D_together := ⟨_, _, D4.2.1, D4.1, k4, D4.2.2⟩,
    D__law_start := ⟨_, _, D5.2.1, D5.1, k5, D5.2.2⟩,
    D__law_fill := ⟨_, _, D6.2.1, D6.1, k6, D6.2.2⟩,
    D__law_divisor := ⟨_, _, D7.2.1, D7.1, k7, D7.2.2⟩,
    D__law_rows := ⟨_, _, D8.2.1, D8.1, k8, D8.2.2⟩,
    D__law_weight := ⟨_, _, D9.2.1, D9.1, k9, D9.2.2⟩,
    D__law_same := ⟨_, _, D10.2.1, D10.1, k10, D10.2.2⟩,
    D_plus := ⟨_, _, D11.2.1, D11.1, k11, D11.2.2⟩,
    D_times := ⟨_, _, D12.2.1, D12.1, k12, D12.2.2⟩,
    D_over := ⟨_, _, D13.2.1, D13.1, k13, D13.2.2⟩,
    D_values_of := ⟨_, _, D14.2.1, D14.1, k14, D14.2.2⟩,
    D__law_take := ⟨_, _, D15.2.1, D15.1, k15, D15.2.2⟩,
    D__law_events := ⟨_, _, D16.2.1, D16.1, k16, D16.2.2⟩,
    D__law_plus := ⟨_, _, D17.2.1, D17.1, k17, D17.2.2⟩,
    D_total := ⟨_, _, D18.2.1, D18.1, k18, D18.2.2⟩,
    D__law_world := ⟨_, _, D19.2.1, D19.1, k19, D19.2.2⟩,
    D__law_mixed := ⟨_, _, D20.2.1, D20.1, k20, D20.2.2⟩,
    D_chance := ⟨_, _, D21.2.1, D21.1, k21, D21.2.2⟩,
    D__law_front := ⟨_, _, D22.2.1, D22.1, k22, D22.2.2⟩,
    D_chance_given := ⟨_, _, D23.2.1, D23.1, k23, D23.2.2⟩,
    D_adjusted := ⟨_, _, D24.2.1, D24.1, k24, D24.2.2⟩,
    D_behind_front := ⟨_, _, D25.2.1, D25.1, k25, D25.2.2⟩,
    D_front_value := ⟨_, _, D26.2.1, D26.1, k26, D26.2.2⟩,
    D_law := ⟨_, _, D27.2.1, D27.1, k27, D27.2.2⟩,
    z_abs := PySem.W.mg_none_of X G z_abs,
    z_all := PySem.W.mg_none_of X G z_all,
    z_any := PySem.W.mg_none_of X G z_any,
    z_bool := PySem.W.mg_none_of X G z_bool,
    z_dict := PySem.W.mg_none_of X G z_dict,
    z_int := PySem.W.mg_none_of X G z_int,
    z_isinstance := PySem.W.mg_none_of X G z_isinstance,
    z_len := PySem.W.mg_none_of X G z_len,
    z_max := PySem.W.mg_none_of X G z_max,
    z_range := PySem.W.mg_none_of X G z_range,
    z_sorted := PySem.W.mg_none_of X G z_sorted,
    z_sum := PySem.W.mg_none_of X G z_sum,
    z_tuple := PySem.W.mg_none_of X G z_tuple,
    z_zip := PySem.W.mg_none_of X G z_zip,
    g_gcd := PySem.W.mg_of X G g_gcd }
  exact ⟨_, fun s v => .of_eq rfl, fun base _ _ => ok_law T math⟩
end K64
open PySem PySem.W PyProof.Rows
set_option maxRecDepth 100000 in
set_option maxHeartbeats 0 in
theorem PySem.Challenge.cw_causeworth_k64_values_of_doors_holds : PySem.Challenge.rw_causeworth_k64_values_of_doors.Holds := by
  w_on; o_law; k_head; (case hw => w_witness2)
  k_fill
  refine DL.walkD (l := PySem.Challenge.rw_causeworth_k64_values_of_doors) (k := 8) ⟨rfl, by decide, by decide⟩ rfl rfl (fun w h Y => PySem.W.kIn_of Y) ?F
  case F =>
    intro w mg fa h KX G hmg
    refine' K64.all_mk KX G hmg ?a1 ?l1 ?c1 ?k1 ?a2 ?l2 ?c2 ?k2 ?a3 ?l3 ?c3 ?k3 ?a4 ?l4 ?c4 ?k4 ?a5 ?l5 ?c5 ?k5 ?a6 ?l6 ?c6 ?k6 ?a7 ?l7 ?c7 ?k7 ?a8 ?l8 ?c8 ?k8 ?a9 ?l9 ?c9 ?k9 ?a10 ?l10 ?c10 ?k10 ?a11 ?l11 ?c11 ?k11 ?a12 ?l12 ?c12 ?k12 ?a13 ?l13 ?c13 ?k13 ?a14 ?l14 ?c14 ?k14 ?a15 ?l15 ?c15 ?k15 ?a16 ?l16 ?c16 ?k16 ?a17 ?l17 ?c17 ?k17 ?a18 ?l18 ?c18 ?k18 ?a19 ?l19 ?c19 ?k19 ?a20 ?l20 ?c20 ?k20 ?a21 ?l21 ?c21 ?k21 ?a22 ?l22 ?c22 ?k22 ?a23 ?l23 ?c23 ?k23 ?a24 ?l24 ?c24 ?k24 ?a25 ?l25 ?c25 ?k25 ?a26 ?l26 ?c26 ?k26 ?a27 ?l27 ?c27 ?k27 ?z_abs ?z_all ?z_any ?z_bool ?z_dict ?z_int ?z_isinstance ?z_len ?z_max ?z_range ?z_sorted ?z_sum ?z_tuple ?z_zip ?g_gcd
    (case a1 => k_is)
    (case l1 => k_is)
    (case c1 => k_is)
    (case k1 => k_is)
    (case a2 => k_is)
    (case l2 => k_is)
    (case c2 => k_is)
    (case k2 => k_is)
    (case a3 => k_is)
    (case l3 => k_is)
    (case c3 => k_is)
    (case k3 => k_is)
    (case a4 => k_is)
    (case l4 => k_is)
    (case c4 => k_is)
    (case k4 => k_is)
    (case a5 => k_is)
    (case l5 => k_is)
    (case c5 => k_is)
    (case k5 => k_is)
    (case a6 => k_is)
    (case l6 => k_is)
    (case c6 => k_is)
    (case k6 => k_is)
    (case a7 => k_is)
    (case l7 => k_is)
    (case c7 => k_is)
    (case k7 => k_is)
    (case a8 => k_is)
    (case l8 => k_is)
    (case c8 => k_is)
    (case k8 => k_is)
    (case a9 => k_is)
    (case l9 => k_is)
    (case c9 => k_is)
    (case k9 => k_is)
    (case a10 => k_is)
    (case l10 => k_is)
    (case c10 => k_is)
    (case k10 => k_is)
    (case a11 => k_is)
    (case l11 => k_is)
    (case c11 => k_is)
    (case k11 => k_is)
    (case a12 => k_is)
    (case l12 => k_is)
    (case c12 => k_is)
    (case k12 => k_is)
    (case a13 => k_is)
    (case l13 => k_is)
    (case c13 => k_is)
    (case k13 => k_is)
    (case a14 => k_is)
    (case l14 => k_is)
    (case c14 => k_is)
    (case k14 => k_is)
    (case a15 => k_is)
    (case l15 => k_is)
    (case c15 => k_is)
    (case k15 => k_is)
    (case a16 => k_is)
    (case l16 => k_is)
    (case c16 => k_is)
    (case k16 => k_is)
    (case a17 => k_is)
    (case l17 => k_is)
    (case c17 => k_is)
    (case k17 => k_is)
    (case a18 => k_is)
    (case l18 => k_is)
    (case c18 => k_is)
    (case k18 => k_is)
    (case a19 => k_is)
    (case l19 => k_is)
    (case c19 => k_is)
    (case k19 => k_is)
    (case a20 => k_is)
    (case l20 => k_is)
    (case c20 => k_is)
    (case k20 => k_is)
    (case a21 => k_is)
    (case l21 => k_is)
    (case c21 => k_is)
    (case k21 => k_is)
    (case a22 => k_is)
    (case l22 => k_is)
    (case c22 => k_is)
    (case k22 => k_is)
    (case a23 => k_is)
    (case l23 => k_is)
    (case c23 => k_is)
    (case k23 => k_is)
    (case a24 => k_is)
    (case l24 => k_is)
    (case c24 => k_is)
    (case k24 => k_is)
    (case a25 => k_is)
    (case l25 => k_is)
    (case c25 => k_is)
    (case k25 => k_is)
    (case a26 => k_is)
    (case l26 => k_is)
    (case c26 => k_is)
    (case k26 => k_is)
    (case a27 => k_is)
    (case l27 => k_is)
    (case c27 => k_is)
    (case k27 => k_is)
    (case z_abs => k_is)
    (case z_all => k_is)
    (case z_any => k_is)
    (case z_bool => k_is)
    (case z_dict => k_is)
    (case z_int => k_is)
    (case z_isinstance => k_is)
    (case z_len => k_is)
    (case z_max => k_is)
    (case z_range => k_is)
    (case z_sorted => k_is)
    (case z_sum => k_is)
    (case z_tuple => k_is)
    (case z_zip => k_is)
    (case g_gcd => k_is)
