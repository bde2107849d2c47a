import PyProof.Rows.All
import Wide.All
import OpenK.AllK
import Wide.FinOn
import HandS.ForMost
import HandS.Zip
import KE.GoesEnum
import HandS.Gcd
import HandS.IsInst
import HandS.Wide
import HandS.TupAny
import HandS.SortRule
import HandS.SortInts
import HandS.Style
import HandS.Flow
import KE.KDictKeyed
import KE.KeyNested
import KE.DataEq
import KE.SortData
import KE.DataMinMax
import HandS.Conv
import KE.KDictZip
import HandS.MapObj
import HandS.More
import PyProof.ReprRoads
import PyProof.Draws
import PyProof.EnumMake
import KE.KDictWalk
import KE.KDictCopyH
import PyProof.SumWalkG
import HandS.TupLe
import PySem.Challenge.RW_causeworth_k13_sayings_that_hold
import PyProof.ReprLen
set_option Elab.async false
set_option linter.all false
set_option maxRecDepth 100000
/-! ## what is gone through: a list or a tuple; zip and enumerate over them, the pairs known to have no dict -/
namespace DL
open PySem PySem.Spec PyProof.Rows L2
inductive Kd where
  | l
  | t
namespace Kd
def Sq (K : PySem.W.Frag) : Kd → Hp → Addr → List V → Prop
  | .l => SqL K
  | .t => SqT K
/-- its walker w stands at the place i -/
def Wk : Kd → Heap → Addr → Addr → Nat → Prop
  | .l => fun h w a i => h.IsListIter w a i
  | .t => fun h w a i => h.IsTupleIter w a i
def Has : Kd → Heap → Addr → Array Value → Prop
  | .l => fun h a vs => h.IsList a vs
  | .t => fun h a vs => h.IsTuple a vs
/-- the walker's object when it begins -/
def obj0 (a : Addr) : Kd → Obj
  | .l => { cls := .type "list_iterator", data := .fields #[.ref a, .int 0 0] }
  | .t => { cls := .type "tuple_iterator", data := .fields #[.ref a, .int 0 0] }
theorem begins (k : Kd) (a : Addr) (vs : Array Value) : Begins (.ref a) (k.obj0 a) fun h => k.Has h a vs := match k with
  | .l => begins_list a vs
  | .t => begins_tuple a vs
theorem wk0 (k : Kd) {h : Heap} {w a : Addr} (e : h.get? w = some (k.obj0 a)) : k.Wk h w a 0 := match k, e with
  | .l, e => ⟨_, e, rfl, rfl⟩
  | .t, e => ⟨_, e, rfl, rfl⟩
theorem wk_at (k : Kd) {h h' : Heap} {w a : Addr} {i : Nat} (x : k.Wk h w a i) (m : ∀ o, h.get? w = some o → h'.get? w = some o) : k.Wk h' w a i := match k, x with
  | .l, ⟨o, e, r⟩ => ⟨o, m o e, r⟩
  | .t, ⟨o, e, r⟩ => ⟨o, m o e, r⟩
theorem wk_obj (k : Kd) {h : Heap} {w a : Addr} {i : Nat} (x : k.Wk h w a i) : ∃ o, h.get? w = some o ∧ ∀ v, o.data ≠ .cell v := match k, x with
  | .l, ⟨o, e, _, d⟩ => ⟨o, e, fun v z => by rw [d] at z; cases z⟩
  | .t, ⟨o, e, _, d⟩ => ⟨o, e, fun v z => by rw [d] at z; cases z⟩
theorem has_at (k : Kd) {h h' : Heap} {a : Addr} {vs : Array Value} (x : k.Has h a vs) (m : ∀ o, h.get? a = some o → h'.get? a = some o) : k.Has h' a vs := match k, x with
  | .l, ⟨o, e, r⟩ => ⟨o, m o e, r⟩
  | .t, ⟨o, e, r⟩ => ⟨o, m o e, r⟩
theorem has_lt (k : Kd) {h : Heap} {a : Addr} {vs : Array Value} (x : k.Has h a vs) : a < h.objs.size := match k, x with
  | .l, ⟨_, e, _⟩ => Heap.lt_size e
  | .t, ⟨_, e, _⟩ => Heap.lt_size e
/-- what the walker draws from the place m on -/
theorem draws (k : Kd) {P : Program} {w : World} {A : Around} (hh : A.handled = none) {it a : Addr} (ne : a ≠ it) (vs : Array Value) (m : Nat) :
    Draws P w A it [it, a] (max m vs.size) (fun i x => vs[i]? = some x) (fun i h => m ≤ i ∧ k.Wk h it a i ∧ k.Has h a vs) where
  live := fun i h st => (k.wk_obj st.2.1).imp fun o z => z.1
  frame := fun i h h' st mv => ⟨st.1, k.wk_at st.2.1 (mv it (by simp)), k.has_at st.2.2 (mv a (by simp))⟩
  item := fun i s Q E hi st next => by
    have hlt : i < vs.size := by have := st.1; omega
    have here : vs[i]? = some vs[i] := Array.getElem?_eq_getElem hlt
    cases k with
    | l => exact wpAny_nextOf_list_item st.2.1 st.2.2 here fun h' walker same => next vs[i] h' s.toks here ⟨Nat.le_succ_of_le st.1, walker, st.2.2.extBut same.extBut ne⟩ same
    | t => exact wpAny_nextOf_tuple_item st.2.1 st.2.2 here fun h' walker same => next vs[i] h' s.toks here ⟨Nat.le_succ_of_le st.1, walker, st.2.2.extBut same.extBut ne⟩ same
  done := fun s Q E st stop => by
    have gone : vs[max m vs.size]? = none := Array.getElem?_eq_none (Nat.le_max_right _ _)
    cases k with
    | l => exact wpAny_nextOf_list_end hh st.2.1 st.2.2 gone stop
    | t => exact wpAny_nextOf_tuple_end hh st.2.1 st.2.2 gone stop
section
variable {X : Cx} {pins : List (Addr × Obj)} {σ : L2.St} {H : Hp} {s : Shared} {a : Addr} {xs ys : List V}
theorem told (k : Kd) (I : Inv X pins σ H s) (q : k.Sq X.K H a xs) : ∃ us : List Value, Vals xs us ∧ k.Has s.heap a us.toArray := match k, q with
  | .l, q => let ⟨us, r, p, _⟩ := I.list q; ⟨us, r, p.isList⟩
  | .t, q => let ⟨us, r, p, _⟩ := I.tuple q; ⟨us, r, p⟩
theorem same (k : Kd) (I : Inv X pins σ H s) (q : k.Sq X.K H a xs) (q' : k.Sq X.K H a ys) : xs = ys := match k, q, q' with
  | .l, q, q' => I.list_inj q q'
  | .t, q, q' => I.tuple_inj q q'
end
end Kd
/-- a walker is not what it goes through: their classes differ -/
theorem k1_apart (k : Kd) {h : Heap} {it a : Addr} {i : Nat} {vs : Array Value} (p : k.Has h a vs) (x : k.Wk h it a i) : a ≠ it := by
  rintro rfl
  cases k with
  | l =>
    obtain ⟨o, e, c, _⟩ := p
    obtain ⟨o', e', c', _⟩ := x
    cases e.symm.trans e'
    exact absurd (c.symm.trans c') (by decide)
  | t =>
    obtain ⟨o, e, c, _⟩ := p
    obtain ⟨o', e', c', _⟩ := x
    cases e.symm.trans e'
    exact absurd (c.symm.trans c') (by decide)
abbrev pairObj (u v : Value) : Obj := { cls := .type "tuple", data := .seq #[u, v] }
section
variable {X : Cx} {pins : List (Addr × Obj)} {σ : L2.St} {H : Hp} {s : Shared}
/-- a turn has laid a new pair behind the heap's end -/
theorem pair_new {ch : List Addr} {h' : Heap} {tk : Nat} {x y : V} {u v : Value} (I : Inv X pins σ H s) (out : ∀ b ∈ ch, FpOk X pins H b) (mv : ∀ b o, b ∉ ch → s.heap.get? b = some o → h'.get? b = some o)
    (e : h'.get? s.heap.objs.size = some (pairObj u v)) (rx : RelV x u) (ry : RelV y v) : Inv X pins σ (upd H s.heap.objs.size (.frz (pairObj u v) (.tup [x, y]))) { s with heap := h', toks := tk } :=
  I.turnedNew mv out (Nat.le_refl _) ⟨e, (by decide : 2 ≤ sizeLine), [u, v], .cons rx (.cons ry .nil), pairObj u v, e, rfl, _, rfl⟩
theorem cells_none {ch : List Addr} {u : HO} (out : ∀ b ∈ ch, FpOk X pins H b) (there : ∀ b ∈ ch, ∃ o, s.heap.get? b = some o) (b : Addr) (hb : b ∈ ch) : upd H s.heap.objs.size u b = none := by
  obtain ⟨o, e⟩ := there b hb
  rw [upd_ne (Nat.ne_of_lt (Heap.lt_size e))]
  exact (out b hb).1
end
theorem refs2 {x y : V} {us : List Value} (r : Vals [x, y] us) : ∃ u v, us = [u, v] ∧ RelV x u ∧ RelV y v := match r with
  | .cons p (.cons q .nil) => ⟨_, _, rfl, p, q⟩
def ItzK (k1 k2 : Kd) (K : PySem.W.Frag) (a b : Addr) : It where
  go i H := ∃ (xs ys : List V) (x y : V), k1.Sq K H a xs ∧ k2.Sq K H b ys ∧ xs[i]? = some x ∧ ys[i]? = some y
  yld i H v H' := ∃ T o x y, v = .ref T ∧ H T = none ∧ o.dict = none ∧ H' = upd H T (.frz o (.tup [x, y])) ∧ (∀ xs, k1.Sq K H a xs → xs[i]? = some x) ∧ ∀ ys, k2.Sq K H b ys → ys[i]? = some y
  stop i H := ∃ xs ys : List V, k1.Sq K H a xs ∧ k2.Sq K H b ys ∧ (xs.length ≤ i ∨ ys.length ≤ i)
theorem vals_arr {xs : List V} {us : List Value} {i : Nat} {x : V} {u : Value} (r : Vals xs us) (hx : xs[i]? = some x) (hu : us.toArray[i]? = some u) : RelV x u := by
  obtain ⟨u', e, rl⟩ := r.get hx
  rw [List.getElem?_toArray, e] at hu
  cases hu
  exact rl
theorem vals_lt {xs : List V} {us : List Value} {i : Nat} {x : V} (r : Vals xs us) (hx : xs[i]? = some x) : i < us.toArray.size := by
  rw [List.size_toArray, ← r.length]
  exact (List.getElem?_eq_some_iff.mp hx).1
/-- what stands in the five cells of a zip ahead of the turn i -/
def ZipAt (k1 k2 : Kd) (z TI TO i1 i2 a b : Addr) (i : Nat) (h : Heap) : Prop :=
  IsZip h z TI TO .none ∧ IsTupOf2 h TI (.ref i1) (.ref i2) ∧ (∃ u v, IsTupOf2 h TO u v) ∧ k1.Wk h i1 a i ∧ k2.Wk h i2 b i
theorem ZipAt.there {k1 k2 : Kd} {z TI TO i1 i2 a b : Addr} {i : Nat} {h : Heap} (st : ZipAt k1 k2 z TI TO i1 i2 a b i h) (c : Addr) (hc : c ∈ [z, TI, TO, i1, i2]) : ∃ o, h.get? c = some o ∧ ∀ v, o.data ≠ .cell v := by
  obtain ⟨s1, s2, ⟨_, _, s3⟩, s4, s5⟩ := st
  simp only [List.mem_cons, List.not_mem_nil, or_false] at hc
  rcases hc with rfl | rfl | rfl | rfl | rfl
  · exact ⟨_, s1, nofun⟩
  · exact ⟨_, s2, nofun⟩
  · exact ⟨_, s3, nofun⟩
  · exact k1.wk_obj s4
  · exact k2.wk_obj s5
theorem turn_zipK (k1 k2 : Kd) {P : Program} {w : World} {K : PySem.W.Frag} {elts : List Expr} {kk : Nat} {tpos : Pos} {z TI TO i1 i2 a b : Addr} (S : ZipSep2 z TI TO i1 i2 [i1, a] [i2, b]) :
    Turn P w K (.Tuple elts kk tpos) (ItzK k1 k2 K a b) [z, TI, TO, i1, i2] z (ZipAt k1 k2 z TI TO i1 i2 a b) where
  mem := List.mem_cons_self
  obj := fun i h st => st.there
  keep := fun i h h' ⟨s1, s2, ⟨u, v, s3⟩, s4, s5⟩ mv => ⟨mv z (by simp) _ s1, mv TI (by simp) _ s2, ⟨u, v, mv TO (by simp) _ s3⟩, k1.wk_at s4 (mv i1 (by simp)), k2.wk_at s5 (mv i2 (by simp))⟩
  item := by
    rintro X rfl rfl rfl calm i pins s σ H E I out st ⟨xs, ys, x, y, qx, qy, hx, hy⟩
    have there := fun c hc => (st.there c hc).imp fun o z => z.1
    obtain ⟨s1, s2, ⟨u0, v0, s3⟩, s4, s5⟩ := st
    obtain ⟨us, rx, px⟩ := k1.told I qx
    obtain ⟨vs, ry, py⟩ := k2.told I qy
    have D1 := k1.draws (P := X.prog) (w := X.w) (A := X.A.in1) (I.ok.hd calm) (k1_apart k1 px s4) us.toArray i
    have D2 := k2.draws (P := X.prog) (w := X.w) (A := X.A.in1) (I.ok.hd calm) (k1_apart k2 py s5) vs.toArray i
    refine wpAny_pyNext_zipD2_item S D1 D2 s1 s2 s3 ⟨Nat.le_refl _, s4, px⟩ ⟨Nat.le_refl _, s5, py⟩
      (Nat.lt_of_lt_of_le (vals_lt rx hx) (Nat.le_max_right _ _)) (Nat.lt_of_lt_of_le (vals_lt ry hy) (Nat.le_max_right _ _)) ?_
    intro u v h1 tk hu hv z1 o1 w1 w2 pair _ mv
    refine ⟨_, rfl, wpAny_letOwnedTupleGo_zip (s := { s with heap := h1, toks := tk }) z1 fun h2 z2 only => ?_⟩
    have zlt : z < s.heap.objs.size := Heap.lt_size s1
    have back : ∀ c o, c ≠ z → h1.get? c = some o → h2.get? c = some o := fun c o n e => (only.2 c n).trans e
    have mv' : ∀ c o, c ∉ [z, TI, TO, i1, i2] → s.heap.get? c = some o → h2.get? c = some o := fun c o n e => by
      simp only [List.mem_cons, List.not_mem_nil, or_false, not_or] at n
      exact back c o n.1 (mv c o n.1 n.2.2.1 n.2.2.2.1 n.2.2.2.2 e)
    have TIold := mv TI _ S.TIz S.TITO S.TIi1 S.TIi2 s2
    exact ⟨.ref s.heap.objs.size, _, pair_new (s := s) I out mv' (back _ _ (Nat.ne_of_gt zlt) pair) (vals_arr rx hx hu) (vals_arr ry hy hv), rfl,
      ⟨_, _, x, y, rfl, I.hok.fresh (Nat.le_refl _), rfl, rfl, fun l q => (k1.same I q qx) ▸ hx, fun l q => (k2.same I q qy) ▸ hy⟩,
      ⟨z2, back _ _ S.TIz TIold, ⟨u, v, back _ _ S.TOz o1⟩, k1.wk_at w1.2.1 fun o => back i1 o S.zi1.symm, k2.wk_at w2.2.1 fun o => back i2 o S.zi2.symm⟩,
      cells_none (s := s) out there⟩
  done := by
    rintro X rfl rfl rfl calm i pins s σ H E I out ⟨s1, s2, ⟨u0, v0, s3⟩, s4, s5⟩ ⟨xs, ys, qx, qy, short⟩
    obtain ⟨us, rx, px⟩ := k1.told I qx
    obtain ⟨vs, ry, py⟩ := k2.told I qy
    have lx : us.toArray.size = xs.length := by rw [List.size_toArray, rx.length]
    have ly : vs.toArray.size = ys.length := by rw [List.size_toArray, ry.length]
    have D1 := k1.draws (P := X.prog) (w := X.w) (A := X.A.in1) (I.ok.hd calm) (k1_apart k1 px s4) us.toArray i
    have D2 := k2.draws (P := X.prog) (w := X.w) (A := X.A.in1) (I.ok.hd calm) (k1_apart k2 py s5) vs.toArray i
    refine wpAny_pyNext_zipD2_end S D1 D2 s1 s2 s3 ⟨Nat.le_refl _, s4, px⟩ ⟨Nat.le_refl _, s5, py⟩
      (Nat.le_max_left _ _) (Nat.le_max_left _ _) (by omega) fun h1 tk mv => ⟨rfl, I.turnedL (fun c o n e => ?_) out⟩
    simp only [List.mem_cons, List.not_mem_nil, or_false, not_or] at n
    exact mv c o n.1 n.2.2.1 n.2.2.2.1 n.2.2.2.2 e
  self := fun A i s Q E st => wpAny_pyIter_zip st.1
def IteK (k : Kd) (K : PySem.W.Frag) (a : Addr) : It where
  go i H := ∃ (xs : List V) (x : V), k.Sq K H a xs ∧ xs[i]? = some x
  yld i H v H' := ∃ T o x, v = .ref T ∧ H T = none ∧ o.dict = none ∧ H' = upd H T (.frz o (.tup [.int (i : Nat), x])) ∧ ∀ xs, k.Sq K H a xs → xs[i]? = some x
  stop i H := ∃ xs : List V, k.Sq K H a xs ∧ xs.length ≤ i
def EnumAt (k : Kd) (e it a : Addr) (i : Nat) (h : Heap) : Prop := (∃ old, IsEnum h e it ((i : Nat) : Int) old) ∧ k.Wk h it a i
theorem EnumAt.there {k : Kd} {e it a : Addr} {i : Nat} {h : Heap} (st : EnumAt k e it a i h) (c : Addr) (hc : c ∈ [e, it]) : ∃ o, h.get? c = some o ∧ ∀ v, o.data ≠ .cell v := by
  obtain ⟨⟨_, s1⟩, s2⟩ := st
  simp only [List.mem_cons, List.not_mem_nil, or_false] at hc
  rcases hc with rfl | rfl
  · exact ⟨_, s1, nofun⟩
  · exact k.wk_obj s2
theorem turn_enumK (k : Kd) {P : Program} {w : World} {K : PySem.W.Frag} {elts : List Expr} {kk : Nat} {tpos : Pos} {e it a : Addr} (ne : e ≠ it) (na : e ≠ a) :
    Turn P w K (.Tuple elts kk tpos) (IteK k K a) [e, it] e (EnumAt k e it a) where
  mem := List.mem_cons_self
  obj := fun i h st => st.there
  keep := fun i h h' ⟨⟨u, s1⟩, s2⟩ mv => ⟨⟨u, mv e (by simp) _ s1⟩, k.wk_at s2 (mv it (by simp))⟩
  item := by
    rintro X rfl rfl rfl calm i pins s σ H E I out st ⟨xs, x, qx, hx⟩
    have there := fun c hc => (st.there c hc).imp fun o z => z.1
    obtain ⟨⟨u0, s1⟩, s2⟩ := st
    obtain ⟨us, rx, px⟩ := k.told I qx
    have D1 := k.draws (P := X.prog) (w := X.w) (A := X.A.in1) (I.ok.hd calm) (k1_apart k px s2) us.toArray i
    refine wpAny_pyNext_enum_itemC D1 s1 ⟨Nat.le_refl _, s2, px⟩ (Nat.lt_of_lt_of_le (vals_lt rx hx) (Nat.le_max_right _ _)) ne (by simp [ne, na]) ?_
    intro u h1 tk hu e1 w1 pair _ mv
    refine ⟨_, rfl, wpAny_letOwnedTupleGo_enum (s := { s with heap := h1, toks := tk + 1 }) e1 fun h2 e2 only => ?_⟩
    have back : ∀ c o, c ≠ e → h1.get? c = some o → h2.get? c = some o := fun c o n z => (only.2 c n).trans z
    have mv' : ∀ c o, c ∉ [e, it] → s.heap.get? c = some o → h2.get? c = some o := fun c o n z => by
      simp only [List.mem_cons, List.not_mem_nil, or_false, not_or] at n
      exact back c o n.1 (mv c o n.1 n.2 z)
    exact ⟨.ref s.heap.objs.size, _, pair_new (s := s) I out mv' (back _ _ (Nat.ne_of_gt (Heap.lt_size s1)) pair) (x := .int (i : Nat)) ⟨tk, rfl⟩ (vals_arr rx hx hu), rfl,
      ⟨_, _, x, rfl, I.hok.fresh (Nat.le_refl _), rfl, rfl, fun l q => (k.same I q qx) ▸ hx⟩, ⟨⟨u, by rw [Int.natCast_add]; exact e2⟩, k.wk_at w1.2.1 fun o => back it o ne.symm⟩, cells_none (s := s) out there⟩
  done := by
    rintro X rfl rfl rfl calm i pins s σ H E I out ⟨⟨u0, s1⟩, s2⟩ ⟨xs, qx, short⟩
    obtain ⟨us, rx, px⟩ := k.told I qx
    have D1 := k.draws (P := X.prog) (w := X.w) (A := X.A.in1) (I.ok.hd calm) (k1_apart k px s2) us.toArray i
    have all : max i us.toArray.size = i := by
      rw [List.size_toArray, ← rx.length]
      omega
    rw [all] at D1
    exact wpAny_pyNext_enum_endD D1 s1 ⟨Nat.le_refl _, s2, px⟩ fun h1 only => ⟨rfl, I.turnedL (t' := s.toks) (fun c o n z => only c o (fun q => n (by simp [q])) z) out⟩
  self := fun A i s Q E st => wpAny_pyIter_enum st.1.choose_spec
section
variable {X : Cx} {pins : List (Addr × Obj)} {σ : L2.St} {H : Hp} {s : Shared} {a b : Addr} {xs ys : List V} {elts : List Expr} {kk : Nat} {tpos : Pos}
/-- enumerate(..) begun -/
theorem enum_begun (k : Kd) {R : It → Hp → Prop} {h' : Heap} {N : Nat} (I : Inv X pins σ H s) (old : ∀ b o, s.heap.get? b = some o → h'.get? b = some o) (up : s.heap.objs.size ≤ N) (low : a < N) (en : IsEnum h' (N + 1) N 0 .none) (wk : k.Wk h' N a 0) (hR : R (IteK k X.K a) H) :
    PIE X pins σ (.Tuple elts kk tpos) R (.ref (N + 1)) { s with heap := h' } := by
  refine ⟨_, [N + 1, N], _, _, H, rfl, I.kept (t' := s.toks) old, turn_enumK k (Nat.succ_ne_self N) (Nat.ne_of_gt (Nat.lt_succ_of_lt low)), ⟨⟨_, en⟩, wk⟩, fun c hc => ?_, hR⟩
  have le : s.heap.objs.size ≤ c := by
    simp only [List.mem_cons, List.not_mem_nil, or_false] at hc
    rcases hc with rfl | rfl
    · exact Nat.le_succ_of_le up
    · exact up
  exact I.fpOk le (I.hok.fresh le)
/-- zip(..) made and begun -/
theorem zip_made (k1 k2 : Kd) {R : It → Hp → Prop} (I : Inv X pins σ H s) (qx : k1.Sq X.K H a xs) (qy : k2.Sq X.K H b ys) (hR : R (ItzK k1 k2 X.K a b) H) :
    wpAny (model X.prog X.w) X.A (call (.type "zip") [.ref a, .ref b]) (fun v s1 => wpAny (model X.prog X.w) X.A (pyIter v) (PIE X pins σ (.Tuple elts kk tpos) R) X.xe s1) X.xe s := by
  obtain ⟨us, rx, px⟩ := k1.told I qx
  obtain ⟨vs, ry, py⟩ := k2.told I qy
  refine zip_begins2 (k1.begins a us.toArray) (k2.begins b vs.toArray) px py fun h' z p o w1 w2 _ old => wpAny_pyIter_zip z ?_
  refine ⟨_, [s.heap.objs.size + 4, s.heap.objs.size + 2, s.heap.objs.size + 3, s.heap.objs.size, s.heap.objs.size + 1], _, _, H, rfl, I.kept (t' := s.toks) old,
    turn_zipK k1 k2 (zip_sep2 (N := s.heap.objs.size) (fp1 := [a]) (fp2 := [b]) (fun c hc => ?_) (fun c hc => ?_)), ⟨z, p, ⟨_, _, o⟩, k1.wk0 w1, k2.wk0 w2⟩, fun c hc => ?_, hR⟩
  · rw [List.mem_singleton.mp hc]; exact k1.has_lt px
  · rw [List.mem_singleton.mp hc]; exact k2.has_lt py
  · have up : s.heap.objs.size ≤ c := by
      simp only [List.mem_cons, List.not_mem_nil, or_false] at hc
      rcases hc with rfl | rfl | rfl | rfl | rfl <;> first | exact Nat.le_add_right _ _ | exact Nat.le_refl _
    exact I.fpOk up (I.hok.fresh up)
end
end DL

set_option Elab.async false
set_option linter.all false
set_option maxRecDepth 100000
/-! New tuples are laid as objects that are known to have no dict of their own (frz): dict(t) asks that. -/
namespace DL
open PySem PySem.Spec PyProof.Rows L2
section
variable {X : Cx} {pos : Pos} {es : List Expr} {t : TA}
theorem frz_new {P : Program} {w : World} {H : Hp} {h : Heap} {p : Addr} {vs : List Value} {xs : List V} (e : h.get? p = some { cls := .type "tuple", data := .seq vs.toArray }) (z : xs.length ≤ sizeLine) (r : Vals xs vs) :
    ObjOk P w H h p (.frz { cls := .type "tuple", data := .seq vs.toArray } (.tup xs)) := ⟨e, z, vs, r, ⟨_, e, rfl, _, rfl⟩⟩
/-- THE END of every rule that lays a new tuple -/
theorem tup_end {pins : List (Addr × Obj)} {σ : L2.St} {H : Hp} {s : Shared} {xs : List V} {us : List Value} {Q : VK} (I : Inv X pins σ H s) (r : Vals xs us) (z : xs.length ≤ sizeLine)
    (q : ∀ (p : Addr) (o : Obj), H p = none → o.dict = none → Q (.ref p) (upd H p (.frz o (.tup xs)))) : EP X pins σ Q (.ref s.heap.objs.size) { s with heap := s.heap.push { cls := .type "tuple", data := .seq us.toArray } } :=
  ⟨.ref s.heap.objs.size, _, I.laid (t' := s.toks) (fun _ _ => Heap.get?_push_of_some _) (Nat.le_refl _) (frz_new (Heap.get?_push_size _ rfl) z r), rfl, q _ _ (I.hok.fresh (Nat.le_refl _)) rfl⟩
def tTupZ (t : TA) : TE := fun σ H Q => t σ H fun xs H1 => xs.length ≤ sizeLine ∧ ∀ (p : Addr) (o : Obj), H1 p = none → o.dict = none → Q (.ref p) (upd H1 p (.frz o (.tup xs)))
theorem pe_tupZ {x1} (h : PA X es t) : PE X (.Tuple es x1 pos) (tTupZ t) where
  run pins s σ H Q I w := wpAny_Tuple_spliced (thn (h.run pos pins s σ H _ I w) fun _ _ ⟨_, _, J, r, z, q⟩ => ⟨r.length ▸ z, tup_end J r z q⟩)
def rCatZ (K : PySem.W.Frag) : R2 := fun x y H Q => ∃ a b xs ys, x = .ref a ∧ y = .ref b ∧ SqT K H a xs ∧ SqT K H b ys ∧ xs.length + ys.length ≤ sizeLine ∧
  (xs = [] → Q (.ref b) H) ∧ (xs ≠ [] → ys = [] → Q (.ref a) H) ∧ (xs ≠ [] → ys ≠ [] → ∀ (p : Addr) (o : Obj), H p = none → o.dict = none → Q (.ref p) (upd H p (.frz o (.tup (xs ++ ys)))))
theorem op_catZ : OpR X (binaryOp .Add) (rCatZ X.K) := by
  rintro pins s σ H _ _ _ _ Q I e1 e2 ⟨a, b, xs, ys, rfl, rfl, ta, tb, z, q0, q1, q2⟩
  cases e1
  cases e2
  obtain ⟨us, ru, pu, _⟩ := I.tuple ta
  obtain ⟨ws, rw', pw, _⟩ := I.tuple tb
  by_cases n : us = []
  · subst n
    exact cat_tup0 pu pw ⟨.ref b, H, I, rfl, q0 (ru.nil_iff.mp rfl)⟩
  · exact HT.cat_tup pu pw n (fun e => ⟨.ref a, H, I, rfl, q1 (n ∘ ru.nil_iff.mpr) (rw'.nil_iff.mp e)⟩)
      (fun m => tup_end I (ru.append rw') (by rwa [List.length_append]) (q2 (n ∘ ru.nil_iff.mpr) (m ∘ rw'.nil_iff.mpr))) (by rwa [← ru.length, ← rw'.length])
def rSlZ (K : PySem.W.Frag) : V → Option Int → Option Int → Hp → VK → Prop := fun x lo hi H Q => ∃ a xs, x = .ref a ∧ SqT K H a xs ∧
  (HT.sIx xs.length 0 lo = 0 ∧ HT.sIx xs.length xs.length hi = xs.length → Q (.ref a) H) ∧ (¬ (HT.sIx xs.length 0 lo = 0 ∧ HT.sIx xs.length xs.length hi = xs.length) → ∀ (p : Addr) (o : Obj), H p = none → o.dict = none → Q (.ref p) (upd H p (.frz o (.tup (cutV xs lo hi)))))
theorem sl_tupZ : SlR X (rSlZ X.K) := by
  rintro pins s σ H _ _ vl vu lo hi sl Q I e isl pl pu ⟨a, xs, rfl, ta, q1, q2⟩
  cases e
  obtain ⟨us, r, p, z⟩ := I.tuple ta
  have n : us.toArray.size = xs.length := List.size_toArray.trans r.length.symm
  refine ⟨"tuple", _, PyProof.Rows.slot_tuple_getitem.lookup, p.typeIs, ?_⟩
  by_cases c : HT.sIx xs.length 0 lo = 0 ∧ HT.sIx xs.length xs.length hi = xs.length
  · exact getItem_tuple_whole p isl pl pu (n ▸ c) ⟨.ref a, H, I, rfl, q1 c⟩
  · refine HT.getItem_tuple_cut p isl pl pu (n ▸ c) ?_ (n ▸ z)
    rw [n]
    exact tup_end I ((r.drop _).take _) (Nat.le_trans (cutV_length xs lo hi) z) (q2 c)
def rTupleZ (K : PySem.W.Frag) : List V → Hp → VK → Prop := fun xs H Q => ∃ p ys, xs = [.ref p] ∧ ((SqL K H p ys ∧ ∀ (l : Addr) (o : Obj), H l = none → o.dict = none → Q (.ref l) (upd H l (.frz o (.tup ys)))) ∨ (SqT K H p ys ∧ Q (.ref p) H))
theorem call_tupleZ : CallR X (.type "tuple") (rTupleZ X.K) := by
  rintro pins s σ H _ us Q I r ⟨p, ys, rfl, w⟩
  obtain ⟨_, rfl, e⟩ := vals1 r
  cases e
  rcases w with ⟨c, q⟩ | ⟨c, q⟩
  · obtain ⟨its, ri, pl, z⟩ := I.list c
    exact call_tuple_list pl.isList (fun h' old => tup_end (I.kept (t' := s.toks) old) ri z q) (by rw [List.size_toArray, ← ri.length]; exact z)
  · obtain ⟨_, _, pt, _⟩ := I.tuple c
    exact call_tuple_same pt ⟨.ref p, H, I, rfl, q⟩
/-! zip, enumerate: DL1 -/
abbrev ItzTZ (K : PySem.W.Frag) (a b : Addr) : It := ItzK .t .t K a b
abbrev ItzLZ (K : PySem.W.Frag) (a b : Addr) : It := ItzK .l .l K a b
abbrev IteZ (K : PySem.W.Frag) (a : Addr) : It := IteK .l K a
end
def iZipZ (K : PySem.W.Frag) (ta : TA) : TI := fun σ H R => ta σ H fun vs H1 => ∃ a b xs ys, vs = [.ref a, .ref b] ∧ ((SqL K H1 a xs ∧ SqL K H1 b ys ∧ R (ItzLZ K a b) H1) ∨ (SqT K H1 a xs ∧ SqT K H1 b ys ∧ R (ItzTZ K a b) H1))
theorem pi_zipZ {X : Cx} {e e2 : Expr} {ta : TA} {p pos tpos : Pos} {elts : List Expr} {kk : Nat} (hg : Gl X "zip") (hm : X.mg "zip" = none) (ha : PA X [e, e2] ta)
    (hs : starEach [e, e2] X.env = (false, eval e X.env) :: starEach [e2] X.env := by rfl) (hpl : (backTo pos (starEach [e2] X.env)).any (·.1) = false := by rfl) :
    PI X (.Tuple elts kk tpos) (.Call (.Name "zip" p) [e, e2] [] pos) (iZipZ X.K ta) := by
  refine ⟨fun pins s σ H R I w => Call_ (ld_blt I hg hm PyProof.Rows.boot_zip (PyProof.Rows.callWith_type1 (thn (ha.run pos pins s σ H _ I w) ?_) hs hpl))⟩
  rintro us s1 ⟨_, H1, J, r, a, b, xs, ys, rfl, which⟩
  obtain ⟨_, _, rfl, e1, e2⟩ := refs2 r
  cases e1
  cases e2
  rcases which with ⟨qx, qy, q⟩ | ⟨qx, qy, q⟩
  · exact zip_made .l .l J qx qy q
  · exact zip_made .t .t J qx qy q
def iEnumZ (K : PySem.W.Frag) (ta : TA) : TI := fun σ H R => ta σ H fun vs H1 => ∃ a xs, vs = [.ref a] ∧ SqL K H1 a xs ∧ R (IteZ K a) H1
theorem pi_enumZ {X : Cx} {e : Expr} {ta : TA} {p pos tpos : Pos} {elts : List Expr} {kk : Nat} (hg : Gl X "enumerate") (hm : X.mg "enumerate" = none) (ha : PA X [e] ta) (hs : starEach [e] X.env = [(false, eval e X.env)] := by rfl) :
    PI X (.Tuple elts kk tpos) (.Call (.Name "enumerate" p) [e] [] pos) (iEnumZ X.K ta) := by
  refine ⟨fun pins s σ H R I w => Call_ (ld_blt I hg hm boot_enumerate (PyProof.Rows.callWith_type1 (thn (ha.run pos pins s σ H _ I w) ?_) hs rfl))⟩
  rintro us s1 ⟨_, H1, J, r, a, xs, rfl, qx, q⟩
  obtain ⟨_, rfl, e⟩ := vals1 r
  cases e
  obtain ⟨its, _, p, _⟩ := J.list qx
  exact call_enumerate_list p.isList fun h' en wk _ old => wpAny_pyIter_enum en (enum_begun .l J old (Nat.le_refl _) p.lt en wk q)
end DL

set_option Elab.async false
set_option linter.all false
set_option maxRecDepth 100000
set_option maxHeartbeats 1000000
namespace DL
open PySem PySem.Spec PyProof.Rows L2
/-! ## 33. a dict keyed by nested tuples, as an object of the abstract heap -/
abbrev DnX := List (NestedKey × Addr × V)
def RD : DnX → List (NestedKey × Addr × Value) → Prop := Paired fun p q => p.1 = q.1 ∧ p.2.1 = q.2.1 ∧ RelV p.2.2 q.2.2
def DnP (P : Program) (w : World) (a : Addr) (xs : DnX) (o : Obj) (h : Heap) : Prop :=
  (a == sysModules) = false ∧ xs.length ≤ sizeLine ∧ h.get? a = some o ∧ ∃ ys, RD xs ys ∧ ∃ es ep, o.ExactDict ∧ o.data = .dict es ep ∧ es.toList = ys.map (entryOfKey (nestedKind P w)) ∧ (ys.map (·.1)).Nodup
def DnAt (P : Program) (w : World) (a : Addr) (xs : DnX) (o : Obj) : HO := .ext (DnP P w a xs o)
theorem dn_ok {P : Program} {w : World} {H : Hp} {h : Heap} {a : Addr} {xs : DnX} {o : Obj} (p : DnP P w a xs o h) : ObjOk P w H h a (DnAt P w a xs o) := by
  refine ⟨p, ?_, fun h1 h2 p1 k => ?_⟩
  · exact ⟨o, p.2.2.1⟩
  · obtain ⟨p1, p2, ho, r⟩ := p1
    exact ⟨p1, p2, k o ho, r⟩
/-- a dict keyed by ints and texts, told with its object -/
def DiP (P : Program) (w : World) (a : Addr) (kvs : List (Key × V)) (o : Obj) (h : Heap) : Prop :=
  (a == sysModules) = false ∧ kvs.length ≤ sizeLine ∧ h.get? a = some o ∧ ∃ vs, KV kvs vs ∧ ∃ es ep, o.ExactDict ∧ o.data = .dict es ep ∧ KeysOf (mixKind P w) es ∧ Pairs (mixKind P w) es.toList vs ∧ (vs.map (·.1)).Nodup
def DiAt (P : Program) (w : World) (a : Addr) (kvs : List (Key × V)) (o : Obj) : HO := .ext (DiP P w a kvs o)
theorem di_ok {P : Program} {w : World} {H : Hp} {h : Heap} {a : Addr} {xs : List (Key × V)} {o : Obj} (p : DiP P w a xs o h) : ObjOk P w H h a (DiAt P w a xs o) := by
  refine ⟨p, ?_, fun h1 h2 p1 k => ?_⟩
  · exact ⟨o, p.2.2.1⟩
  · obtain ⟨p1, p2, ho, r⟩ := p1
    exact ⟨p1, p2, k o ho, r⟩
def findN (xs : DnX) (k : NestedKey) : Option V := (xs.find? fun x => decide (x.1 = k)).map (·.2.2)
def putN (xs : DnX) (k : NestedKey) (b : Addr) (v : V) : DnX := if (findN xs k).isSome = true then xs.map (fun x => if x.1 = k then (x.1, x.2.1, v) else x) else xs ++ [(k, b, v)]
theorem rd_find {k : NestedKey} : ∀ {xs : DnX} {ys : List (NestedKey × Addr × Value)}, RD xs ys → (findN xs k = none ∧ atKey ys k = none) ∨ ∃ v p, findN xs k = some v ∧ atKey ys k = some p ∧ RelV v p.2
  | _, _, .nil => .inl ⟨rfl, rfl⟩
  | _, _, .cons (a := x) (b := y) a b => by
    by_cases e : y.1 = k
    · exact .inr ⟨x.2.2, y.2, by simp [findN, a.1, e], by simp [atKey, e], a.2.2⟩
    · rcases rd_find (k := k) b with ⟨h1, h2⟩ | ⟨v, p, h1, h2, h3⟩
      · exact .inl ⟨by simpa [findN, a.1, e] using h1, by simpa [atKey, e] using h2⟩
      · exact .inr ⟨v, p, by simpa [findN, a.1, e] using h1, by simpa [atKey, e] using h2, h3⟩
theorem rd_map {k : NestedKey} {v : V} {u : Value} (r : RelV v u) : ∀ {xs : DnX} {ys : List (NestedKey × Addr × Value)}, RD xs ys → RD (xs.map fun x => if x.1 = k then (x.1, x.2.1, v) else x) (ys.map (putAt k u))
  | _, _, .nil => .nil
  | _, _, .cons (a := x) (b := y) a b => by
    refine .cons ?_ (rd_map r b)
    by_cases e : y.1 = k
    · have e' : x.1 = k := a.1.trans e
      simp only [putAt, if_pos e, if_pos e']; exact ⟨a.1, a.2.1, r⟩
    · have e' : ¬ x.1 = k := fun z => e (a.1.symm.trans z)
      simp only [putAt, if_neg e, if_neg e']; exact a
theorem rd_snoc {x : NestedKey × Addr × V} {y : NestedKey × Addr × Value} (h : x.1 = y.1 ∧ x.2.1 = y.2.1 ∧ RelV x.2.2 y.2.2) : ∀ {xs : DnX} {ys : List (NestedKey × Addr × Value)}, RD xs ys → RD (xs ++ [x]) (ys ++ [y])
  | _, _, .nil => .cons h .nil
  | _, _, .cons a b => .cons a (rd_snoc h b)
theorem rd_put {xs : DnX} {ys : List (NestedKey × Addr × Value)} (rd : RD xs ys) (k : NestedKey) (b : Addr) {v : V} {u : Value} (r : RelV v u) : RD (putN xs k b v) (storedH ys k b u) := by
  rcases rd_find (k := k) rd with ⟨h1, h2⟩ | ⟨v', p, h1, h2, h3⟩
  · rw [putN, storedH, h1, h2]; exact rd_snoc ⟨rfl, rfl, r⟩ rd
  · rw [putN, storedH, h1, h2]; exact rd_map r rd
theorem rd_len : ∀ {xs : DnX} {ys : List (NestedKey × Addr × Value)}, RD xs ys → xs.length = ys.length
  | _, _, .nil => rfl
  | _, _, .cons _ b => congrArg (· + 1) (rd_len b)
theorem rd_mem {y : NestedKey × Addr × Value} : ∀ {xs : DnX} {ys : List (NestedKey × Addr × Value)}, RD xs ys → y ∈ ys → ∃ x ∈ xs, x.1 = y.1 ∧ x.2.1 = y.2.1
  | _, _, .nil, h => by cases h
  | _, _, .cons a b, h => by
    cases h with
    | head => exact ⟨_, .head _, a.1, a.2.1⟩
    | tail _ h => obtain ⟨x, h1, h2⟩ := rd_mem b h; exact ⟨x, .tail _ h1, h2⟩
theorem putN_len {xs : DnX} {k : NestedKey} {b : Addr} {v : V} : (putN xs k b v).length ≤ xs.length + 1 := by
  unfold putN
  split
  · simp
  · simp
section
variable {X : Cx} {A : Around} {E : Value → Shared → Prop} {pins : List (Addr × Obj)} {σ : L2.St} {H : Hp} {s : Shared} {a b : Addr} {xs : DnX} {k : NestedKey}
/-- each key stands where the dict says -/
def KeysAt (h : Heap) (xs : DnX) : Prop := ∀ x ∈ xs, NestedIs h x.1 (.ref x.2.1) ∧ x.1.depth ≤ 8
theorem dn_of {o : Obj} (I : Inv X pins σ H s) (e : H a = some (DnAt X.prog X.w a xs o)) (ky : KeysAt s.heap xs) :
    (a == sysModules) = false ∧ xs.length ≤ sizeLine ∧ ∃ ys, RD xs ys ∧ s.heap.DictOfH (nestedKind X.prog X.w) a ys := by
  obtain ⟨⟨p1, p2, h1, ys, p3, es, ep, h2, h3, h4, h5⟩, _, _⟩ := (I.hok a _ e : ObjOk X.prog X.w H s.heap a (.ext (DnP X.prog X.w a xs o)))
  refine ⟨p1, p2, ys, p3, o, es, ep, h1, h2, h3, h4, fun y hy => ?_, h5⟩
  obtain ⟨x, hx, e1, e2⟩ := rd_mem p3 hy
  rw [← e1, ← e2]
  exact ky x hx
theorem dn_get2 {Q : Value → Shared → Prop} {d : V} {r : Value} {o : Obj} (hu : A.units + 16 < cLine) (I : Inv X pins σ H s) (e : H a = some (DnAt X.prog X.w a xs o)) (ky : KeysAt s.heap xs) (hk : NestedIs s.heap k (.ref b) ∧ k.depth ≤ 8) (rd : RelV d r)
    (h : ∀ w' s', Inv X pins σ H s' → RelV ((findN xs k).getD d) w' → Q w' s') : wpAny (model X.prog X.w) A (call (.builtin "dict.get") [.ref a, .ref b, r]) Q E s := by
  obtain ⟨hd, z, ys, p3, dd⟩ := dn_of I e ky
  refine call_meetsIn PySem.F.slot_dict_get dd.typeIs PySem.F.entry_dict_get (PySem.F.args_dict_get_3 _ _ _) (meetsH_dict_get_default (nestedKind X.prog X.w) a b hd r) ⟨?_, k, ys, hk, dd, h _ _ (I.tok _) ?_⟩
  · show A.units + 1 + 8 < cLine
    omega
  · rcases rd_find (k := k) p3 with ⟨h1, h2⟩ | ⟨v', p, h1, h2, h3⟩
    · rw [h1, h2]; exact rd
    · rw [h1, h2]; exact h3
theorem dn_set {Q : Unit → Shared → Prop} {v : V} {r : Value} {o : Obj} (hu : A.units + 16 < cLine) (I : Inv X pins σ H s) (e : H a = some (DnAt X.prog X.w a xs o)) (ky : KeysAt s.heap xs) (hk : NestedIs s.heap k (.ref b) ∧ k.depth ≤ 8) (rv : RelV v r) (hz : xs.length < sizeLine)
    (h : ∀ s' o', Inv X pins σ (upd H a (DnAt X.prog X.w a (putN xs k b v) o')) s' → Q () s') : wpAny (model X.prog X.w) A (setItem (.ref a) (.ref b) r) Q E s := by
  obtain ⟨hd, z, ys, p3, dd⟩ := dn_of I e ky
  refine wpAny_setItem_heap (hsz := by rw [← rd_len p3]; exact z) (k := k) ?_ hk dd fun h' dd' hs => ?_
  · show A.units + 1 + 8 < cLine
    omega
  · obtain ⟨q, es, ep, hq, h2, h3, h4, _, h5⟩ := dd'
    exact h _ q (d_write I (by rw [e]; exact True.intro) hs ⟨q, hq⟩ (dn_ok ⟨hd, Nat.le_trans putN_len hz, hq, _, rd_put p3 k b rv, es, ep, h2, h3, h4, h5⟩))
abbrev dictNew : Obj := { cls := .type "dict", data := .dict #[] }
theorem dn_empty {P : Program} {w : World} {H : Hp} (h : Heap) (hb : sysModules < h.objs.size) : ObjOk P w H (h.push dictNew) h.objs.size (DnAt P w h.objs.size [] dictNew) :=
  dn_ok ⟨beq_eq_false_iff_ne.mpr (Ne.symm (Nat.ne_of_lt hb)), Nat.zero_le _, Heap.get?_push_size _ rfl, [], .nil, #[], 0, ⟨rfl, rfl, rfl⟩, rfl, rfl, List.nodup_nil⟩
theorem di_of {o : Obj} {kvs : List (Key × V)} (I : Inv X pins σ H s) (e : H a = some (DiAt X.prog X.w a kvs o)) :
    (a == sysModules) = false ∧ kvs.length ≤ sizeLine ∧ ∃ vs, KV kvs vs ∧ s.heap.DictOf (mixKind X.prog X.w) a vs := by
  obtain ⟨⟨p1, p2, h1, vs, p3, es, ep, h2, h3, h4, h5, h6⟩, _, _⟩ := (I.hok a _ e : ObjOk X.prog X.w H s.heap a (.ext (DiP X.prog X.w a kvs o)))
  exact ⟨p1, p2, vs, p3, o, es, ep, h1, h2, h3, h4, h5, h6⟩
theorem di_set {Q : Unit → Shared → Prop} {v : V} {u r : Value} {o : Obj} {kvs : List (Key × V)} {j : Key} (I : Inv X pins σ H s) (e : H a = some (DiAt X.prog X.w a kvs o)) (ru : RelV (kV j) u) (rv : RelV v r) (hz : kvs.length < sizeLine)
    (h : ∀ s' o', Inv X pins σ (upd H a (DiAt X.prog X.w a (putK kvs j v) o')) s' → Q () s') : wpAny (model X.prog X.w) A (setItem (.ref a) u r) Q E s := by
  obtain ⟨hd, z, vs, p3, dd⟩ := di_of I e
  have hl : (putK kvs j v).length ≤ sizeLine := by have := length_putK kvs j v; omega
  refine wpAny_setItem_pairs (hsz := by rw [← p3.length]; exact z) (kV_is ru) dd fun h' dd' hs => ?_
  obtain ⟨q, es, ep, hq, h2, h3, h4, h5, h6⟩ := dd'
  exact h _ q (d_write I (by rw [e]; exact True.intro) hs ⟨q, hq⟩ (di_ok ⟨hd, hl, hq, _, p3.put j rv, es, ep, h2, h3, h4, h5, h6⟩))
theorem di_item {Q : Value → Shared → Prop} {v : V} {u : Value} {o : Obj} {kvs : List (Key × V)} {j : Key} (I : Inv X pins σ H s) (e : H a = some (DiAt X.prog X.w a kvs o)) (ru : RelV (kV j) u) (l : valV kvs j = some v)
    (h : ∀ w' s', Inv X pins σ H s' → RelV v w' → Q w' s') : wpAny (model X.prog X.w) A (getItem (.ref a) u) Q E s := by
  obtain ⟨hd, z, vs, rel, dd⟩ := di_of I e
  obtain ⟨w', hw, rw'⟩ := RelO.some_of (v := v) (o := valueAt vs j) (by rw [← l]; exact rel.val j)
  exact wpAny_getItem_of (kV_is ru) dd.mapOf hw (h w' _ (I.tok _) rw')
theorem di_empty {P : Program} {w : World} {H : Hp} (h : Heap) (hb : sysModules < h.objs.size) : ObjOk P w H (h.push dictNew) h.objs.size (DiAt P w h.objs.size [] dictNew) := by
  obtain ⟨o, es, ep, ho, hx, hd, hk, hp, hn⟩ := Heap.DictOf.new (knd := mixKind P w) h
  have e : dictNew = o := by
    have q : (h.push dictNew).get? h.objs.size = some dictNew := Heap.get?_push_size _ rfl
    rw [q] at ho
    exact Option.some.inj ho
  subst e
  exact di_ok ⟨beq_eq_false_iff_ne.mpr (Ne.symm (Nat.ne_of_lt hb)), Nat.zero_le _, Heap.get?_push_size _ rfl, [], .nil, es, ep, hx, hd, hk, hp, hn⟩
end
end DL

set_option Elab.async false
set_option linter.all false
set_option maxRecDepth 100000
namespace DL
open PySem PySem.Spec PyProof.Rows L2

/-! ## 1. data -/
/-- pure data: what a value is, whatever the heap -/
inductive D where
  | non | bl (b : Bool) | int (i : Int) | str (x : Str) | ty (n : String)
  | tup (xs : List D) | lst (xs : List D)
  /-- a shared mutable object: its place in the store -/
  | ref (l : Nat)
  /-- the script -/
  | scr (ns : List Int)
  /-- a dict that nobody changes any more -/
  | dct (ks : List Key) (ds : List D)
mutual
def D.nk : D → Option NestedKey
  | .non => some .none
  | .bl b => some (.num (if b = true then 1 else 0))
  | .int i => some (.num i)
  | .str x => some (.text x)
  | .tup xs => (D.nks xs).map .tup
  | .lst _ => none
  | .ty _ => none
  | .ref _ => none
  | .scr _ => none
  | .dct _ _ => none
def D.nks : List D → Option (List NestedKey)
  | [] => some []
  | x :: xs => x.nk.bind fun k => (D.nks xs).map (k :: ·)
end
def keyD : Key → D := Sum.elim .int .str
/-- what a mutable object holds -/
inductive Cell where
  | lst (xs : List D)
  | dct (ks : List Key) (ds : List D)
  /-- a dict keyed by nested tuples (b) or by ints and texts -/
  | dn (b : Bool) (ks : List D) (ds : List D)
/-- a slot of a frame -/
inductive Sl where
  | un
  | sh (d : D)
  /-- a mutable object of this frame alone -/
  | ow (c : Cell)
abbrev Rho := List Sl
abbrev Sto := List Cell
/-- the ghost world: where the store's objects stand; the callers' mutable objects; the frame's own ones by slot -/
structure Wd where
  θ : List Addr
  M0 : Addr → Prop
  α : Nat → Option Addr
/-- the module's own objects and the world -/
structure Fw where
  fr : PySem.W.Frag
  wd : World
  pg : Program
instance : CoeOut Fw PySem.W.Frag := ⟨Fw.fr⟩
abbrev FX (X : Cx) : Fw := ⟨X.K, X.w, X.prog⟩
/-- what this frame may change -/
def Mt (W : Wd) (a : Addr) : Prop := a ∈ W.θ ∨ ∃ i, W.α i = some a
/-- what is mutable at all -/
def Mu (W : Wd) (a : Addr) : Prop := W.M0 a ∨ Mt W a
/-- the script is read -/
def ScrAt (K : PySem.W.Frag) (H : Hp) (a : Addr) (ns : List Int) : Prop :=
  (∃ o, H a = some (.frz o (.lst (ns.map V.int)))) ∨
    ∃ (o : Obj) (its : Array Value) (n : Nat), K.lookup a = some o ∧ o.cls = .type "list" ∧ o.dict = none ∧ o.data = .seq its n ∧ its.size ≤ sizeLine ∧ Vals (ns.map V.int) its.toList

/-- a tuple is read; it has no dict of its own -/
def TupAt (K : PySem.W.Frag) (H : Hp) (a : Addr) (vs : List V) : Prop :=
  (∃ o, H a = some (.frz o (.tup vs)) ∧ o.dict = none) ∨
    ∃ (o : Obj) (its : Array Value) (n : Nat), K.lookup a = some o ∧ o.cls = .type "tuple" ∧ o.dict = none ∧ o.data = .seq its n ∧ its.size ≤ sizeLine ∧ Vals vs its.toList
theorem TupAt.sqt {K : PySem.W.Frag} {H : Hp} {a : Addr} {vs : List V} (h : TupAt K H a vs) : SqT K H a vs := by
  rcases h with ⟨o, h, _⟩ | ⟨o, its, n, h1, h2, _, h3, h4, h5⟩
  · exact .inl (.inr ⟨o, h⟩)
  · exact .inr ⟨o, its, n, h1, h2, h3, h4, h5⟩
theorem TupAt.step {K : PySem.W.Frag} {H H' : Hp} {a : Addr} {vs : List V} (f : ∀ b o u, H b = some (.frz o u) → H' b = some (.frz o u)) (h : TupAt K H a vs) : TupAt K H' a vs := by
  rcases h with ⟨o, h, d⟩ | h
  · exact .inl ⟨o, f _ _ _ h, d⟩
  · exact .inr h
theorem TupAt.new {K : PySem.W.Frag} {H : Hp} {a : Addr} {vs : List V} {o : Obj} (d : o.dict = none) : TupAt K (upd H a (.frz o (.tup vs))) a vs := .inl ⟨o, upd_same, d⟩

section
variable (K : Fw) (W : Wd) (H : Hp)
mutual
/-- the value v stands for the data d -/
inductive Rp : V → D → Prop
  | non : Rp .non .non
  | bl (b : Bool) : Rp (.bl b) (.bl b)
  | int (i : Int) : Rp (.int i) (.int i)
  | str (x : Str) : Rp (.str x) (.str x)
  | ty (n : String) : Rp (.ty n) (.ty n)
  | tup {a : Addr} {vs : List V} {ds : List D} : TupAt K H a vs → vs.length ≤ sizeLine → Rps vs ds → Rp (.ref a) (.tup ds)
  | lst {a : Addr} {vs : List V} {ds : List D} : ¬ Mu W a → H a = some (.lst vs) → vs.length ≤ sizeLine → Rps vs ds → Rp (.ref a) (.lst ds)
  | ref {a : Addr} {l : Nat} : W.θ[l]? = some a → Rp (.ref a) (.ref l)
  | scr {a : Addr} {ns : List Int} : ns.length ≤ sizeLine → ScrAt K H a ns → Rp (.ref a) (.scr ns)
  | dct {a : Addr} {ks : List Key} {vs : List V} {ds : List D} : ¬ Mu W a → H a = some (.dK (ks.zip vs)) → ks.length = vs.length → Rps vs ds → Rp (.ref a) (.dct ks ds)
inductive Rps : List V → List D → Prop
  | nil : Rps [] []
  | cons {v : V} {d : D} {vs : List V} {ds : List D} : Rp v d → Rps vs ds → Rps (v :: vs) (d :: ds)
end
/-- a mutable object's content -/
def CellOk (a : Addr) : Cell → Prop
  | .lst xs => ∃ vs, H a = some (.lst vs) ∧ vs.length ≤ sizeLine ∧ Rps K W H vs xs
  | .dct ks ds => ∃ vs, H a = some (.dK (ks.zip vs)) ∧ ks.length = vs.length ∧ Rps K W H vs ds
  | .dn true ks ds => ∃ (xs : DnX) (o : Obj), H a = some (DnAt K.pg K.wd a xs o) ∧ Rps K W H (xs.map fun x => V.ref x.2.1) ks ∧ Rps K W H (xs.map (·.2.2)) ds ∧ ks.map D.nk = xs.map (fun x => some x.1) ∧ ∀ x ∈ xs, x.1.depth ≤ 8
  | .dn false ks ds => ∃ (kvs : List (Key × V)) (o : Obj), H a = some (DiAt K.pg K.wd a kvs o) ∧ Rps K W H (kvs.map (·.2)) ds ∧ ks = kvs.map fun kv => keyD kv.1
/-- read, perhaps from an object of the frame's own -/
inductive Rq : V → D → Prop
  | of {v : V} {d : D} : Rp K W H v d → Rq v d
  | lst {a : Addr} {vs : List V} {ds : List D} : a ∉ W.θ ∧ ¬ W.M0 a → H a = some (.lst vs) → vs.length ≤ sizeLine → Rps K W H vs ds → Rq (.ref a) (.lst ds)
  | dct {a : Addr} {ks : List Key} {vs : List V} {ds : List D} : a ∉ W.θ ∧ ¬ W.M0 a → H a = some (.dK (ks.zip vs)) → ks.length = vs.length → Rps K W H vs ds → Rq (.ref a) (.dct ks ds)
/-- the store -/
def StOk (S : Sto) : Prop := W.θ.length = S.length ∧ ∀ (l : Nat) (a : Addr) (c : Cell), W.θ[l]? = some a → S[l]? = some c → CellOk K W H a c
structure WfW : Prop where
  nd : W.θ.Nodup
  inj : ∀ i j a, W.α i = some a → W.α j = some a → i = j
  dis : ∀ i a, W.α i = some a → a ∉ W.θ ∧ ¬ W.M0 a
  dom : ∀ a, Mu W a → ∃ o, H a = some o
def SlOk (σ : L2.St) (i : Nat) : Sl → Prop
  | .un => True
  | .sh d => ∃ v, σ[i]? = some (some v) ∧ Rp K W H v d
  | .ow c => ∃ a, σ[i]? = some (some (.ref a)) ∧ W.α i = some a ∧ CellOk K W H a c
structure Rel (σ : L2.St) (ρ : Rho) (S : Sto) : Prop where
  len : σ.length = ρ.length
  sl : ∀ (i : Nat) (s : Sl), ρ[i]? = some s → SlOk K W H σ i s
  st : StOk K W H S
  wf : WfW W H
end

/-- the heap grew -/
structure StepE (θ : List Addr) (H H' : Hp) : Prop where
  keep : ∀ b o, H b = some o → b ∉ θ → H' b = some o
  tups : ∀ b xs, H b = some (.tup xs) → H' b = some (.tup xs)
  frzs : ∀ b o u, H b = some (.frz o u) → H' b = some (.frz o u)
  dom : ∀ b o, H b = some o → ∃ o', H' b = some o'
/-- the frame went on -/
structure StepS (W : Wd) (H : Hp) (W' : Wd) (H' : Hp) : Prop where
  m0 : W'.M0 = W.M0
  th : ∃ r, W'.θ = W.θ ++ r
  thn : ∀ b, b ∈ W'.θ → b ∉ W.θ → (∃ i, W.α i = some b) ∨ H b = none
  keep : ∀ b o, H b = some o → ¬ Mt W b → H' b = some o ∧ ¬ Mt W' b
  tups : ∀ b xs, H b = some (.tup xs) → H' b = some (.tup xs)
  frzs : ∀ b o u, H b = some (.frz o u) → H' b = some (.frz o u)
  dom : ∀ b o, H b = some o → ∃ o', H' b = some o'

theorem StepE.refl (θ : List Addr) (H : Hp) : StepE θ H H := ⟨fun _ _ h _ => h, fun _ _ h => h, fun _ _ _ h => h, fun _ o h => ⟨o, h⟩⟩
theorem StepE.trans {θ : List Addr} {H H1 H2 : Hp} (a : StepE θ H H1) (b : StepE θ H1 H2) : StepE θ H H2 :=
  ⟨fun c o h n => b.keep c o (a.keep c o h n) n, fun c xs h => b.tups c xs (a.tups c xs h), fun c o u h => b.frzs c o u (a.frzs c o u h),
    fun c o h => by obtain ⟨o1, h1⟩ := a.dom c o h; exact b.dom c o1 h1⟩
theorem StepE.same {θ : List Addr} {H H' : Hp} (s : Same H H') : StepE θ H H' :=
  ⟨fun b o h _ => s b o h, fun b xs h => s b _ h, fun b o u h => s b _ h, fun b o h => ⟨o, s b o h⟩⟩
theorem StepS.refl (W : Wd) (H : Hp) : StepS W H W H := ⟨rfl, ⟨[], by simp⟩, fun b h n => absurd h n, fun _ _ h n => ⟨h, n⟩, fun _ _ h => h, fun _ _ _ h => h, fun _ o h => ⟨o, h⟩⟩
theorem StepS.trans {W W1 W2 : Wd} {H H1 H2 : Hp} (a : StepS W H W1 H1) (b : StepS W1 H1 W2 H2) : StepS W H W2 H2 where
  m0 := b.m0.trans a.m0
  th := by
    obtain ⟨r, e⟩ := a.th
    obtain ⟨r', e'⟩ := b.th
    exact ⟨r ++ r', by rw [e', e, List.append_assoc]⟩
  thn := fun c h n => by
    by_cases h1 : c ∈ W1.θ
    · exact a.thn c h1 n
    · cases hh : H c with
      | none => exact .inr rfl
      | some o =>
        by_cases hm : Mt W c
        · rcases hm with hm | hm
          · exact absurd hm n
          · exact .inl hm
        · obtain ⟨k1, k2⟩ := a.keep c o hh hm
          rcases b.thn c h h1 with ⟨i, z⟩ | z
          · exact absurd (.inr ⟨i, z⟩) k2
          · rw [k1] at z; cases z
  keep := fun c o h n => by
    obtain ⟨k1, k2⟩ := a.keep c o h n
    exact b.keep c o k1 k2
  tups := fun c xs h => b.tups c xs (a.tups c xs h)
  frzs := fun c o u h => b.frzs c o u (a.frzs c o u h)
  dom := fun c o h => by obtain ⟨o1, h1⟩ := a.dom c o h; exact b.dom c o1 h1
theorem StepE.toS {W : Wd} {H H' : Hp} (s : StepE W.θ H H') : StepS W H W H' :=
  ⟨rfl, ⟨[], by simp⟩, fun b h n => absurd h n, fun b o h n => ⟨s.keep b o h fun z => n (.inl z), n⟩, s.tups, s.frzs, s.dom⟩

section
variable {K : Fw} {W W' : Wd} {H H' : Hp}
theorem SqT.step {K : PySem.W.Frag} {a : Addr} {vs : List V} (t : ∀ b xs, H b = some (.tup xs) → H' b = some (.tup xs)) (f : ∀ b o u, H b = some (.frz o u) → H' b = some (.frz o u)) (h : SqT K H a vs) : SqT K H' a vs := by
  rcases h with (h | ⟨o, h⟩) | h
  · exact .inl (.inl (t _ _ h))
  · exact .inl (.inr ⟨o, f _ _ _ h⟩)
  · exact .inr h
theorem ScrAt.step {K : PySem.W.Frag} {a : Addr} {ns : List Int} (f : ∀ b o u, H b = some (.frz o u) → H' b = some (.frz o u)) (h : ScrAt K H a ns) : ScrAt K H' a ns := by
  rcases h with ⟨o, h⟩ | h
  · exact .inl ⟨o, f _ _ _ h⟩
  · exact .inr h
/-- what a step must keep, for data to stay -/
structure Kps (K : Fw) (W : Wd) (H : Hp) (W' : Wd) (H' : Hp) : Prop where
  th : ∀ (l : Nat) (a : Addr), W.θ[l]? = some a → W'.θ[l]? = some a
  keep : ∀ b o, H b = some o → ¬ Mu W b → H' b = some o ∧ ¬ Mu W' b
  tups : ∀ b xs, H b = some (.tup xs) → H' b = some (.tup xs)
  frzs : ∀ b o u, H b = some (.frz o u) → H' b = some (.frz o u)
mutual
theorem Rp.keeps (k : Kps K W H W' H') {v : V} {d : D} : Rp K W H v d → Rp K W' H' v d
  | .non => .non
  | .bl b => .bl b
  | .int i => .int i
  | .str x => .str x
  | .ty x => .ty x
  | .tup h z r => .tup (TupAt.step k.frzs h) z (Rps.keeps k r)
  | .lst n h z r => .lst (k.keep _ _ h n).2 (k.keep _ _ h n).1 z (Rps.keeps k r)
  | .ref h => .ref (k.th _ _ h)
  | .scr z h => .scr z (ScrAt.step k.frzs h)
  | .dct n h e r => .dct (k.keep _ _ h n).2 (k.keep _ _ h n).1 e (Rps.keeps k r)
theorem Rps.keeps (k : Kps K W H W' H') {vs : List V} {ds : List D} : Rps K W H vs ds → Rps K W' H' vs ds
  | .nil => .nil
  | .cons a b => .cons (Rp.keeps k a) (Rps.keeps k b)
end
theorem StepS.keeps (s : StepS W H W' H') : Kps K W H W' H' where
  th := fun l a h => by
    obtain ⟨r, e⟩ := s.th
    rw [e, List.getElem?_append_left (List.getElem?_eq_some_iff.mp h).1]
    exact h
  keep := fun b o h n => by
    obtain ⟨k1, k2⟩ := s.keep b o h fun z => n (.inr z)
    refine ⟨k1, fun z => ?_⟩
    rcases z with z | z
    · rw [s.m0] at z; exact n (.inl z)
    · exact k2 z
  tups := s.tups
  frzs := s.frzs
theorem StepE.keeps (s : StepE W.θ H H') : Kps K W H W H' := s.toS.keeps
theorem Rp.step (s : StepS W H W' H') {v : V} {d : D} (h : Rp K W H v d) : Rp K W' H' v d := h.keeps s.keeps
theorem Rps.step (s : StepS W H W' H') {v : List V} {d : List D} (h : Rps K W H v d) : Rps K W' H' v d := h.keeps s.keeps
theorem Rp.stepE (s : StepE W.θ H H') {v : V} {d : D} (h : Rp K W H v d) : Rp K W H' v d := h.keeps s.keeps
theorem Rps.stepE (s : StepE W.θ H H') {v : List V} {d : List D} (h : Rps K W H v d) : Rps K W H' v d := h.keeps s.keeps
theorem Rps.length : ∀ {vs : List V} {ds : List D}, Rps K W H vs ds → vs.length = ds.length
  | _, _, .nil => rfl
  | _, _, .cons _ b => by simp [Rps.length b]
theorem Rps.get : ∀ {vs : List V} {ds : List D} {i : Nat} {d : D}, Rps K W H vs ds → ds[i]? = some d → ∃ v, vs[i]? = some v ∧ Rp K W H v d
  | _, _, _, _, .nil, e => by simp at e
  | _, _, 0, _, .cons a _, e => by simp at e; subst e; exact ⟨_, rfl, a⟩
  | _, _, i + 1, d, .cons _ b, e => by
    obtain ⟨v, h1, h2⟩ := Rps.get (i := i) (d := d) b (by simpa using e)
    exact ⟨v, by simpa using h1, h2⟩
theorem Rps.get' : ∀ {vs : List V} {ds : List D} {i : Nat} {v : V}, Rps K W H vs ds → vs[i]? = some v → ∃ d, ds[i]? = some d ∧ Rp K W H v d
  | _, _, _, _, .nil, e => by simp at e
  | _, _, 0, _, .cons a _, e => by simp at e; subst e; exact ⟨_, rfl, a⟩
  | _, _, i + 1, v, .cons _ b, e => by
    obtain ⟨d, h1, h2⟩ := Rps.get' (i := i) (v := v) b (by simpa using e)
    exact ⟨d, by simpa using h1, h2⟩
theorem Rps.append : ∀ {vs : List V} {ds : List D} {vs' : List V} {ds' : List D}, Rps K W H vs ds → Rps K W H vs' ds' → Rps K W H (vs ++ vs') (ds ++ ds')
  | _, _, _, _, .nil, h => h
  | _, _, _, _, .cons a b, h => .cons a (Rps.append b h)
theorem Rps.set : ∀ {vs : List V} {ds : List D} (i : Nat) {v : V} {d : D}, Rps K W H vs ds → Rp K W H v d → Rps K W H (vs.set i v) (ds.set i d)
  | _, _, _, _, _, .nil, _ => .nil
  | _, _, 0, _, _, .cons _ b, r => .cons r b
  | _, _, i + 1, _, _, .cons a b, r => .cons a (Rps.set i b r)
theorem Rps.take : ∀ {vs : List V} {ds : List D} (n : Nat), Rps K W H vs ds → Rps K W H (vs.take n) (ds.take n)
  | _, _, 0, _ => .nil
  | _, _, _ + 1, .nil => .nil
  | _, _, n + 1, .cons a b => .cons a (Rps.take n b)
theorem Rps.drop : ∀ {vs : List V} {ds : List D} (n : Nat), Rps K W H vs ds → Rps K W H (vs.drop n) (ds.drop n)
  | _, _, 0, h => h
  | _, _, _ + 1, .nil => .nil
  | _, _, n + 1, .cons _ b => Rps.drop n b
theorem Rps.reverse {vs : List V} {ds : List D} (h : Rps K W H vs ds) : Rps K W H vs.reverse ds.reverse := by
  induction vs generalizing ds with
  | nil => cases h; exact .nil
  | cons v vs ih =>
    cases h with
    | cons a b =>
      rw [List.reverse_cons, List.reverse_cons]
      exact (ih b).append (.cons a .nil)
theorem Rps.insert : ∀ {vs : List V} {ds : List D} (i : Nat) {v : V} {d : D}, Rps K W H vs ds → Rp K W H v d → Rps K W H (vs.insertIdx i v) (ds.insertIdx i d)
  | _, _, 0, _, _, h, r => by simpa [List.insertIdx] using Rps.cons r h
  | _, _, i + 1, _, _, .nil, r => by simpa [List.insertIdx] using Rps.nil
  | _, _, i + 1, _, _, .cons a b, r => by
    rw [List.insertIdx_succ_cons, List.insertIdx_succ_cons]
    exact .cons a (Rps.insert i b r)
theorem CellOk.keeps (k : Kps K W H W' H') {a : Addr} {c : Cell} (e : H' a = H a) (h : CellOk K W H a c) : CellOk K W' H' a c := by
  cases c with
  | lst xs => obtain ⟨vs, h1, hz, h2⟩ := h; exact ⟨vs, e.trans h1, hz, h2.keeps k⟩
  | dct ks ds => obtain ⟨vs, h1, h2, h3⟩ := h; exact ⟨vs, e.trans h1, h2, h3.keeps k⟩
  | dn b ks ds =>
    cases b with
    | true => obtain ⟨xs, o, h1, h2, h3, h4⟩ := h; exact ⟨xs, o, e.trans h1, h2.keeps k, h3.keeps k, h4⟩
    | false => obtain ⟨xs, o, h1, h2, h3⟩ := h; exact ⟨xs, o, e.trans h1, h2.keeps k, h3⟩
theorem CellOk.some {a : Addr} {c : Cell} (h : CellOk K W H a c) : ∃ o, H a = some o := by
  cases c with
  | lst xs => obtain ⟨vs, h1, h2⟩ := h; exact ⟨_, h1⟩
  | dct ks ds => obtain ⟨vs, h1, h2, h3⟩ := h; exact ⟨_, h1⟩
  | dn b ks ds =>
    cases b with
    | true => obtain ⟨xs, o, h1, _⟩ := h; exact ⟨_, h1⟩
    | false => obtain ⟨xs, o, h1, _⟩ := h; exact ⟨_, h1⟩
theorem WfW.stepE (w : WfW W H) (s : StepE W.θ H H') : WfW W H' :=
  ⟨w.nd, w.inj, w.dis, fun a m => by obtain ⟨o, e⟩ := w.dom a m; exact s.dom a o e⟩
theorem Rel.stepE {σ : L2.St} {ρ : Rho} {S S' : Sto} (r : Rel K W H σ ρ S) (s : StepE W.θ H H') (st : StOk K W H' S') : Rel K W H' σ ρ S' := by
  refine ⟨r.len, fun i x e => ?_, st, r.wf.stepE s⟩
  have q := r.sl i x e
  cases x with
  | un => trivial
  | sh d => obtain ⟨v, h1, h2⟩ := q; exact ⟨v, h1, h2.stepE s⟩
  | ow c =>
    obtain ⟨a, h1, h2, h3⟩ := q
    obtain ⟨o, ho⟩ := h3.some
    refine ⟨a, h1, h2, h3.keeps s.keeps ?_⟩
    rw [ho]
    exact s.keep a o ho (r.wf.dis i a h2).1
/-- the store stays where nothing of the heap changes -/
theorem StOk.same {S : Sto} (h : StOk K W H S) (s : Same H H') : StOk K W H' S := by
  refine ⟨h.1, fun l a c e1 e2 => ?_⟩
  have q := h.2 l a c e1 e2
  obtain ⟨o, ho⟩ := q.some
  refine q.keeps (StepE.same s).keeps ?_
  rw [ho]
  exact s _ _ ho
theorem Rel.same {σ : L2.St} {ρ : Rho} {S : Sto} (r : Rel K W H σ ρ S) (s : Same H H') : Rel K W H' σ ρ S := r.stepE (.same s) (r.st.same s)
theorem Rq.stepE (s : StepE W.θ H H') {v : V} {d : D} (h : Rq K W H v d) : Rq K W H' v d := by
  have k : Kps K W H W H' := s.keeps
  cases h with
  | of h => exact .of (h.keeps k)
  | lst n h z r => exact .lst n (s.keep _ _ h n.1) z (r.keeps k)
  | dct n h e r => exact .dct n (s.keep _ _ h n.1) e (r.keeps k)
theorem Rq.same (s : Same H H') {v : V} {d : D} (h : Rq K W H v d) : Rq K W H' v d := h.stepE (.same s)
/-- a is a mutable object, too -/
def Wd.plus (W : Wd) (a : Addr) : Wd := { W with M0 := fun b => W.M0 b ∨ b = a }
theorem mu_plus {a b : Addr} : Mu (W.plus a) b ↔ Mu W b ∨ b = a := by
  unfold Mu Mt Wd.plus
  constructor
  · rintro ((h | h) | h)
    · exact .inl (.inl h)
    · exact .inr h
    · exact .inl (.inr h)
  · rintro ((h | h) | h)
    · exact .inl (.inl h)
    · exact .inr h
    · exact .inl (.inr h)
theorem Kps.trans {W1 W2 : Wd} {H1 H2 : Hp} (a : Kps K W H W1 H1) (b : Kps K W1 H1 W2 H2) : Kps K W H W2 H2 where
  th := fun l c h => b.th l c (a.th l c h)
  keep := fun c o h n => by obtain ⟨k1, k2⟩ := a.keep c o h n; exact b.keep c o k1 k2
  tups := fun c o h => b.tups c o (a.tups c o h)
  frzs := fun c o u h => b.frzs c o u (a.frzs c o u h)
/-- a new object, that nothing knows -/
theorem Kps.new {a : Addr} {o : HO} (n : H a = none) : Kps K W H (W.plus a) (upd H a o) where
  th := fun _ _ h => h
  keep := fun b u h m => ⟨by rw [upd_ne (ne_of_none h n)]; exact h, fun z => (mu_plus.mp z).elim m fun e => by rw [e] at h; rw [n] at h; cases h⟩
  tups := fun b xs h => by rw [upd_ne (ne_of_none h n)]; exact h
  frzs := fun b o u h => by rw [upd_ne (ne_of_none h n)]; exact h
/-- fewer mutable objects -/
theorem Kps.less (t : W'.θ = W.θ) (m : ∀ b, Mu W' b → Mu W b) : Kps K W H W' H where
  th := fun _ _ h => by rw [t]; exact h
  keep := fun b u h n => ⟨h, fun z => n (m b z)⟩
  tups := fun _ _ h => h
  frzs := fun _ _ _ h => h
theorem Kps.minus {a : Addr} : Kps K (W.plus a) H W H := Kps.less rfl fun b h => mu_plus.mpr (.inl h)
/-- an object that nothing knows is changed -/
theorem Kps.put {a : Addr} {o : HO} (m : Mu W a) (nt : ∀ xs, H a ≠ some (.tup xs)) (nf : ∀ o u, H a ≠ some (.frz o u)) : Kps K W H W (upd H a o) where
  th := fun _ _ h => h
  keep := fun b u h n => ⟨by
    have e : b ≠ a := fun e => n (by rw [e]; exact m)
    rw [upd_ne e]; exact h, n⟩
  tups := fun b xs h => by
    have e : b ≠ a := fun e => nt xs (by rw [← e]; exact h)
    rw [upd_ne e]; exact h
  frzs := fun b o u h => by
    have e : b ≠ a := fun e => nf o u (by rw [← e]; exact h)
    rw [upd_ne e]; exact h
/-- the store by new words -/
theorem StOk.keeps {S : Sto} (h : StOk K W H S) (t : W'.θ = W.θ) (k : Kps K W H W' H') (s : ∀ a ∈ W.θ, H' a = H a) : StOk K W' H' S := by
  refine ⟨by rw [t]; exact h.1, fun l a c e1 e2 => ?_⟩
  rw [t] at e1
  exact (h.2 l a c e1 e2).keeps k (s a (List.mem_of_getElem? e1))
theorem WfW.tdom (w : WfW W H) {a : Addr} (h : a ∈ W.θ) : ∃ o, H a = some o := w.dom a (.inr (.inl h))
end
end DL

set_option Elab.async false
set_option linter.all false
set_option maxRecDepth 100000
namespace DL
open PySem PySem.Spec PyProof.Rows L2

/-! ## 2. judgements -/
abbrev Ex := Rho → Sto → Option (D × Sto)
abbrev Ars := Rho → Sto → Option (List D × Sto)
abbrev Tx := Rho → Sto → Option (Bool × Sto)
section
variable (K : Fw)
/-- made anew: nothing else knows it -/
inductive Rf (W : Wd) (H H' : Hp) (S : Sto) : V → D → Prop
  | lst {a : Addr} {vs : List V} {ds : List D} : H a = none → H' a = some (.lst vs) → vs.length ≤ sizeLine → StOk K (W.plus a) H' S → Rps K (W.plus a) H' vs ds → Rf W H H' S (.ref a) (.lst ds)
  | dct {a : Addr} {ks : List Key} {vs : List V} {ds : List D} : H a = none → H' a = some (.dK (ks.zip vs)) → ks.length = vs.length → StOk K (W.plus a) H' S → Rps K (W.plus a) H' vs ds → Rf W H H' S (.ref a) (.dct ks ds)
abbrev Rqs (W : Wd) (H : Hp) : List V → List D → Prop := Paired (Rq K W H)
def tD (f : Ex) : TE := fun σ H Q => ∃ (W : Wd) (ρ : Rho) (S : Sto) (d : D) (S' : Sto), Rel K W H σ ρ S ∧ f ρ S = some (d, S') ∧ ∀ v H', StepE W.θ H H' → StOk K W H' S' → Rp K W H' v d → Q v H'
def tQ (f : Ex) : TE := fun σ H Q => ∃ (W : Wd) (ρ : Rho) (S : Sto) (d : D) (S' : Sto), Rel K W H σ ρ S ∧ f ρ S = some (d, S') ∧ ∀ v H', StepE W.θ H H' → StOk K W H' S' → Rq K W H' v d → Q v H'
def tF (f : Ex) : TE := fun σ H Q => ∃ (W : Wd) (ρ : Rho) (S : Sto) (d : D) (S' : Sto), Rel K W H σ ρ S ∧ f ρ S = some (d, S') ∧ ∀ v H', StepE W.θ H H' → Rf K W H H' S' v d → Q v H'
def tA (f : Ars) : TA := fun σ H Q => ∃ (W : Wd) (ρ : Rho) (S : Sto) (d : List D) (S' : Sto), Rel K W H σ ρ S ∧ f ρ S = some (d, S') ∧ ∀ v H', StepE W.θ H H' → StOk K W H' S' → Rps K W H' v d → Q v H'
def tAQ (f : Ars) : TA := fun σ H Q => ∃ (W : Wd) (ρ : Rho) (S : Sto) (d : List D) (S' : Sto), Rel K W H σ ρ S ∧ f ρ S = some (d, S') ∧ ∀ v H', StepE W.θ H H' → StOk K W H' S' → Rqs K W H' v d → Q v H'
def tT (f : Tx) : TT := fun σ H Q => ∃ (W : Wd) (ρ : Rho) (S : Sto) (d : Bool) (S' : Sto), Rel K W H σ ρ S ∧ f ρ S = some (d, S') ∧ ∀ H', StepE W.θ H H' → StOk K W H' S' → Q d H'
end
/-- an expression gives data; perhaps data of the frame's own; a new list or dict -/
abbrev E (X : Cx) (e : Expr) (f : Ex) : Prop := PE X e (tD (FX X) f)
abbrev B (X : Cx) (e : Expr) (f : Ex) : Prop := PE X e (tQ (FX X) f)
abbrev N (X : Cx) (e : Expr) (f : Ex) : Prop := PE X e (tF (FX X) f)
abbrev A (X : Cx) (e : List Expr) (f : Ars) : Prop := PA X e (tA (FX X) f)
abbrev AQ (X : Cx) (e : List Expr) (f : Ars) : Prop := PA X e (tAQ (FX X) f)
abbrev T (X : Cx) (e : Expr) (f : Tx) : Prop := PT X e (tT (FX X) f)
abbrev TW (X : Cx) (e : Expr) (f : Tx) : Prop := PW X e (tT (FX X) f)

theorem pe_imp {X : Cx} {e : Expr} {t t' : TE} (h : PE X e t) (i : ∀ σ H Q, t' σ H Q → t σ H Q) : PE X e t' := ⟨fun pins s σ H Q I w => h.run pins s σ H Q I (i σ H Q w)⟩
theorem pa_imp {X : Cx} {e : List Expr} {t t' : TA} (h : PA X e t) (i : ∀ σ H Q, t' σ H Q → t σ H Q) : PA X e t' := ⟨fun pos pins s σ H Q I w => h.run pos pins s σ H Q I (i σ H Q w)⟩
theorem pt_imp {X : Cx} {e : Expr} {t t' : TT} (h : PT X e t) (i : ∀ σ H Q, t' σ H Q → t σ H Q) : PT X e t' := ⟨fun pins s σ H Q I w => h.run pins s σ H Q I (i σ H Q w)⟩
theorem pw_imp {X : Cx} {e : Expr} {t t' : TT} (h : PW X e t) (i : ∀ σ H Q, t' σ H Q → t σ H Q) : PW X e t' := ⟨fun wh pins s σ H Q I w => h.run wh pins s σ H Q I (i σ H Q w)⟩

section
variable {K : Fw} {W : Wd} {H H' H1 : Hp}
theorem Rf.rp (wf : WfW W H) {S : Sto} {v : V} {d : D} (r : Rf K W H H' S v d) : Rp K W H' v d := by
  cases r with
  | lst n e z st r => exact .lst (fun m => by obtain ⟨o, h⟩ := wf.dom _ m; rw [n] at h; cases h) e z (r.keeps .minus)
  | dct n e z st r => exact .dct (fun m => by obtain ⟨o, h⟩ := wf.dom _ m; rw [n] at h; cases h) e z (r.keeps .minus)
theorem Rf.st {S : Sto} {v : V} {d : D} (r : Rf K W H H' S v d) : StOk K W H' S := by
  cases r with
  | lst n e z st r => exact st.keeps rfl .minus fun _ _ => rfl
  | dct n e z st r => exact st.keeps rfl .minus fun _ _ => rfl
theorem StepE.none {θ : List Addr} (s : StepE θ H H1) {a : Addr} (n : H1 a = none) : H a = none := by
  cases e : H a with
  | none => rfl
  | some o => obtain ⟨o', h⟩ := s.dom a o e; rw [n] at h; cases h
theorem Rf.before {S : Sto} {v : V} {d : D} (s : StepE W.θ H H1) (r : Rf K W H1 H' S v d) : Rf K W H H' S v d := by
  cases r with
  | lst n e z st r => exact .lst (s.none n) e z st r
  | dct n e z st r => exact .dct (s.none n) e z st r
theorem Rqs.stepE (s : StepE W.θ H H') : ∀ {vs : List V} {ds : List D}, Rqs K W H vs ds → Rqs K W H' vs ds
  | _, _, .nil => .nil
  | _, _, .cons a b => .cons (Rq.stepE s a) (Rqs.stepE s b)
theorem upd_Same {p : Addr} {o : HO} (h : H p = none) : Same H (upd H p o) := fun b u e => by rw [upd_ne (ne_of_none e h)]; exact e
theorem StOk.new {S : Sto} {p : Addr} {o : HO} (wf : WfW W H) (h : StOk K W H S) (n : H p = none) : StOk K (W.plus p) (upd H p o) S :=
  h.keeps rfl (.new n) fun a m => by
    obtain ⟨u, e⟩ := wf.tdom m
    rw [upd_ne (ne_of_none e n)]
theorem Rf.newL {S : Sto} {p : Addr} {vs : List V} {ds : List D} (wf : WfW W H) (st : StOk K W H S) (n : H p = none) (z : vs.length ≤ sizeLine) (r : Rps K W H vs ds) : Rf K W H (upd H p (.lst vs)) S (.ref p) (.lst ds) :=
  .lst n upd_same z (st.new wf n) (r.keeps (.new n))
theorem Rf.newD {S : Sto} {p : Addr} {ks : List Key} {vs : List V} {ds : List D} (wf : WfW W H) (st : StOk K W H S) (n : H p = none) (z : ks.length = vs.length) (r : Rps K W H vs ds) : Rf K W H (upd H p (.dK (ks.zip vs))) S (.ref p) (.dct ks ds) :=
  .dct n upd_same z (st.new wf n) (r.keeps (.new n))
end

/-! ## 3. expressions -/
section
variable {X : Cx} {a b c e : Expr} {es : List Expr} {f f1 f2 f3 : Ex} {fs : Ars} {pos : Pos}
theorem b_of (h : E X e f) : B X e f := pe_imp h fun σ H Q ⟨W, ρ, S, d, S', r, hf, k⟩ => ⟨W, ρ, S, d, S', r, hf, fun v H' s st rp => k v H' s st (.of rp)⟩
theorem e_of (h : N X e f) : E X e f := pe_imp h fun σ H Q ⟨W, ρ, S, d, S', r, hf, k⟩ => ⟨W, ρ, S, d, S', r, hf, fun v H' s rp => k v H' s rp.st (rp.rp r.wf)⟩
theorem bn_of (h : N X e f) : B X e f := b_of (e_of h)

def eVar (i : Nat) : Ex := fun ρ S => match ρ[i]? with
  | some (.sh d) => some (d, S)
  | _ => none
/-- what a slot holds, to be read -/
def Sl.rd : Sl → Option D
  | .sh d => some d
  | .ow (.lst xs) => some (.lst xs)
  | .ow (.dct ks ds) => some (.dct ks ds)
  | .ow (.dn _ _ _) => none
  | .un => none
def bVar (i : Nat) : Ex := fun ρ S => match ρ[i]? with
  | some s => s.rd.map fun d => (d, S)
  | none => none
theorem e_var {i : Nat} (h : PE X e (tVar i)) : E X e (eVar i) := pe_imp h fun σ H Q ⟨W, ρ, S, d, S', r, hf, k⟩ => by
  unfold eVar at hf
  split at hf
  · rename_i d' e
    cases hf
    obtain ⟨v, h1, h2⟩ := r.sl i _ e
    exact ⟨v, h1, k v H (.refl _ _) r.st h2⟩
  · cases hf
theorem b_var {i : Nat} (h : PE X e (tVar i)) : B X e (bVar i) := pe_imp h fun σ H Q ⟨W, ρ, S, d, S', r, hf, k⟩ => by
  unfold bVar at hf
  split at hf
  · rename_i s e
    have q := r.sl i _ e
    cases s with
    | un => cases hf
    | sh d' =>
      cases hf
      obtain ⟨v, h1, h2⟩ := q
      exact ⟨v, h1, k v H (.refl _ _) r.st (.of h2)⟩
    | ow c =>
      obtain ⟨a, h1, h2, h3⟩ := q
      have n := r.wf.dis i a h2
      cases c with
      | lst xs =>
        cases hf
        obtain ⟨vs, e1, z, e2⟩ := h3
        exact ⟨_, h1, k _ H (.refl _ _) r.st (.lst n e1 z e2)⟩
      | dct ks ds =>
        cases hf
        obtain ⟨vs, e1, z, e2⟩ := h3
        exact ⟨_, h1, k _ H (.refl _ _) r.st (.dct n e1 z e2)⟩
      | dn b ks ds => cases hf
  · cases hf

def eC (d : D) : Ex := fun _ S => some (d, S)
theorem e_c {v : V} {d : D} (h : PE X e (tC v)) (r : ∀ W H, Rp (FX X) W H v d) : E X e (eC d) := pe_imp h fun σ H Q ⟨W, ρ, S, d, S', rl, hf, k⟩ => by
  cases hf
  exact k v H (.refl _ _) rl.st (r W H)
theorem e_int {i : Int} {j : Nat} : E X (.Constant (.int i) j pos) (eC (.int i)) := e_c pe_int fun _ _ => .int i
theorem e_bl {i : Bool} {j : Nat} : E X (.Constant (.bool i) j pos) (eC (.bl i)) := e_c pe_bl fun _ _ => .bl i
theorem e_str {i : Str} {j : Nat} : E X (.Constant (.str i) j pos) (eC (.str i)) := e_c pe_str fun _ _ => .str i
theorem e_non {j : Nat} : E X (.Constant .none j pos) (eC .non) := e_c pe_non fun _ _ => .non
theorem e_ty {x : Str} {n : String} (hg : Gl X x) (hm : X.mg x = none) (hv : bootBuiltins x = some (.type n)) (hn : x ≠ "__name__" := by decide) (hd : (x == ("__debug__" : Str)) = false := by decide) : E X (.Name x pos) (eC (.ty n)) := e_c (pe_bltn (v := .ty n) hg hm hv rfl hn hd) fun _ _ => .ty n

/-! ### two operands -/
def OpD (K : Fw) (r : R2) (g : D → D → Option D) : Prop :=
  ∀ (W : Wd) (H : Hp) (v1 v2 : V) (d1 d2 d : D) (Q : VK), WfW W H → Rq K W H v1 d1 → Rq K W H v2 d2 → g d1 d2 = some d → (∀ v H', Same H H' → Rp K W H' v d → Q v H') → r v1 v2 H Q
/-- a new list or dict is given -/
def NewOk (K : Fw) (W : Wd) (H : Hp) (Q : VK) : D → Prop
  | .lst xs => ∀ p vs, H p = none → vs.length ≤ sizeLine → Rps K W H vs xs → Q (.ref p) (upd H p (.lst vs))
  | .dct ks ds => ∀ p vs, H p = none → ks.length = vs.length → Rps K W H vs ds → Q (.ref p) (upd H p (.dK (ks.zip vs)))
  | _ => True
def OpF (K : Fw) (r : R2) (g : D → D → Option D) : Prop :=
  ∀ (W : Wd) (H : Hp) (v1 v2 : V) (d1 d2 d : D) (Q : VK), WfW W H → Rq K W H v1 d1 → Rq K W H v2 d2 → g d1 d2 = some d → NewOk K W H Q d → r v1 v2 H Q
def eBin (g : D → D → Option D) (f1 f2 : Ex) : Ex := fun ρ S => (f1 ρ S).bind fun p => (f2 ρ p.2).bind fun q => (g p.1 q.1).map fun z => (z, q.2)
theorem newOk {K : Fw} {W : Wd} {H : Hp} {S : Sto} {Q : VK} {d : D} (wf : WfW W H) (st : StOk K W H S) (k : ∀ v H', Same H H' → Rf K W H H' S v d → Q v H') : NewOk K W H Q d := by
  cases d with
  | lst xs => exact fun p vs n z r => k _ _ (upd_Same n) (.newL wf st n z r)
  | dct ks ds => exact fun p vs n z r => k _ _ (upd_Same n) (.newD wf st n z r)
  | _ => trivial
theorem bin_d {K : Fw} {r : R2} {g : D → D → Option D} (hd : OpD K r g) {σ : L2.St} {H : Hp} {Q : VK} (h : tD K (eBin g f1 f2) σ H Q) : tOp r (tQ K f1) (tQ K f2) σ H Q := by
  obtain ⟨W, ρ, S, d, S', rl, hf, k⟩ := h
  unfold eBin at hf
  cases e1 : f1 ρ S with
  | none => rw [e1] at hf; cases hf
  | some p =>
    rw [e1] at hf
    cases e2 : f2 ρ p.2 with
    | none => rw [Option.bind_some, e2] at hf; cases hf
    | some q =>
      rw [Option.bind_some, e2, Option.bind_some] at hf
      obtain ⟨z, hz, he⟩ := Option.map_eq_some_iff.mp hf
      cases he
      refine ⟨W, ρ, S, p.1, p.2, rl, e1, fun v1 H1 s1 st1 r1 => ⟨W, ρ, p.2, q.1, q.2, rl.stepE s1 st1, e2, fun v2 H2 s2 st2 r2 => ?_⟩⟩
      refine hd W H2 v1 v2 p.1 q.1 d Q ((rl.wf.stepE s1).stepE s2) (r1.stepE s2) r2 hz fun v H3 s3 r3 => ?_
      exact k v H3 ((s1.trans s2).trans (.same s3)) (st2.same s3) r3
theorem bin_f {K : Fw} {r : R2} {g : D → D → Option D} (hd : OpF K r g) {σ : L2.St} {H : Hp} {Q : VK} (h : tF K (eBin g f1 f2) σ H Q) : tOp r (tQ K f1) (tQ K f2) σ H Q := by
  obtain ⟨W, ρ, S, d, S', rl, hf, k⟩ := h
  unfold eBin at hf
  cases e1 : f1 ρ S with
  | none => rw [e1] at hf; cases hf
  | some p =>
    rw [e1] at hf
    cases e2 : f2 ρ p.2 with
    | none => rw [Option.bind_some, e2] at hf; cases hf
    | some q =>
      rw [Option.bind_some, e2, Option.bind_some] at hf
      obtain ⟨z, hz, he⟩ := Option.map_eq_some_iff.mp hf
      cases he
      refine ⟨W, ρ, S, p.1, p.2, rl, e1, fun v1 H1 s1 st1 r1 => ⟨W, ρ, p.2, q.1, q.2, rl.stepE s1 st1, e2, fun v2 H2 s2 st2 r2 => ?_⟩⟩
      refine hd W H2 v1 v2 p.1 q.1 d Q ((rl.wf.stepE s1).stepE s2) (r1.stepE s2) r2 hz ?_
      exact newOk (rl.wf.stepE (s1.trans s2)) st2 fun v H3 s3 r3 => k v H3 ((s1.trans s2).trans (.same s3)) (r3.before (s1.trans s2))
theorem e_bin {op : Operator} {r : R2} {g : D → D → Option D} (ho : OpR X (binaryOp op) r) (hd : OpD (FX X) r g) (ha : B X a f1) (hb : B X b f2) : E X (.BinOp a op b pos) (eBin g f1 f2) :=
  pe_imp (pe_op ho ha hb) fun _ _ _ h => bin_d hd h
theorem n_bin {op : Operator} {r : R2} {g : D → D → Option D} (ho : OpR X (binaryOp op) r) (hd : OpF (FX X) r g) (ha : B X a f1) (hb : B X b f2) : N X (.BinOp a op b pos) (eBin g f1 f2) :=
  pe_imp (pe_op ho ha hb) fun _ _ _ h => bin_f hd h
theorem e_cmp {op : CmpOp} {r : R2} {g : D → D → Option D} (ho : OpR X (compareOp op) r) (hd : OpD (FX X) r g) (ha : B X a f1) (hb : B X b f2) (hm : behindInMarks op b = false := by first | exact nomark _ | rfl) : E X (.Compare a [op] [b] pos) (eBin g f1 f2) :=
  pe_imp (pe_cmpR ho ha hb hm) fun _ _ _ h => bin_d hd h
theorem OpD.or {K : Fw} {r r' : R2} {g : D → D → Option D} (h : OpD K r g) : OpD K (fun x y H Q => r x y H Q ∨ r' x y H Q) g := fun W H v1 v2 d1 d2 d Q wf q1 q2 hg k => .inl (h W H v1 v2 d1 d2 d Q wf q1 q2 hg k)
/-- whichever of both gives something -/
def orD (g g' : D → D → Option D) : D → D → Option D := fun x y => (g x y).or (g' x y)
theorem OpD.join {K : Fw} {r r' : R2} {g g' : D → D → Option D} (h : OpD K r g) (h' : OpD K r' g') : OpD K (fun x y H Q => r x y H Q ∨ r' x y H Q) (orD g g') := fun W H v1 v2 d1 d2 d Q wf q1 q2 hg k => by
  unfold orD at hg
  cases e : g d1 d2 with
  | some z => rw [e] at hg; cases hg; exact .inl (h W H v1 v2 d1 d2 _ Q wf q1 q2 e k)
  | none => rw [e] at hg; exact .inr (h' W H v1 v2 d1 d2 _ Q wf q1 q2 hg k)

/-! ### arguments -/
def aNil : Ars := fun _ S => some ([], S)
def aCons (f : Ex) (fs : Ars) : Ars := fun ρ S => (f ρ S).bind fun p => (fs ρ p.2).bind fun q => some (p.1 :: q.1, q.2)
theorem a_nil : A X [] aNil := pa_imp pa_nil fun σ H Q ⟨W, ρ, S, d, S', r, hf, k⟩ => by
  cases hf
  exact k [] H (.refl _ _) r.st .nil
theorem aq_nil : AQ X [] aNil := pa_imp pa_nil fun σ H Q ⟨W, ρ, S, d, S', r, hf, k⟩ => by
  cases hf
  exact k [] H (.refl _ _) r.st .nil
theorem aCons_split {ρ : Rho} {S S' : Sto} {d : List D} (h : aCons f fs ρ S = some (d, S')) : ∃ p q, f ρ S = some p ∧ fs ρ p.2 = some q ∧ d = p.1 :: q.1 ∧ S' = q.2 := by
  unfold aCons at h
  cases e1 : f ρ S with
  | none => rw [e1] at h; cases h
  | some p =>
    rw [e1, Option.bind_some] at h
    cases e2 : fs ρ p.2 with
    | none => rw [e2] at h; cases h
    | some q => rw [e2] at h; cases h; exact ⟨p, q, rfl, e2, rfl, rfl⟩
theorem a_cons (ha : E X e f) (hr : A X es fs) (hs : starEach (e :: es) X.env = (false, eval e X.env) :: starEach es X.env := by rfl) : A X (e :: es) (aCons f fs) :=
  pa_imp (pa_cons ha hr hs) fun σ H Q ⟨W, ρ, S, d, S', r, hf, k⟩ => by
    obtain ⟨p, q, e1, e2, rfl, rfl⟩ := aCons_split hf
    refine ⟨W, ρ, S, p.1, p.2, r, e1, fun v1 H1 s1 st1 r1 => ⟨W, ρ, p.2, q.1, q.2, r.stepE s1 st1, e2, fun v2 H2 s2 st2 r2 => ?_⟩⟩
    exact k _ H2 (s1.trans s2) st2 (.cons (r1.stepE s2) r2)
theorem aq_cons (ha : B X e f) (hr : AQ X es fs) (hs : starEach (e :: es) X.env = (false, eval e X.env) :: starEach es X.env := by rfl) : AQ X (e :: es) (aCons f fs) :=
  pa_imp (pa_cons ha hr hs) fun σ H Q ⟨W, ρ, S, d, S', r, hf, k⟩ => by
    obtain ⟨p, q, e1, e2, rfl, rfl⟩ := aCons_split hf
    refine ⟨W, ρ, S, p.1, p.2, r, e1, fun v1 H1 s1 st1 r1 => ⟨W, ρ, p.2, q.1, q.2, r.stepE s1 st1, e2, fun v2 H2 s2 st2 r2 => ?_⟩⟩
    exact k _ H2 (s1.trans s2) st2 (.cons (r1.stepE s2) r2)

/-! ### displays -/
def eTup (fs : Ars) : Ex := fun ρ S => (fs ρ S).bind fun p => if p.1.length ≤ sizeLine then some (.tup p.1, p.2) else none
def eLst (fs : Ars) : Ex := fun ρ S => (fs ρ S).bind fun p => if p.1.length ≤ sizeLine then some (.lst p.1, p.2) else none
theorem guard_split {fs : Ars} {g : List D → D} {ρ : Rho} {S S' : Sto} {d : D} (h : ((fs ρ S).bind fun p => if p.1.length ≤ sizeLine then some (g p.1, p.2) else none) = some (d, S')) :
    ∃ p, fs ρ S = some p ∧ p.1.length ≤ sizeLine ∧ d = g p.1 ∧ S' = p.2 := by
  cases e1 : fs ρ S with
  | none => rw [e1] at h; cases h
  | some p =>
    rw [e1, Option.bind_some] at h
    by_cases z : p.1.length ≤ sizeLine
    · rw [if_pos z] at h; cases h; exact ⟨p, rfl, z, rfl, rfl⟩
    · rw [if_neg z] at h; cases h
theorem e_tup {x1} (h : A X es fs) : E X (.Tuple es x1 pos) (eTup fs) := pe_imp (pe_tupZ h) fun σ H Q ⟨W, ρ, S, d, S', r, hf, k⟩ => by
  obtain ⟨p, e1, z, rfl, rfl⟩ := guard_split hf
  refine ⟨W, ρ, S, p.1, p.2, r, e1, fun vs H1 s1 st1 r1 => ⟨by rw [r1.length]; exact z, fun q o hq ho => ?_⟩⟩
  have sm : Same H1 (upd H1 q (.frz o (.tup vs))) := upd_Same hq
  exact k _ _ (s1.trans (.same sm)) (st1.same sm) (.tup (.new ho) (by rw [r1.length]; exact z) (r1.stepE (.same sm)))
theorem n_lst (h : A X es fs) : N X (.List es pos) (eLst fs) := pe_imp (pe_lst h) fun σ H Q ⟨W, ρ, S, d, S', r, hf, k⟩ => by
  obtain ⟨p, e1, z, rfl, rfl⟩ := guard_split hf
  refine ⟨W, ρ, S, p.1, p.2, r, e1, fun vs H1 s1 st1 r1 => ⟨by rw [r1.length]; exact z, fun q hq => ?_⟩⟩
  exact k _ _ (s1.trans (.same (upd_Same hq))) ((Rf.newL (r.wf.stepE s1) st1 hq (by rw [r1.length]; exact z) r1).before s1)

/-! ### calls of built-ins -/
def CallD (K : Fw) (r : List V → Hp → VK → Prop) (g : List D → Option D) : Prop :=
  ∀ (W : Wd) (H : Hp) (vs : List V) (ds : List D) (d : D) (Q : VK), WfW W H → Rqs K W H vs ds → g ds = some d → (∀ v H', Same H H' → Rp K W H' v d → Q v H') → r vs H Q
def CallF (K : Fw) (r : List V → Hp → VK → Prop) (g : List D → Option D) : Prop :=
  ∀ (W : Wd) (H : Hp) (vs : List V) (ds : List D) (d : D) (Q : VK), WfW W H → Rqs K W H vs ds → g ds = some d → NewOk K W H Q d → r vs H Q
def eCB (g : List D → Option D) (fs : Ars) : Ex := fun ρ S => (fs ρ S).bind fun p => (g p.1).map fun z => (z, p.2)
theorem eCB_split {g : List D → Option D} {ρ : Rho} {S S' : Sto} {d : D} (h : eCB g fs ρ S = some (d, S')) : ∃ p, fs ρ S = some p ∧ g p.1 = some d ∧ S' = p.2 := by
  unfold eCB at h
  cases e1 : fs ρ S with
  | none => rw [e1] at h; cases h
  | some p =>
    rw [e1, Option.bind_some] at h
    obtain ⟨z, hz, he⟩ := Option.map_eq_some_iff.mp h
    cases he
    exact ⟨p, rfl, hz, rfl⟩
theorem cb_d {K : Fw} {r : List V → Hp → VK → Prop} {g : List D → Option D} (hd : CallD K r g) {σ : L2.St} {H : Hp} {Q : VK} (h : tD K (eCB g fs) σ H Q) : tCB r (tAQ K fs) σ H Q := by
  obtain ⟨W, ρ, S, d, S', rl, hf, k⟩ := h
  obtain ⟨p, e1, e2, rfl⟩ := eCB_split hf
  refine ⟨W, ρ, S, p.1, p.2, rl, e1, fun vs H1 s1 st1 r1 => ?_⟩
  exact hd W H1 vs p.1 d Q (rl.wf.stepE s1) r1 e2 fun v H3 s3 r3 => k v H3 (s1.trans (.same s3)) (st1.same s3) r3
theorem cb_f {K : Fw} {r : List V → Hp → VK → Prop} {g : List D → Option D} (hd : CallF K r g) {σ : L2.St} {H : Hp} {Q : VK} (h : tF K (eCB g fs) σ H Q) : tCB r (tAQ K fs) σ H Q := by
  obtain ⟨W, ρ, S, d, S', rl, hf, k⟩ := h
  obtain ⟨p, e1, e2, rfl⟩ := eCB_split hf
  refine ⟨W, ρ, S, p.1, p.2, rl, e1, fun vs H1 s1 st1 r1 => ?_⟩
  exact hd W H1 vs p.1 d Q (rl.wf.stepE s1) r1 e2 (newOk (rl.wf.stepE s1) st1 fun v H3 s3 r3 => k v H3 (s1.trans (.same s3)) (r3.before s1))
theorem e_cb {r : List V → Hp → VK → Prop} {g : List D → Option D} (h : PE X e (tCB r (tAQ (FX X) fs))) (hd : CallD (FX X) r g) : E X e (eCB g fs) := pe_imp h fun _ _ _ h => cb_d hd h
theorem n_cb {r : List V → Hp → VK → Prop} {g : List D → Option D} (h : PE X e (tCB r (tAQ (FX X) fs))) (hd : CallF (FX X) r g) : N X e (eCB g fs) := pe_imp h fun _ _ _ h => cb_f hd h
end
end DL

set_option Elab.async false
set_option linter.all false
set_option maxRecDepth 100000
namespace DL
open PySem PySem.Spec PyProof.Rows L2
section
variable {X : Cx} {a b c e : Expr} {es : List Expr} {f f1 f2 f3 : Ex} {fs : Ars} {g g1 g2 : Tx} {pos : Pos}

/-! ### truth, tests -/
def D.truth : D → Option Bool
  | .non => some false
  | .bl b => some b
  | .int i => some (i != 0)
  | .str x => if x.length ≤ sizeLine then some ((x.length : Int) != 0) else none
  | .tup xs => some (!xs.isEmpty)
  | .lst xs => some (!xs.isEmpty)
  | .dct ks _ => some (!ks.isEmpty)
  | .ty _ => none
  | .ref _ => none
  | .scr _ => none
theorem isEmpty_len {α β : Type} {xs : List α} {ys : List β} (h : xs.length = ys.length) : xs.isEmpty = ys.isEmpty := by
  cases xs <;> cases ys <;> first | rfl | cases h
theorem truth_ok {K : Fw} {W : Wd} {H : Hp} {v : V} {d : D} {k : Bool} (r : Rq K W H v d) (h : d.truth = some k) : TruV K v H k := by
  cases r with
  | of r =>
    cases r with
    | non => cases h; rfl
    | bl b => cases h; rfl
    | int i => cases h; rfl
    | str x =>
      simp only [D.truth] at h
      by_cases z : x.length ≤ sizeLine
      · rw [if_pos z] at h; cases h; exact ⟨z, rfl⟩
      · rw [if_neg z] at h; cases h
    | tup q z rs => cases h; exact .inr (.inl ⟨_, q.sqt, by rw [isEmpty_len rs.length]⟩)
    | lst n q z rs => cases h; exact .inl ⟨_, .of q, by rw [isEmpty_len rs.length]⟩
    | ref _ => cases h
    | scr _ _ => cases h
    | ty _ => cases h
    | dct n q z rs => cases h; exact .inr (.inr ⟨_, q, by rw [isEmpty_len]; rw [List.length_zip, z, Nat.min_self]⟩)
  | lst n q z rs => cases h; exact .inl ⟨_, .of q, by rw [isEmpty_len rs.length]⟩
  | dct n q z rs => cases h; exact .inr (.inr ⟨_, q, by rw [isEmpty_len]; rw [List.length_zip, z, Nat.min_self]⟩)
def tTru (f : Ex) : Tx := fun ρ S => (f ρ S).bind fun p => p.1.truth.map fun k => (k, p.2)
def tBl (f : Ex) : Tx := fun ρ S => (f ρ S).bind fun p => match p.1 with
  | .bl b => some (b, p.2)
  | _ => none
theorem tTru_split {ρ : Rho} {S S' : Sto} {k : Bool} (h : tTru f ρ S = some (k, S')) : ∃ p, f ρ S = some p ∧ p.1.truth = some k ∧ S' = p.2 := by
  unfold tTru at h
  cases e1 : f ρ S with
  | none => rw [e1] at h; cases h
  | some p =>
    rw [e1, Option.bind_some] at h
    obtain ⟨z, hz, he⟩ := Option.map_eq_some_iff.mp h
    cases he
    exact ⟨p, rfl, hz, rfl⟩
theorem tBl_split {ρ : Rho} {S S' : Sto} {k : Bool} (h : tBl f ρ S = some (k, S')) : f ρ S = some (.bl k, S') := by
  unfold tBl at h
  cases e1 : f ρ S with
  | none => rw [e1] at h; cases h
  | some p =>
    rw [e1, Option.bind_some] at h
    obtain ⟨d, S1⟩ := p
    cases d <;> first | (cases h; rfl) | cases h
theorem t_tru (h : B X a f) (he : ∀ whole, isTrue a X.env whole = (do let v ← whole; standAt a.pos; holding [v] (truthy v)) := by intro _; rfl) : T X a (tTru f) :=
  pt_imp (pt_truth h he) fun σ H Q ⟨W, ρ, S, d, S', r, hf, k⟩ => by
    obtain ⟨p, e1, e2, rfl⟩ := tTru_split hf
    exact ⟨W, ρ, S, p.1, p.2, r, e1, fun v H1 s1 st1 r1 => ⟨d, truth_ok r1 e2, k H1 s1 st1⟩⟩
theorem t_cmp {op : CmpOp} {r : R2} {g : D → D → Option D} (ho : OpR X (compareOp op) r) (hd : OpD (FX X) r g) (ha : B X a f1) (hb : B X b f2) (hm : behindInMarks op b = false := by first | exact nomark _ | rfl) : T X (.Compare a [op] [b] pos) (tBl (eBin g f1 f2)) :=
  pt_imp (pt_cmpR ho ha hb hm) fun σ H Q ⟨W, ρ, S, d, S', rl, hf, k⟩ => by
    refine bin_d hd ⟨W, ρ, S, .bl d, S', rl, tBl_split hf, fun v H1 s1 st1 r1 => ?_⟩
    cases r1
    exact ⟨d, rfl, k H1 s1 st1⟩
/-- a test of a Bool-valued expression by its value -/
theorem t_val (h : B X a f) (he : ∀ whole, isTrue a X.env whole = (do let v ← whole; standAt a.pos; holding [v] (truthy v)) := by intro _; rfl) : T X a (tTru f) := t_tru h he
def tAn (g1 g2 : Tx) : Tx := fun ρ S => (g1 ρ S).bind fun p => if p.1 = true then g2 ρ p.2 else some (false, p.2)
def tOr (g1 g2 : Tx) : Tx := fun ρ S => (g1 ρ S).bind fun p => if p.1 = true then some (true, p.2) else g2 ρ p.2
def tNo (g1 : Tx) : Tx := fun ρ S => (g1 ρ S).map fun p => (!p.1, p.2)
theorem tw_and1 (h : T X a g) : TW X (.BoolOp .And [a] pos) g := pw_imp (pw_and1 h) fun _ _ _ z => z
theorem tw_or1 (h : T X a g) : TW X (.BoolOp .Or [a] pos) g := pw_imp (pw_or1 h) fun _ _ _ z => z
theorem tw_and {rest : List Expr} (h : T X a g1) (h2 : TW X (.BoolOp .And (b :: rest) pos) g2) : TW X (.BoolOp .And (a :: b :: rest) pos) (tAn g1 g2) :=
  pw_imp (pw_and h h2) fun σ H Q ⟨W, ρ, S, d, S', rl, hf, k⟩ => by
    unfold tAn at hf
    cases e1 : g1 ρ S with
    | none => rw [e1] at hf; cases hf
    | some p =>
      rw [e1, Option.bind_some] at hf
      refine ⟨W, ρ, S, p.1, p.2, rl, e1, fun H1 s1 st1 => ?_⟩
      cases hp : p.1 with
      | true =>
        rw [hp, if_pos rfl] at hf
        rw [if_pos rfl]
        exact ⟨W, ρ, p.2, d, S', rl.stepE s1 st1, hf, fun H2 s2 st2 => k H2 (s1.trans s2) st2⟩
      | false =>
        rw [hp, if_neg Bool.false_ne_true] at hf
        rw [if_neg Bool.false_ne_true]
        cases hf
        exact k H1 s1 st1
theorem tw_or {rest : List Expr} (h : T X a g1) (h2 : TW X (.BoolOp .Or (b :: rest) pos) g2) : TW X (.BoolOp .Or (a :: b :: rest) pos) (tOr g1 g2) :=
  pw_imp (pw_or h h2) fun σ H Q ⟨W, ρ, S, d, S', rl, hf, k⟩ => by
    unfold tOr at hf
    cases e1 : g1 ρ S with
    | none => rw [e1] at hf; cases hf
    | some p =>
      rw [e1, Option.bind_some] at hf
      refine ⟨W, ρ, S, p.1, p.2, rl, e1, fun H1 s1 st1 => ?_⟩
      cases hp : p.1 with
      | false =>
        rw [hp, if_neg Bool.false_ne_true] at hf
        rw [if_neg Bool.false_ne_true]
        exact ⟨W, ρ, p.2, d, S', rl.stepE s1 st1, hf, fun H2 s2 st2 => k H2 (s1.trans s2) st2⟩
      | true =>
        rw [hp, if_pos rfl] at hf
        rw [if_pos rfl]
        cases hf
        exact k H1 s1 st1
theorem t_not (h : T X a g) : T X (.UnaryOp .Not a pos) (tNo g) := pt_imp (pt_not h) fun σ H Q ⟨W, ρ, S, d, S', rl, hf, k⟩ => by
  obtain ⟨p, e1, e2⟩ := Option.map_eq_some_iff.mp hf
  cases e2
  exact ⟨W, ρ, S, p.1, p.2, rl, e1, fun H1 s1 st1 => k H1 s1 st1⟩
/-! and, or, not as values -/
def eAn (f1 f2 : Ex) : Ex := fun ρ S => (f1 ρ S).bind fun p => p.1.truth.bind fun k => if k = true then f2 ρ p.2 else some p
def eOr (f1 f2 : Ex) : Ex := fun ρ S => (f1 ρ S).bind fun p => p.1.truth.bind fun k => if k = true then some p else f2 ρ p.2
def eNo (f : Ex) : Ex := fun ρ S => (f ρ S).bind fun p => p.1.truth.map fun k => (.bl (!k), p.2)
theorem e_one {op} (h : E X a f) : E X (.BoolOp op [a] pos) f := pe_one h
theorem e_and {rest : List Expr} (h : E X a f1) (h2 : E X (.BoolOp .And (b :: rest) pos) f2) : E X (.BoolOp .And (a :: b :: rest) pos) (eAn f1 f2) :=
  pe_imp (pe_andT h h2) fun σ H Q ⟨W, ρ, S, d, S', rl, hf, k⟩ => by
    unfold eAn at hf
    cases e1 : f1 ρ S with
    | none => rw [e1] at hf; cases hf
    | some p =>
      rw [e1, Option.bind_some] at hf
      cases e2 : p.1.truth with
      | none => rw [e2] at hf; cases hf
      | some kk =>
        rw [e2, Option.bind_some] at hf
        refine ⟨W, ρ, S, p.1, p.2, rl, e1, fun v H1 s1 st1 r1 => ⟨kk, truth_ok (.of r1) e2, ?_⟩⟩
        cases kk with
        | true =>
          rw [if_pos rfl] at hf ⊢
          exact ⟨W, ρ, p.2, d, S', rl.stepE s1 st1, hf, fun v2 H2 s2 st2 r2 => k v2 H2 (s1.trans s2) st2 r2⟩
        | false =>
          rw [if_neg Bool.false_ne_true] at hf ⊢
          cases hf
          exact k v H1 s1 st1 r1
theorem e_or {rest : List Expr} (h : E X a f1) (h2 : E X (.BoolOp .Or (b :: rest) pos) f2) : E X (.BoolOp .Or (a :: b :: rest) pos) (eOr f1 f2) :=
  pe_imp (pe_orT h h2) fun σ H Q ⟨W, ρ, S, d, S', rl, hf, k⟩ => by
    unfold eOr at hf
    cases e1 : f1 ρ S with
    | none => rw [e1] at hf; cases hf
    | some p =>
      rw [e1, Option.bind_some] at hf
      cases e2 : p.1.truth with
      | none => rw [e2] at hf; cases hf
      | some kk =>
        rw [e2, Option.bind_some] at hf
        refine ⟨W, ρ, S, p.1, p.2, rl, e1, fun v H1 s1 st1 r1 => ⟨kk, truth_ok (.of r1) e2, ?_⟩⟩
        cases kk with
        | false =>
          rw [if_neg Bool.false_ne_true] at hf ⊢
          exact ⟨W, ρ, p.2, d, S', rl.stepE s1 st1, hf, fun v2 H2 s2 st2 r2 => k v2 H2 (s1.trans s2) st2 r2⟩
        | true =>
          rw [if_pos rfl] at hf ⊢
          cases hf
          exact k v H1 s1 st1 r1
theorem e_not (h : B X a f) : E X (.UnaryOp .Not a pos) (eNo f) := pe_imp (pe_notT h) fun σ H Q ⟨W, ρ, S, d, S', rl, hf, k⟩ => by
  unfold eNo at hf
  cases e1 : f ρ S with
  | none => rw [e1] at hf; cases hf
  | some p =>
    rw [e1, Option.bind_some] at hf
    obtain ⟨kk, e2, e3⟩ := Option.map_eq_some_iff.mp hf
    cases e3
    exact ⟨W, ρ, S, p.1, p.2, rl, e1, fun v H1 s1 st1 r1 => ⟨kk, truth_ok r1 e2, k _ H1 s1 st1 (.bl _)⟩⟩
def eIf (g : Tx) (f1 f2 : Ex) : Ex := fun ρ S => (g ρ S).bind fun p => if p.1 = true then f1 ρ p.2 else f2 ρ p.2
theorem e_if (hc : T X c g) (ha : E X a f1) (hb : E X b f2) : E X (.IfExp c a b pos) (eIf g f1 f2) :=
  pe_imp (pe_ifExp hc ha hb) fun σ H Q ⟨W, ρ, S, d, S', rl, hf, k⟩ => by
    unfold eIf at hf
    cases e1 : g ρ S with
    | none => rw [e1] at hf; cases hf
    | some p =>
      rw [e1, Option.bind_some] at hf
      refine ⟨W, ρ, S, p.1, p.2, rl, e1, fun H1 s1 st1 => ?_⟩
      cases hp : p.1 with
      | true =>
        rw [hp, if_pos rfl] at hf
        rw [if_pos rfl]
        exact ⟨W, ρ, p.2, d, S', rl.stepE s1 st1, hf, fun v2 H2 s2 st2 r2 => k v2 H2 (s1.trans s2) st2 r2⟩
      | false =>
        rw [hp, if_neg Bool.false_ne_true] at hf
        rw [if_neg Bool.false_ne_true]
        exact ⟨W, ρ, p.2, d, S', rl.stepE s1 st1, hf, fun v2 H2 s2 st2 r2 => k v2 H2 (s1.trans s2) st2 r2⟩

/-! ### subscripts -/
def atD (xs : List D) (i : Int) : Option D := atI xs i
theorem ixN_lt {n : Nat} {i : Int} {j : Nat} (h : ixN n i = some j) : j < n := (ixN_seq h).2.1
theorem Rps.atI {K : Fw} {W : Wd} {H : Hp} {vs : List V} {ds : List D} {i : Int} {d : D} (r : Rps K W H vs ds) (h : L2.atI ds i = some d) : ∃ v, L2.atI vs i = some v ∧ Rp K W H v d := by
  unfold L2.atI at h ⊢
  rw [r.length]
  cases e : ixN ds.length i with
  | none => rw [e] at h; cases h
  | some j =>
    rw [e, Option.bind_some] at h
    exact r.get h
def D.ix : D → D → Option D
  | .tup xs, .int i => L2.atI xs i
  | .lst xs, .int i => L2.atI xs i
  | .str z, .int i => if z.length ≤ sizeLine then (L2.atI z.cps.toList i).map fun c => .str ⟨#[c]⟩ else none
  | _, _ => none
theorem ix_d {K : Fw} : OpD K (rIx K) D.ix := fun W H v1 v2 d1 d2 d Q wf r1 r2 h k => by
  cases r1 with
  | of r1 =>
    cases r1 with
    | tup q z rs =>
      cases r2 with
      | of r2 =>
        cases r2 with
        | int i =>
          obtain ⟨v, e, rv⟩ := rs.atI h
          exact .inr (.inl ⟨_, _, _, v, rfl, rfl, q.sqt, e, k v H (.refl _) rv⟩)
        | _ => cases h
      | _ => cases h
    | lst n q z rs =>
      cases r2 with
      | of r2 =>
        cases r2 with
        | int i =>
          obtain ⟨v, e, rv⟩ := rs.atI h
          exact .inl ⟨_, _, _, v, rfl, rfl, .of q, e, k v H (.refl _) rv⟩
        | _ => cases h
      | _ => cases h
    | str x =>
      cases r2 with
      | of r2 =>
        cases r2 with
        | int i =>
          simp only [D.ix] at h
          by_cases z : x.length ≤ sizeLine
          · rw [if_pos z] at h
            obtain ⟨c, e1, e2⟩ := Option.map_eq_some_iff.mp h
            cases e2
            exact .inr (.inr ⟨x, i, c, rfl, rfl, z, e1, k _ H (.refl _) (.str _)⟩)
          · rw [if_neg z] at h; cases h
        | _ => cases h
      | _ => cases h
    | _ => cases h
  | lst n q z rs =>
    cases r2 with
    | of r2 =>
      cases r2 with
      | int i =>
        obtain ⟨v, e, rv⟩ := rs.atI h
        exact .inl ⟨_, _, _, v, rfl, rfl, .of q, e, k v H (.refl _) rv⟩
      | _ => cases h
    | _ => cases h
  | _ => cases h
theorem e_ix (ha : B X a f1) (hb : B X b f2) (hs : PlainIx b := by intro _ _; rfl) : E X (.Subscript a b pos) (eBin D.ix f1 f2) := pe_imp (pe_ix ix_seq ha hb hs) fun _ _ _ h => bin_d ix_d h
/-- c[i], c a shared list -/
def eIxR (f1 f2 : Ex) : Ex := fun ρ S => (f1 ρ S).bind fun p => (f2 ρ p.2).bind fun q => match p.1, q.1 with
  | .ref l, .int i => match q.2[l]? with
    | some (.lst xs) => (L2.atI xs i).map fun z => (z, q.2)
    | _ => none
  | _, _ => none
theorem e_ixR (ha : E X a f1) (hb : B X b f2) (hs : PlainIx b := by intro _ _; rfl) : E X (.Subscript a b pos) (eIxR f1 f2) := pe_imp (pe_ix ix_list ha hb hs) fun σ H Q ⟨W, ρ, S, d, S', rl, hf, k⟩ => by
  unfold eIxR at hf
  cases e1 : f1 ρ S with
  | none => rw [e1] at hf; cases hf
  | some p =>
    rw [e1] at hf
    cases e2 : f2 ρ p.2 with
    | none => rw [Option.bind_some, e2] at hf; cases hf
    | some q =>
      rw [Option.bind_some, e2, Option.bind_some] at hf
      obtain ⟨x, S1⟩ := p
      obtain ⟨y, S2⟩ := q
      refine ⟨W, ρ, S, x, S1, rl, e1, fun v1 H1 s1 st1 r1 => ⟨W, ρ, S1, y, S2, rl.stepE s1 st1, e2, fun v2 H2 s2 st2 r2 => ?_⟩⟩
      cases x with
      | ref l =>
        cases y with
        | int i =>
          cases hx : S2[l]? with
          | none => simp only [hx] at hf; cases hf
          | some cc =>
            cases cc with
            | lst xs =>
              simp only [hx] at hf
              obtain ⟨z, hz, he⟩ := Option.map_eq_some_iff.mp hf
              cases he
              cases r2 with
              | of r2 =>
                cases r2
                cases r1 with
                | ref hl =>
                  obtain ⟨vs, hv, _, rs⟩ := st2.2 _ _ _ hl hx
                  obtain ⟨v, ev, rv⟩ := rs.atI hz
                  exact ⟨_, _, _, v, rfl, rfl, .of hv, ev, k v H2 (s1.trans s2) st2 rv⟩
            | dct _ _ => simp only [hx] at hf; cases hf
            | dn _ _ _ => simp only [hx] at hf; cases hf
        | _ => cases hf
      | _ => cases hf

/-! ### slices -/
abbrev Px := Rho → Sto → Option (Option Int × Sto)
def tPx (K : Fw) (f : Px) : TO := fun σ H Q => ∃ (W : Wd) (ρ : Rho) (S : Sto) (d : Option Int) (S' : Sto), Rel K W H σ ρ S ∧ f ρ S = some (d, S') ∧ ∀ H', StepE W.θ H H' → StOk K W H' S' → Q d H'
abbrev P (X : Cx) (e : Option Expr) (f : Px) : Prop := PO X e (tPx (FX X) f)
def pNo : Px := fun _ S => some (none, S)
def pIs (f : Ex) : Px := fun ρ S => (f ρ S).bind fun p => match p.1 with
  | .int i => some (some i, p.2)
  | _ => none
theorem p_no : P X none pNo := ⟨fun pins s σ H Q I ⟨W, ρ, S, d, S', rl, hf, k⟩ => by
  cases hf
  exact po_none.run pins s σ H Q I (k H (.refl _ _) rl.st)⟩
theorem p_is (h : B X a f) : P X (some a) (pIs f) := ⟨fun pins s σ H Q I ⟨W, ρ, S, d, S', rl, hf, k⟩ => by
  refine (po_some h).run pins s σ H Q I ?_
  unfold pIs at hf
  cases e1 : f ρ S with
  | none => rw [e1] at hf; cases hf
  | some p =>
    rw [e1, Option.bind_some] at hf
    obtain ⟨x, S1⟩ := p
    cases x with
    | int i =>
      cases hf
      refine ⟨W, ρ, S, _, _, rl, e1, fun v H1 s1 st1 r1 => ?_⟩
      cases r1 with
      | of r1 =>
        cases r1
        exact ⟨i, rfl, k H1 s1 st1⟩
    | _ => cases hf⟩
def cutD (xs : List D) (lo hi : Option Int) : List D := (xs.drop (HT.sIx xs.length 0 lo)).take (HT.sIx xs.length xs.length hi - HT.sIx xs.length 0 lo)
theorem Rps.cut {K : Fw} {W : Wd} {H : Hp} {vs : List V} {ds : List D} (lo hi : Option Int) (r : Rps K W H vs ds) : Rps K W H (cutV vs lo hi) (cutD ds lo hi) := by
  unfold cutV cutD
  rw [r.length]
  exact (r.drop _).take _
def SlD (K : Fw) (r : V → Option Int → Option Int → Hp → VK → Prop) (g : D → Option Int → Option Int → Option D) : Prop :=
  ∀ (W : Wd) (H : Hp) (v : V) (d1 d : D) (lo hi : Option Int) (Q : VK), WfW W H → Rq K W H v d1 → g d1 lo hi = some d → (∀ v H', Same H H' → Rp K W H' v d → Q v H') → r v lo hi H Q
def eSl (g : D → Option Int → Option Int → Option D) (f : Ex) (l h : Px) : Ex := fun ρ S => (f ρ S).bind fun p => (l ρ p.2).bind fun q => (h ρ q.2).bind fun r => (g p.1 q.1 r.1).map fun z => (z, r.2)
theorem sl_split {g : D → Option Int → Option Int → Option D} {l h : Px} {ρ : Rho} {S S' : Sto} {d : D} (hf : eSl g f l h ρ S = some (d, S')) : ∃ p q r, f ρ S = some p ∧ l ρ p.2 = some q ∧ h ρ q.2 = some r ∧ g p.1 q.1 r.1 = some d ∧ S' = r.2 := by
  unfold eSl at hf
  cases e1 : f ρ S with
  | none => rw [e1] at hf; cases hf
  | some p =>
    rw [e1, Option.bind_some] at hf
    cases e2 : l ρ p.2 with
    | none => rw [e2] at hf; cases hf
    | some q =>
      rw [e2, Option.bind_some] at hf
      cases e3 : h ρ q.2 with
      | none => rw [e3] at hf; cases hf
      | some r =>
        rw [e3, Option.bind_some] at hf
        obtain ⟨z, hz, he⟩ := Option.map_eq_some_iff.mp hf
        cases he
        exact ⟨p, q, r, rfl, e2, e3, hz, rfl⟩
theorem e_sl {lo hi : Option Expr} {p2 : Pos} {l h : Px} {r : V → Option Int → Option Int → Hp → VK → Prop} {g : D → Option Int → Option Int → Option D} (hr : SlR X r) (hd : SlD (FX X) r g) (ha : B X a f) (hl : P X lo l) (hh : P X hi h) : E X (.Subscript a (.Slice lo hi none p2) pos) (eSl g f l h) :=
  pe_imp (pe_slice hr ha hl hh) fun σ H Q ⟨W, ρ, S, d, S', rl, hf, k⟩ => by
    obtain ⟨p, q, r, e1, e2, e3, hz, rfl⟩ := sl_split hf
    refine ⟨W, ρ, S, p.1, p.2, rl, e1, fun v1 H1 s1 st1 r1 => ⟨W, ρ, p.2, q.1, q.2, rl.stepE s1 st1, e2, fun H2 s2 st2 => ⟨W, ρ, q.2, r.1, r.2, (rl.stepE s1 st1).stepE s2 st2, e3, fun H3 s3 st3 => ?_⟩⟩⟩
    exact hd W H3 v1 p.1 d q.1 r.1 Q (((rl.wf.stepE s1).stepE s2).stepE s3) ((r1.stepE s2).stepE s3) hz fun v H4 s4 r4 => k v H4 (((s1.trans s2).trans s3).trans (.same s4)) (st3.same s4) r4
def D.slice : D → Option Int → Option Int → Option D
  | .tup xs, lo, hi => some (.tup (cutD xs lo hi))
  | .lst xs, lo, hi => some (.lst (cutD xs lo hi))
  | .scr ns, lo, hi => some (.lst (cutD (ns.map D.int) lo hi))
  | .str z, lo, hi => if z.length ≤ sizeLine then some (.str (cutS z lo hi)) else none
  | _, _, _ => none
def rSlice (K : PySem.W.Frag) : V → Option Int → Option Int → Hp → VK → Prop := fun x lo hi H Q => rSlL K x lo hi H Q ∨ rSlZ K x lo hi H Q ∨ rSlS x lo hi H Q
theorem sl_slice : SlR X (rSlice X.K) := sl_list.or (sl_tupZ.or sl_str)
theorem cutV_whole {xs : List V} {lo hi : Option Int} (h : HT.sIx xs.length 0 lo = 0 ∧ HT.sIx xs.length xs.length hi = xs.length) : cutV xs lo hi = xs := by
  unfold cutV
  rw [h.1, h.2]
  simp
theorem ScrAt.sql {K : PySem.W.Frag} {H : Hp} {a : Addr} {ns : List Int} (h : ScrAt K H a ns) : SqL K H a (ns.map V.int) := by
  rcases h with ⟨o, h⟩ | h
  · exact .inl (.inr ⟨o, h⟩)
  · exact .inr h
theorem rps_ints (K : Fw) (W : Wd) (H : Hp) : ∀ ns : List Int, Rps K W H (ns.map V.int) (ns.map D.int)
  | [] => .nil
  | n :: ns => .cons (.int n) (rps_ints K W H ns)
theorem slice_d {K : Fw} : SlD K (rSlice K) D.slice := fun W H v d1 d lo hi Q wf r1 h k => by
  have newl : ∀ {a : Addr} {vs : List V} {ds : List D}, SqL K H a vs → vs.length ≤ sizeLine → Rps K W H vs ds → d = .lst (cutD ds lo hi) → rSlL K (.ref a) lo hi H Q := fun {a vs ds} hs hz rs e => by
    subst e
    refine ⟨a, vs, rfl, hs, fun p hp => ?_⟩
    have sm : Same H (upd H p (.lst (cutV vs lo hi))) := upd_Same hp
    exact k _ _ sm (.lst (fun m => by obtain ⟨o, h⟩ := wf.dom _ m; rw [hp] at h; cases h) upd_same (Nat.le_trans (cutV_length _ _ _) hz) ((rs.cut lo hi).stepE (.same sm)))
  cases r1 with
  | of r1 =>
    cases r1 with
    | lst n q z rs => exact .inl (newl (.of q) z rs (Option.some.inj h).symm)
    | scr z q => exact .inl (newl q.sql (by rw [List.length_map]; exact z) (rps_ints K W H _) (Option.some.inj h).symm)
    | @tup aa vv dd q z rs =>
      cases h
      refine .inr (.inl ⟨_, _, rfl, q.sqt, fun hw => ?_, fun hw p o hp ho => ?_⟩)
      · refine k _ H (.refl _) (.tup q z ?_)
        have e := rs.cut lo hi
        rw [cutV_whole hw] at e
        exact e
      · have sm : Same H (upd H p (.frz o (.tup (cutV vv lo hi)))) := upd_Same hp
        exact k _ _ sm (.tup (.new ho) (Nat.le_trans (cutV_length _ _ _) z) ((rs.cut lo hi).stepE (.same sm)))
    | str x =>
      simp only [D.slice] at h
      by_cases z : x.length ≤ sizeLine
      · rw [if_pos z] at h
        cases h
        exact .inr (.inr ⟨x, rfl, z, k _ H (.refl _) (.str _)⟩)
      · rw [if_neg z] at h; cases h
    | _ => cases h
  | lst n q z rs => exact .inl (newl (.of q) z rs (Option.some.inj h).symm)
  | dct => cases h
end
end DL

set_option Elab.async false
set_option linter.all false
set_option maxRecDepth 100000
namespace DL
open PySem PySem.Spec PyProof.Rows L2

/-! ## 4. what is walked -/
structure LaterE (W : Wd) (H : Hp) (W2 : Wd) (H2 : Hp) : Prop where
  th : W2.θ = W.θ
  keep : ∀ b o, H b = some o → b ∉ W.θ → ¬ W.M0 b → H2 b = some o
  nm : ∀ b o, H b = some o → ¬ Mu W b → ¬ Mu W2 b
  tups : ∀ b xs, H b = some (.tup xs) → H2 b = some (.tup xs)
  frzs : ∀ b o u, H b = some (.frz o u) → H2 b = some (.frz o u)
theorem LaterE.kps {K : Fw} {W W2 : Wd} {H H2 : Hp} (l : LaterE W H W2 H2) : Kps K W H W2 H2 where
  th := fun _ _ h => by rw [l.th]; exact h
  keep := fun b o h n => ⟨l.keep b o h (fun z => n (.inr (.inl z))) (fun z => n (.inl z)), l.nm b o h n⟩
  tups := l.tups
  frzs := l.frzs
theorem StepE.later {W : Wd} {H H2 : Hp} (s : StepE W.θ H H2) : LaterE W H W H2 := ⟨rfl, fun b o h n _ => s.keep b o h n, fun _ _ _ n => n, s.tups, s.frzs⟩
/-- fl: also where the frame's own objects change -/
def Later (fl : Bool) (K : Fw) (W : Wd) (H : Hp) (W2 : Wd) (H2 : Hp) : Prop := if fl = true then Kps K W H W2 H2 else LaterE W H W2 H2
theorem Later.kps {fl : Bool} {K : Fw} {W W2 : Wd} {H H2 : Hp} (l : Later fl K W H W2 H2) : Kps K W H W2 H2 := by
  cases fl with
  | true => exact l
  | false => exact LaterE.kps l
def Walk (K : Fw) (W : Wd) (fl : Bool) (H : Hp) (J : It) (xs : List D) : Prop :=
  ∀ W2 H2, Later fl K W H W2 H2 → (∀ (i : Nat) (d : D), xs[i]? = some d → J.go i H2 ∧ ∀ v H3, J.yld i H2 v H3 → Same H2 H3 ∧ Rp K W2 H3 v d) ∧ J.stop xs.length H2
def tI (K : Fw) (fl : Bool) (f : Ars) : TI := fun σ H R => ∃ (W : Wd) (ρ : Rho) (S : Sto) (xs : List D) (S' : Sto), Rel K W H σ ρ S ∧ f ρ S = some (xs, S') ∧
  ∀ J H', StepE W.θ H H' → StOk K W H' S' → xs.length ≤ sizeLine → Walk K W fl H' J xs → R J H'
abbrev IT (fl : Bool) (X : Cx) (tg iter : Expr) (f : Ars) : Prop := PI X tg iter (tI (FX X) fl f)
theorem pi_imp {X : Cx} {tg iter : Expr} {t t' : TI} (h : PI X tg iter t) (i : ∀ σ H R, t' σ H R → t σ H R) : PI X tg iter t' := ⟨fun pins s σ H R I w => h.run pins s σ H R I (i σ H R w)⟩
theorem pi_or {X : Cx} {tg iter : Expr} {t t' : TI} (h : PI X tg iter t) (h' : PI X tg iter t') : PI X tg iter (fun σ H R => t σ H R ∨ t' σ H R) :=
  ⟨fun pins s σ H R I w => w.elim (fun w => h.run pins s σ H R I w) fun w => h'.run pins s σ H R I w⟩

section
variable {K : Fw} {W : Wd} {H : Hp}
theorem Rps.getLt {vs : List V} {ds : List D} {i : Nat} (r : Rps K W H vs ds) (h : i < vs.length) : i < ds.length := by rw [← r.length]; exact h
theorem walk_list {a : Addr} {vs : List V} {ds : List D} (h : H a = some (.lst vs)) (n : ¬ Mu W a) (r : Rps K W H vs ds) : Walk K W true H (Itl K a) ds := fun W2 H2 l => by
  have e2 := (l.kps.keep a _ h n).1
  refine ⟨fun i d hd => ?_, ⟨vs, .of e2, by rw [r.length]; exact Nat.le_refl _⟩⟩
  obtain ⟨v, hv, rv⟩ := r.get hd
  refine ⟨⟨vs, v, .of e2, hv⟩, fun x H3 y => ?_⟩
  obtain ⟨rfl, y⟩ := y
  have q := y vs (.of e2)
  rw [hv] at q
  cases q
  exact ⟨.refl _, rv.keeps l.kps⟩
theorem walk_own {a : Addr} {vs : List V} {ds : List D} (h : H a = some (.lst vs)) (n : a ∉ W.θ ∧ ¬ W.M0 a) (r : Rps K W H vs ds) : Walk K W false H (Itl K a) ds := fun W2 H2 l => by
  have e2 : H2 a = some (.lst vs) := LaterE.keep l a _ h n.1 n.2
  refine ⟨fun i d hd => ?_, ⟨vs, .of e2, by rw [r.length]; exact Nat.le_refl _⟩⟩
  obtain ⟨v, hv, rv⟩ := r.get hd
  refine ⟨⟨vs, v, .of e2, hv⟩, fun x H3 y => ?_⟩
  obtain ⟨rfl, y⟩ := y
  have q := y vs (.of e2)
  rw [hv] at q
  cases q
  exact ⟨.refl _, rv.keeps l.kps⟩
theorem walk_tup {fl : Bool} {a : Addr} {vs : List V} {ds : List D} (h : TupAt K H a vs) (r : Rps K W H vs ds) : Walk K W fl H (Itt K a) ds := fun W2 H2 l => by
  have e2 : SqT K H2 a vs := (TupAt.step l.kps.frzs h).sqt
  refine ⟨fun i d hd => ?_, ⟨vs, e2, by rw [r.length]; exact Nat.le_refl _⟩⟩
  obtain ⟨v, hv, rv⟩ := r.get hd
  refine ⟨⟨vs, v, e2, hv⟩, fun x H3 y => ?_⟩
  obtain ⟨rfl, y⟩ := y
  have q := y vs e2
  rw [hv] at q
  cases q
  exact ⟨.refl _, rv.keeps l.kps⟩
theorem Walk.less {fl : Bool} {J : It} {xs : List D} (w : Walk K W true H J xs) : Walk K W fl H J xs := fun W2 H2 l => w W2 H2 (show Later true K W H W2 H2 from l.kps)
end

/-! ### lists and tuples -/
def D.elems : D → Option (List D)
  | .tup xs => some xs
  | .lst xs => some xs
  | _ => none
def iSeq (f : Ex) : Ars := fun ρ S => (f ρ S).bind fun p => p.1.elems.map fun xs => (xs, p.2)
theorem iSeq_split {f : Ex} {ρ : Rho} {S S' : Sto} {xs : List D} (h : iSeq f ρ S = some (xs, S')) : ∃ d, f ρ S = some (d, S') ∧ d.elems = some xs := by
  unfold iSeq at h
  cases e1 : f ρ S with
  | none => rw [e1] at h; cases h
  | some p =>
    rw [e1, Option.bind_some] at h
    obtain ⟨z, hz, he⟩ := Option.map_eq_some_iff.mp h
    cases he
    exact ⟨p.1, rfl, hz⟩
section
variable {X : Cx} {tg e e2 : Expr} {f : Ex} {fs : Ars} {pos : Pos}
theorem it_seq (h : E X e f) : IT true X tg e (iSeq f) := pi_imp (pi_or (pi_list h) (pi_tup h)) fun σ H R ⟨W, ρ, S, xs, S', rl, hf, k⟩ => by
  obtain ⟨d, e1, e2⟩ := iSeq_split hf
  cases d with
  | lst ys =>
    cases e2
    refine .inl ⟨W, ρ, S, _, _, rl, e1, fun v H1 s1 st1 r1 => ?_⟩
    cases r1 with
    | lst n q z rs => exact ⟨_, rfl, ⟨_, .of q⟩, k _ H1 s1 st1 (by rw [← rs.length]; exact z) (walk_list q n rs)⟩
  | tup ys =>
    cases e2
    refine .inr ⟨W, ρ, S, _, _, rl, e1, fun v H1 s1 st1 r1 => ?_⟩
    cases r1 with
    | tup q z rs => exact ⟨_, rfl, ⟨_, q.sqt⟩, k _ H1 s1 st1 (by rw [← rs.length]; exact z) (walk_tup q rs)⟩
  | _ => cases e2
theorem ib_seq (h : B X e f) : IT false X tg e (iSeq f) := pi_imp (pi_or (pi_list h) (pi_tup h)) fun σ H R ⟨W, ρ, S, xs, S', rl, hf, k⟩ => by
  obtain ⟨d, e1, e2⟩ := iSeq_split hf
  cases d with
  | lst ys =>
    cases e2
    refine .inl ⟨W, ρ, S, _, _, rl, e1, fun v H1 s1 st1 r1 => ?_⟩
    cases r1 with
    | of r1 =>
      cases r1 with
      | lst n q z rs => exact ⟨_, rfl, ⟨_, .of q⟩, k _ H1 s1 st1 (by rw [← rs.length]; exact z) (walk_list q n rs).less⟩
    | lst n q z rs => exact ⟨_, rfl, ⟨_, .of q⟩, k _ H1 s1 st1 (by rw [← rs.length]; exact z) (walk_own q n rs)⟩
  | tup ys =>
    cases e2
    refine .inr ⟨W, ρ, S, _, _, rl, e1, fun v H1 s1 st1 r1 => ?_⟩
    cases r1 with
    | of r1 =>
      cases r1 with
      | tup q z rs => exact ⟨_, rfl, ⟨_, q.sqt⟩, k _ H1 s1 st1 (by rw [← rs.length]; exact z) (walk_tup q rs)⟩
  | _ => cases e2
theorem it_less {fl : Bool} (h : IT true X tg e fs) : IT fl X tg e fs := pi_imp h fun σ H R ⟨W, ρ, S, xs, S', rl, hf, k⟩ => ⟨W, ρ, S, xs, S', rl, hf, fun J H' s st z w => k J H' s st z w.less⟩
/-! ### ranges -/
def rangeD (lo : Int) (n : Nat) : List D := (List.range n).map fun (i : Nat) => D.int (lo + (i : Int))
def rangeOf : List D → Option (List D)
  | [.int j] => if -(2 ^ 62) ≤ j ∧ j < 2 ^ 62 ∧ j.toNat ≤ sizeLine then some (rangeD 0 j.toNat) else none
  | [.int i, .int j] => if (-(2 ^ 62) ≤ i ∧ i < 2 ^ 62 ∧ -(2 ^ 62) ≤ j ∧ j < 2 ^ 62) ∧ (j - i).toNat ≤ sizeLine then some (rangeD i (j - i).toNat) else none
  | _ => none
def iRng (fs : Ars) : Ars := fun ρ S => (fs ρ S).bind fun p => (rangeOf p.1).map fun xs => (xs, p.2)
theorem walk_range {K : Fw} {W : Wd} {H : Hp} {fl : Bool} (lo : Int) (n : Nat) : Walk K W fl H (Itr lo n) (rangeD lo n) := fun W2 H2 l => by
  refine ⟨fun i d hd => ?_, by show n ≤ (rangeD lo n).length; simp [rangeD]⟩
  unfold rangeD at hd
  rw [List.getElem?_map] at hd
  by_cases h : i < n
  · rw [List.getElem?_range h] at hd
    cases hd
    refine ⟨h, fun x H3 y => ?_⟩
    obtain ⟨rfl, rfl⟩ := y
    exact ⟨.refl _, .int _⟩
  · rw [List.getElem?_eq_none (by simpa using h)] at hd
    cases hd
theorem rangeD_length (lo : Int) (n : Nat) : (rangeD lo n).length = n := by simp [rangeD]
theorem iRng_split {ρ : Rho} {S S' : Sto} {xs : List D} (h : iRng fs ρ S = some (xs, S')) : ∃ ds, fs ρ S = some (ds, S') ∧ rangeOf ds = some xs := by
  unfold iRng at h
  cases e1 : fs ρ S with
  | none => rw [e1] at h; cases h
  | some p =>
    rw [e1, Option.bind_some] at h
    obtain ⟨z, hz, he⟩ := Option.map_eq_some_iff.mp h
    cases he
    exact ⟨p.1, rfl, hz⟩
theorem rp_int {K : Fw} {W : Wd} {H : Hp} {v : V} {i : Int} (r : Rp K W H v (.int i)) : v = .int i := by cases r; rfl
theorem rq_int {K : Fw} {W : Wd} {H : Hp} {v : V} {i : Int} (r : Rq K W H v (.int i)) : v = .int i := by
  cases r with
  | of r => exact rp_int r
theorem it_range1 {fl : Bool} (h : PI X tg e (iRng1 (tAQ (FX X) fs))) (one : ∀ (ρ : Rho) (S S' : Sto) (ds : List D), fs ρ S = some (ds, S') → ds.length = 1) : IT fl X tg e (iRng fs) := pi_imp h fun σ H R ⟨W, ρ, S, xs, S', rl, hf, k⟩ => by
  obtain ⟨ds, e1, e2⟩ := iRng_split hf
  have l1 := one ρ S S' ds e1
  match ds, l1 with
  | [d], _ =>
    cases d with
    | int j =>
      simp only [rangeOf] at e2
      by_cases c : -(2 ^ 62) ≤ j ∧ j < 2 ^ 62 ∧ j.toNat ≤ sizeLine
      · rw [if_pos c] at e2
        cases e2
        refine ⟨W, ρ, S, _, _, rl, e1, fun vs H1 s1 st1 r1 => ?_⟩
        cases r1 with
        | cons a b =>
          cases b
          exact ⟨j, by rw [rq_int a], c.1, c.2.1, k _ H1 s1 st1 (by rw [rangeD_length]; exact c.2.2) (walk_range 0 j.toNat)⟩
      · rw [if_neg c] at e2; cases e2
    | _ => cases e2
theorem it_range2 {fl : Bool} (h : PI X tg e (iRng2 (tAQ (FX X) fs))) (two : ∀ (ρ : Rho) (S S' : Sto) (ds : List D), fs ρ S = some (ds, S') → ds.length = 2) : IT fl X tg e (iRng fs) := pi_imp h fun σ H R ⟨W, ρ, S, xs, S', rl, hf, k⟩ => by
  obtain ⟨ds, e1, e2⟩ := iRng_split hf
  have l1 := two ρ S S' ds e1
  match ds, l1 with
  | [d, d'], _ =>
    cases d with
    | int i =>
      cases d' with
      | int j =>
        simp only [rangeOf] at e2
        by_cases c : (-(2 ^ 62) ≤ i ∧ i < 2 ^ 62 ∧ -(2 ^ 62) ≤ j ∧ j < 2 ^ 62) ∧ (j - i).toNat ≤ sizeLine
        · rw [if_pos c] at e2
          cases e2
          refine ⟨W, ρ, S, _, _, rl, e1, fun vs H1 s1 st1 r1 => ?_⟩
          cases r1 with
          | cons a b =>
            cases b with
            | cons a' b =>
              cases b
              exact ⟨i, j, by rw [rq_int a, rq_int a'], c.1, k _ H1 s1 st1 (by rw [rangeD_length]; exact c.2) (walk_range i _)⟩
        · rw [if_neg c] at e2; cases e2
      | _ => cases e2
    | _ => cases e2
theorem aCons_len {n : Nat} (h : ∀ (ρ : Rho) (S S' : Sto) (ds : List D), fs ρ S = some (ds, S') → ds.length = n) : ∀ (ρ : Rho) (S S' : Sto) (ds : List D), aCons f fs ρ S = some (ds, S') → ds.length = n + 1 := fun ρ S S' ds e => by
  obtain ⟨p, q, e1, e2, rfl, rfl⟩ := aCons_split e
  have := h _ _ _ _ e2
  simp [this]
theorem aNil_len : ∀ (ρ : Rho) (S S' : Sto) (ds : List D), aNil ρ S = some (ds, S') → ds.length = 0 := fun ρ S S' ds e => by cases e; rfl

/-! ### zip of two lists, of two tuples -/
def zipOf : List D → Option (List D)
  | [.lst xs, .lst ys] => some (List.zipWith (fun x y => .tup [x, y]) xs ys)
  | [.tup xs, .tup ys] => some (List.zipWith (fun x y => .tup [x, y]) xs ys)
  | _ => none
def iZp (fs : Ars) : Ars := fun ρ S => (fs ρ S).bind fun p => (zipOf p.1).map fun xs => (xs, p.2)
theorem iZp_split {ρ : Rho} {S S' : Sto} {xs : List D} (h : iZp fs ρ S = some (xs, S')) : ∃ ds, fs ρ S = some (ds, S') ∧ zipOf ds = some xs := by
  unfold iZp at h
  cases e1 : fs ρ S with
  | none => rw [e1] at h; cases h
  | some p =>
    rw [e1, Option.bind_some] at h
    obtain ⟨z, hz, he⟩ := Option.map_eq_some_iff.mp h
    cases he
    exact ⟨p.1, rfl, hz⟩
theorem zipWith_some {α β γ : Type} {g : α → β → γ} {xs : List α} {ys : List β} {i : Nat} {z : γ} (h : (List.zipWith g xs ys)[i]? = some z) : ∃ x y, xs[i]? = some x ∧ ys[i]? = some y ∧ z = g x y := by
  rw [List.getElem?_zipWith] at h
  split at h
  · rename_i x y hx hy
    cases h
    exact ⟨x, y, hx, hy, rfl⟩
  · cases h
theorem walk_zipT {K : Fw} {W : Wd} {H : Hp} {fl : Bool} {a b : Addr} {vs ws : List V} {xs ys : List D} (ha : TupAt K H a vs) (hb : TupAt K H b ws) (ra : Rps K W H vs xs) (rb : Rps K W H ws ys) : Walk K W fl H (ItzTZ K a b) (List.zipWith (fun x y => .tup [x, y]) xs ys) := fun W2 H2 l => by
  have ea : SqT K H2 a vs := (TupAt.step l.kps.frzs ha).sqt
  have eb : SqT K H2 b ws := (TupAt.step l.kps.frzs hb).sqt
  refine ⟨fun i d hd => ?_, ⟨vs, ws, ea, eb, ?_⟩⟩
  · obtain ⟨x, y, hx, hy, rfl⟩ := zipWith_some hd
    obtain ⟨v, hv, rv⟩ := ra.get hx
    obtain ⟨w, hw, rw'⟩ := rb.get hy
    refine ⟨⟨vs, ws, v, w, ea, eb, hv, hw⟩, fun z H3 yy => ?_⟩
    obtain ⟨T, oo, x', y', rfl, hT, hoo, rfl, q1, q2⟩ := yy
    have q1 := q1 vs ea
    have q2 := q2 ws eb
    rw [hv] at q1
    rw [hw] at q2
    cases q1
    cases q2
    have sm : Same H2 (upd H2 T (.frz oo (.tup [v, w]))) := upd_Same hT
    have k2 : Kps K W2 H2 W2 (upd H2 T (.frz oo (.tup [v, w]))) := (StepE.same (θ := W2.θ) sm).keeps
    exact ⟨sm, .tup (.new hoo) (by show 2 ≤ sizeLine; decide) (.cons ((rv.keeps l.kps).keeps k2) (.cons ((rw'.keeps l.kps).keeps k2) .nil))⟩
  · rw [List.length_zipWith, ra.length, rb.length]
    omega
theorem walk_zipL {K : Fw} {W : Wd} {H : Hp} {a b : Addr} {vs ws : List V} {xs ys : List D} (na : a ∉ W.θ ∧ ¬ W.M0 a) (nb : b ∉ W.θ ∧ ¬ W.M0 b) (ha : H a = some (.lst vs)) (hb : H b = some (.lst ws)) (ra : Rps K W H vs xs) (rb : Rps K W H ws ys) : Walk K W false H (ItzLZ K a b) (List.zipWith (fun x y => .tup [x, y]) xs ys) := fun W2 H2 l => by
  have ea : SqL K H2 a vs := .of (LaterE.keep l a _ ha na.1 na.2)
  have eb : SqL K H2 b ws := .of (LaterE.keep l b _ hb nb.1 nb.2)
  refine ⟨fun i d hd => ?_, ⟨vs, ws, ea, eb, ?_⟩⟩
  · obtain ⟨x, y, hx, hy, rfl⟩ := zipWith_some hd
    obtain ⟨v, hv, rv⟩ := ra.get hx
    obtain ⟨w, hw, rw'⟩ := rb.get hy
    refine ⟨⟨vs, ws, v, w, ea, eb, hv, hw⟩, fun z H3 yy => ?_⟩
    obtain ⟨T, oo, x', y', rfl, hT, hoo, rfl, q1, q2⟩ := yy
    have q1 := q1 vs ea
    have q2 := q2 ws eb
    rw [hv] at q1
    rw [hw] at q2
    cases q1
    cases q2
    have sm : Same H2 (upd H2 T (.frz oo (.tup [v, w]))) := upd_Same hT
    have k2 : Kps K W2 H2 W2 (upd H2 T (.frz oo (.tup [v, w]))) := (StepE.same (θ := W2.θ) sm).keeps
    exact ⟨sm, .tup (.new hoo) (by show 2 ≤ sizeLine; decide) (.cons ((rv.keeps l.kps).keeps k2) (.cons ((rw'.keeps l.kps).keeps k2) .nil))⟩
  · rw [List.length_zipWith, ra.length, rb.length]
    omega
theorem walk_zipLs {K : Fw} {W : Wd} {H : Hp} {a b : Addr} {vs ws : List V} {xs ys : List D} (na : ¬ Mu W a) (nb : ¬ Mu W b) (ha : H a = some (.lst vs)) (hb : H b = some (.lst ws)) (ra : Rps K W H vs xs) (rb : Rps K W H ws ys) : Walk K W true H (ItzLZ K a b) (List.zipWith (fun x y => .tup [x, y]) xs ys) := fun W2 H2 l => by
  have ea : SqL K H2 a vs := .of (l.kps.keep a _ ha na).1
  have eb : SqL K H2 b ws := .of (l.kps.keep b _ hb nb).1
  refine ⟨fun i d hd => ?_, ⟨vs, ws, ea, eb, ?_⟩⟩
  · obtain ⟨x, y, hx, hy, rfl⟩ := zipWith_some hd
    obtain ⟨v, hv, rv⟩ := ra.get hx
    obtain ⟨w, hw, rw'⟩ := rb.get hy
    refine ⟨⟨vs, ws, v, w, ea, eb, hv, hw⟩, fun z H3 yy => ?_⟩
    obtain ⟨T, oo, x', y', rfl, hT, hoo, rfl, q1, q2⟩ := yy
    have q1 := q1 vs ea
    have q2 := q2 ws eb
    rw [hv] at q1
    rw [hw] at q2
    cases q1
    cases q2
    have sm : Same H2 (upd H2 T (.frz oo (.tup [v, w]))) := upd_Same hT
    have k2 : Kps K W2 H2 W2 (upd H2 T (.frz oo (.tup [v, w]))) := (StepE.same (θ := W2.θ) sm).keeps
    exact ⟨sm, .tup (.new hoo) (by show 2 ≤ sizeLine; decide) (.cons ((rv.keeps l.kps).keeps k2) (.cons ((rw'.keeps l.kps).keeps k2) .nil))⟩
  · rw [List.length_zipWith, ra.length, rb.length]
    omega
theorem rq_lst {K : Fw} {W : Wd} {H : Hp} {v : V} {xs : List D} (r : Rq K W H v (.lst xs)) (wf : WfW W H) : ∃ a vs, v = .ref a ∧ (a ∉ W.θ ∧ ¬ W.M0 a) ∧ H a = some (.lst vs) ∧ vs.length ≤ sizeLine ∧ Rps K W H vs xs := by
  cases r with
  | of r =>
    cases r with
    | lst n q z rs => exact ⟨_, _, rfl, ⟨fun m => n (.inr (.inl m)), fun m => n (.inl m)⟩, q, z, rs⟩
  | lst n q z rs => exact ⟨_, _, rfl, n, q, z, rs⟩
theorem rp_lst {K : Fw} {W : Wd} {H : Hp} {v : V} {xs : List D} (r : Rp K W H v (.lst xs)) : ∃ a vs, v = .ref a ∧ ¬ Mu W a ∧ H a = some (.lst vs) ∧ vs.length ≤ sizeLine ∧ Rps K W H vs xs := by
  cases r with
  | lst n q z rs => exact ⟨_, _, rfl, n, q, z, rs⟩
theorem rq_tup {K : Fw} {W : Wd} {H : Hp} {v : V} {xs : List D} (r : Rq K W H v (.tup xs)) : ∃ a vs, v = .ref a ∧ TupAt K H a vs ∧ vs.length ≤ sizeLine ∧ Rps K W H vs xs := by
  cases r with
  | of r =>
    cases r with
    | tup q z rs => exact ⟨_, _, rfl, q, z, rs⟩
theorem rp_tup {K : Fw} {W : Wd} {H : Hp} {v : V} {xs : List D} (r : Rp K W H v (.tup xs)) : ∃ a vs, v = .ref a ∧ TupAt K H a vs ∧ vs.length ≤ sizeLine ∧ Rps K W H vs xs := rq_tup (.of r)
theorem ib_zip (h : PI X tg e (iZipZ X.K (tAQ (FX X) fs))) : IT false X tg e (iZp fs) := pi_imp h fun σ H R ⟨W, ρ, S, xs, S', rl, hf, k⟩ => by
  obtain ⟨ds, e1, e2⟩ := iZp_split hf
  refine ⟨W, ρ, S, ds, S', rl, e1, fun vs H1 s1 st1 r1 => ?_⟩
  unfold zipOf at e2
  split at e2
  · cases e2
    cases r1 with
    | cons a b =>
      cases b with
      | cons b c =>
        cases c
        obtain ⟨a1, v1, rfl, n1, q1, z1, r1⟩ := rq_lst a (rl.wf.stepE s1)
        obtain ⟨a2, v2, rfl, n2, q2, z2, r2⟩ := rq_lst b (rl.wf.stepE s1)
        refine ⟨a1, a2, v1, v2, rfl, .inl ⟨.of q1, .of q2, k _ H1 s1 st1 ?_ (walk_zipL n1 n2 q1 q2 r1 r2)⟩⟩
        rw [List.length_zipWith, ← r1.length]
        exact Nat.le_trans (Nat.min_le_left _ _) z1
  · cases e2
    cases r1 with
    | cons a b =>
      cases b with
      | cons b c =>
        cases c
        obtain ⟨a1, v1, rfl, q1, z1, r1⟩ := rq_tup a
        obtain ⟨a2, v2, rfl, q2, z2, r2⟩ := rq_tup b
        refine ⟨a1, a2, v1, v2, rfl, .inr ⟨q1.sqt, q2.sqt, k _ H1 s1 st1 ?_ (walk_zipT q1 q2 r1 r2)⟩⟩
        rw [List.length_zipWith, ← r1.length]
        exact Nat.le_trans (Nat.min_le_left _ _) z1
  · cases e2
theorem it_zip (h : PI X tg e (iZipZ X.K (tA (FX X) fs))) : IT true X tg e (iZp fs) := pi_imp h fun σ H R ⟨W, ρ, S, xs, S', rl, hf, k⟩ => by
  obtain ⟨ds, e1, e2⟩ := iZp_split hf
  refine ⟨W, ρ, S, ds, S', rl, e1, fun vs H1 s1 st1 r1 => ?_⟩
  unfold zipOf at e2
  split at e2
  · cases e2
    cases r1 with
    | cons a b =>
      cases b with
      | cons b c =>
        cases c
        obtain ⟨a1, v1, rfl, n1, q1, z1, r1⟩ := rp_lst a
        obtain ⟨a2, v2, rfl, n2, q2, z2, r2⟩ := rp_lst b
        refine ⟨a1, a2, v1, v2, rfl, .inl ⟨.of q1, .of q2, k _ H1 s1 st1 ?_ (walk_zipLs n1 n2 q1 q2 r1 r2)⟩⟩
        rw [List.length_zipWith, ← r1.length]
        exact Nat.le_trans (Nat.min_le_left _ _) z1
  · cases e2
    cases r1 with
    | cons a b =>
      cases b with
      | cons b c =>
        cases c
        obtain ⟨a1, v1, rfl, q1, z1, r1⟩ := rp_tup a
        obtain ⟨a2, v2, rfl, q2, z2, r2⟩ := rp_tup b
        refine ⟨a1, a2, v1, v2, rfl, .inr ⟨q1.sqt, q2.sqt, k _ H1 s1 st1 ?_ (walk_zipT q1 q2 r1 r2)⟩⟩
        rw [List.length_zipWith, ← r1.length]
        exact Nat.le_trans (Nat.min_le_left _ _) z1
  · cases e2
end

/-! ## 5. targets -/
abbrev Tg := D → Rho → Option Rho
def tG (K : Fw) (vs : List Nat) (g : Tg) : TG := fun v σ H Q => ∃ (W : Wd) (ρ : Rho) (S : Sto) (d : D) (ρ' : Rho), Rel K W H σ ρ S ∧ Rp K W H v d ∧ g d ρ = some ρ' ∧ ∀ σ', Rel K W H σ' ρ' S → wipe σ' vs = wipe σ vs → Q σ' H
abbrev Gs := List D → Rho → Option Rho
def tGs (K : Fw) (vs : List Nat) (g : Gs) : TGs := fun v σ H Q => ∃ (W : Wd) (ρ : Rho) (S : Sto) (d : List D) (ρ' : Rho), Rel K W H σ ρ S ∧ Rps K W H v d ∧ g d ρ = some ρ' ∧ ∀ σ', Rel K W H σ' ρ' S → wipe σ' vs = wipe σ vs → Q σ' H
abbrev G (X : Cx) (e : Expr) (vs : List Nat) (g : Tg) : Prop := PG X e (tG (FX X) vs g)
abbrev GS (X : Cx) (e : List Expr) (vs : List Nat) (g : Gs) : Prop := PGs X e (tGs (FX X) vs g)
theorem pg_imp {X : Cx} {e : Expr} {t t' : TG} (h : PG X e t) (i : ∀ v σ H Q, t' v σ H Q → t v σ H Q) : PG X e t' := ⟨fun pins s σ H v u Q I r w => h.run pins s σ H v u Q I r (i v σ H Q w)⟩
theorem pgs_imp {X : Cx} {e : List Expr} {t t' : TGs} (h : PGs X e t) (i : ∀ v σ H Q, t' v σ H Q → t v σ H Q) : PGs X e t' := ⟨fun pins s σ H v u Q I r w => h.run pins s σ H v u Q I r (i v σ H Q w)⟩
theorem wipe_get {σ : L2.St} {i : Nat} : ∀ {vs : List Nat}, i ∈ vs → (wipe σ vs)[i]? = if i < σ.length then some none else none
  | [], h => by simp at h
  | v :: vs, h => by
    unfold wipe
    by_cases e : v = i
    · subst e
      by_cases hl : v < σ.length
      · rw [List.getElem?_set_self (by rw [wipe_length]; exact hl), if_pos hl]
      · rw [if_neg hl, List.getElem?_eq_none (by rw [List.length_set, wipe_length]; omega)]
    · rw [List.getElem?_set_ne e]
      exact wipe_get ((List.mem_cons.mp h).elim (fun z => absurd z.symm e) id)
theorem wipe_set {σ : L2.St} {i : Nat} {x : Option V} {vs : List Nat} (h : i ∈ vs) : wipe (σ.set i x) vs = wipe σ vs := by
  refine List.ext_getElem? fun j => ?_
  by_cases hj : j ∈ vs
  · rw [wipe_get hj, wipe_get hj, List.length_set]
  · rw [wipe_out hj, wipe_out hj, List.getElem?_set_ne (fun e => hj (by rw [← e]; exact h))]
theorem Rel.setSh {K : Fw} {W : Wd} {H : Hp} {σ : L2.St} {ρ : Rho} {S : Sto} {i : Nat} {v : V} {d : D} (r : Rel K W H σ ρ S) (rv : Rp K W H v d) : Rel K W H (σ.set i (some v)) (ρ.set i (.sh d)) S := by
  refine ⟨by rw [List.length_set, List.length_set]; exact r.len, fun j s e => ?_, r.st, r.wf⟩
  by_cases hj : i = j
  · subst hj
    by_cases hl : i < ρ.length
    · rw [List.getElem?_set_self hl] at e
      cases e
      exact ⟨v, by rw [List.getElem?_set_self (by rw [r.len]; exact hl)], rv⟩
    · rw [List.getElem?_eq_none (by rw [List.length_set]; omega)] at e
      cases e
  · rw [List.getElem?_set_ne hj] at e
    have q := r.sl j s e
    cases s with
    | un => trivial
    | sh d' => obtain ⟨v', h1, h2⟩ := q; exact ⟨v', by rw [List.getElem?_set_ne hj]; exact h1, h2⟩
    | ow c => obtain ⟨a, h1, h2, h3⟩ := q; exact ⟨a, by rw [List.getElem?_set_ne hj]; exact h1, h2, h3⟩
def gNm (i : Nat) : Tg := fun d ρ => some (ρ.set i (.sh d))
def gsNil : Gs := fun ds ρ => if ds.isEmpty then some ρ else none
def gsCons (g : Tg) (gs : Gs) : Gs := fun ds ρ => match ds with
  | d :: r => (g d ρ).bind fun ρ' => gs r ρ'
  | [] => none
/-- (a, b, ..) from a tuple -/
def gTp (n : Nat) (gs : Gs) : Tg := fun d ρ => match d with
  | .tup xs => if xs.length = n then gs xs ρ else none
  | _ => none
section
variable {X : Cx} {e : Expr} {es : List Expr} {g : Tg} {gs : Gs} {vs : List Nat} {pos : Pos}
theorem g_name {i : Nat} (h : PG X e (gName i)) (hv : i ∈ vs) : G X e vs (gNm i) := pg_imp h fun v σ H Q ⟨W, ρ, S, d, ρ', rl, rv, hg, k⟩ => by
  cases hg
  exact k _ (rl.setSh rv) (wipe_set hv)
theorem gs_nil : GS X [] vs gsNil := pgs_imp pgs_nil fun v σ H Q ⟨W, ρ, S, d, ρ', rl, rv, hg, k⟩ => by
  cases rv with
  | nil => cases hg; exact ⟨rfl, k _ rl rfl⟩
  | cons _ _ => cases hg
theorem gs_cons (h1 : G X e vs g) (h2 : GS X es vs gs) (hs : (assignEach (e :: es) X.env).map (·.2) = assign e X.env :: (assignEach es X.env).map (·.2) := by rfl) : GS X (e :: es) vs (gsCons g gs) :=
  pgs_imp (pgs_cons h1 h2 hs) fun v σ H Q ⟨W, ρ, S, d, ρ', rl, rv, hg, k⟩ => by
    cases rv with
    | nil => cases hg
    | @cons v1 d1 vr dr a b =>
      unfold gsCons at hg
      cases e1 : g d1 ρ with
      | none => simp only [e1] at hg; cases hg
      | some ρ1 =>
        simp only [e1, Option.bind_some] at hg
        exact ⟨v1, vr, rfl, W, ρ, S, d1, ρ1, rl, a, e1, fun σ1 rl1 w1 => ⟨W, ρ1, S, dr, ρ', rl1, b, hg, fun σ2 rl2 w2 => k σ2 rl2 (w2.trans w1)⟩⟩
theorem g_tup {n k : Nat} (hc : X.calm = true) (h : GS X es vs gs) (hn : (assignEach es X.env).length = n := by rfl) (hst : (assignEach es X.env).findIdx? (·.1) = none := by rfl) : G X (.Tuple es k pos) vs (gTp n gs) :=
  pg_imp (pg_tup hc h hn hst) fun v σ H Q ⟨W, ρ, S, d, ρ', rl, rv, hg, k⟩ => by
    unfold gTp at hg
    cases d with
    | tup xs =>
      obtain ⟨a, ws, rfl, q, z, rs⟩ := rp_tup rv
      by_cases c : xs.length = n
      · simp only [if_pos c] at hg
        exact ⟨a, ws, rfl, q.sqt, by rw [rs.length]; exact c, W, ρ, S, xs, ρ', rl, rs, hg, k⟩
      · simp only [if_neg c] at hg; cases hg
    | _ => cases hg
end
end DL

set_option Elab.async false
set_option linter.all false
set_option maxRecDepth 100000
namespace DL
open PySem PySem.Spec PyProof.Rows L2

/-! ## 6. list comprehensions -/
def wipeR (ρ : Rho) : List Nat → Rho
  | [] => ρ
  | v :: vs => (wipeR ρ vs).set v .un
theorem wipeR_length (ρ : Rho) : ∀ vs : List Nat, (wipeR ρ vs).length = ρ.length
  | [] => rfl
  | v :: vs => by unfold wipeR; rw [List.length_set, wipeR_length ρ vs]
theorem wipeR_out {ρ : Rho} {i : Nat} : ∀ {vs : List Nat}, i ∉ vs → (wipeR ρ vs)[i]? = ρ[i]?
  | [], _ => rfl
  | v :: vs, h => by
    have h1 : v ≠ i := fun e => h (by rw [e]; exact List.mem_cons_self)
    have h2 : i ∉ vs := fun m => h (List.mem_cons_of_mem _ m)
    unfold wipeR
    rw [List.getElem?_set_ne h1]
    exact wipeR_out h2
theorem wipeR_get {ρ : Rho} {i : Nat} {s : Sl} : ∀ {vs : List Nat}, i ∈ vs → (wipeR ρ vs)[i]? = some s → s = .un
  | [], h, _ => by simp at h
  | v :: vs, h, e => by
    unfold wipeR at e
    by_cases c : v = i
    · subst c
      by_cases hl : v < (wipeR ρ vs).length
      · rw [List.getElem?_set_self hl] at e; cases e; rfl
      · rw [List.getElem?_eq_none (by rw [List.length_set]; omega)] at e; cases e
    · rw [List.getElem?_set_ne c] at e
      exact wipeR_get ((List.mem_cons.mp h).elim (fun z => absurd z.symm c) id) e
theorem wipe_wipe (σ : L2.St) (vs : List Nat) : wipe (wipe σ vs) vs = wipe σ vs := by
  refine List.ext_getElem? fun j => ?_
  by_cases hj : j ∈ vs
  · rw [wipe_get hj, wipe_get hj, wipe_length]
  · rw [wipe_out hj]

section
variable {K : Fw} {W W' : Wd} {H H' H1 H2 : Hp} {σ : L2.St} {ρ : Rho} {S S' : Sto}
theorem Rel.wiped (r : Rel K W H σ ρ S) (vs : List Nat) : Rel K W H (wipe σ vs) (wipeR ρ vs) S := by
  refine ⟨by rw [wipe_length, wipeR_length]; exact r.len, fun j s e => ?_, r.st, r.wf⟩
  by_cases hj : j ∈ vs
  · rw [wipeR_get hj e]
    trivial
  · rw [wipeR_out hj] at e
    have q := r.sl j s e
    cases s with
    | un => trivial
    | sh d => obtain ⟨v, h1, h2⟩ := q; exact ⟨v, by rw [wipe_out hj]; exact h1, h2⟩
    | ow c => obtain ⟨a, h1, h2, h3⟩ := q; exact ⟨a, by rw [wipe_out hj]; exact h1, h2, h3⟩
/-- the frame in another world, over another heap -/
theorem Rel.mv (r : Rel K W H σ ρ S) (al : ∀ i, W'.α i = W.α i) (k : Kps K W H W' H') (own : ∀ i a, W.α i = some a → H' a = H a) (st : StOk K W' H' S') (wf : WfW W' H') : Rel K W' H' σ ρ S' := by
  refine ⟨r.len, fun i x e => ?_, st, wf⟩
  have q := r.sl i x e
  cases x with
  | un => trivial
  | sh d => obtain ⟨v, h1, h2⟩ := q; exact ⟨v, h1, h2.keeps k⟩
  | ow c =>
    obtain ⟨a, h1, h2, h3⟩ := q
    exact ⟨a, h1, by rw [al]; exact h2, h3.keeps k (own i a h2)⟩
theorem kps_plus {d : Addr} (s : StepE W.θ H1 H2) (n : H1 d = none) : Kps K W H1 (W.plus d) H2 where
  th := fun _ _ h => h
  keep := fun b o h m => ⟨s.keep b o h fun z => m (.inr (.inl z)), fun z => (mu_plus.mp z).elim m fun e => by rw [e, n] at h; cases h⟩
  tups := s.tups
  frzs := s.frzs
theorem later_plus {d : Addr} (s : StepE W.θ H1 H2) (n : H1 d = none) : Later false K W H1 (W.plus d) H2 :=
  (⟨rfl, fun b o h n _ => s.keep b o h n, fun b o h m z => (mu_plus.mp z).elim m fun e => (by rw [e, n] at h; cases h), s.tups, s.frzs⟩ : LaterE W H1 (W.plus d) H2)
theorem wf_plus {d : Addr} (wf : WfW W H2) (e : ∃ o, H2 d = some o) (n : ∀ i, W.α i ≠ some d) : WfW (W.plus d) H2 where
  nd := wf.nd
  inj := wf.inj
  dis := fun i a h => ⟨(wf.dis i a h).1, fun z => z.elim (wf.dis i a h).2 fun e => n i (by rw [← e]; exact h)⟩
  dom := fun a m => (mu_plus.mp m).elim (wf.dom a) fun z => by rw [z]; exact e
theorem fresh_own (wf : WfW W H1) {d : Addr} (n : H1 d = none) (i : Nat) : W.α i ≠ some d := fun e => by
  obtain ⟨o, h⟩ := wf.dom d (.inr (.inr ⟨i, e⟩))
  rw [n] at h; cases h
theorem fresh_th (wf : WfW W H1) {d : Addr} (n : H1 d = none) : d ∉ W.θ := fun m => by
  obtain ⟨o, h⟩ := wf.tdom m
  rw [n] at h; cases h
/-- the frame while a new object at d is filled -/
theorem Rel.plus {d : Addr} (r : Rel K W H1 σ ρ S) (n : H1 d = none) (s : StepE W.θ H1 H2) (e : ∃ o, H2 d = some o) (st : StOk K (W.plus d) H2 S') : Rel K (W.plus d) H2 σ ρ S' := by
  refine r.mv (fun _ => rfl) (kps_plus s n) (fun i a h => ?_) st (wf_plus (r.wf.stepE s) e (fresh_own r.wf n))
  obtain ⟨o, ho⟩ := r.wf.dom a (.inr (.inr ⟨i, h⟩))
  rw [ho]
  exact s.keep a o ho (r.wf.dis i a h).1
/-- the new object grows -/
theorem step_put {d : Addr} {o : HO} (n : H1 d = none) (s : StepE W.θ H1 H2) : StepE W.θ H1 (upd H2 d o) where
  keep := fun b u h m => by rw [upd_ne (ne_of_none h n)]; exact s.keep b u h m
  tups := fun b u h => by rw [upd_ne (ne_of_none h n)]; exact s.tups b u h
  frzs := fun b u w h => by rw [upd_ne (ne_of_none h n)]; exact s.frzs b u w h
  dom := fun b u h => by rw [upd_ne (ne_of_none h n)]; exact s.dom b u h
theorem kps_put {d : Addr} {vs : List V} {o : HO} (h : H2 d = some (.lst vs)) : Kps K (W.plus d) H2 (W.plus d) (upd H2 d o) :=
  Kps.put (mu_plus.mpr (.inr rfl)) (fun xs e => by rw [h] at e; cases e) fun a b e => by rw [h] at e; cases e
theorem st_put {d : Addr} {vs : List V} {o : HO} (h : H2 d = some (.lst vs)) (n : d ∉ W.θ) (st : StOk K (W.plus d) H2 S) : StOk K (W.plus d) (upd H2 d o) S :=
  st.keeps rfl (kps_put h) fun a m => upd_ne fun e => n (by rw [← e]; exact m)
end

/-- the items, one after another -/
def compF (g : Tg) (tt : Tx) (te : Ex) (ρ : Rho) : List D → Sto → Option (List D × Sto)
  | [], S => some ([], S)
  | x :: xs, S => (g x ρ).bind fun ρ2 => (tt ρ2 S).bind fun p => if p.1 = true then (te ρ2 p.2).bind fun q => (compF g tt te ρ xs q.2).map fun r => (q.1 :: r.1, r.2) else compF g tt te ρ xs p.2
def eLc (it : Ars) (g : Tg) (tt : Tx) (te : Ex) (vs : List Nat) : Ex := fun ρ S => (it ρ S).bind fun p => (compF g tt te (wipeR ρ vs) p.1 p.2).map fun r => (.lst r.1, r.2)
theorem compF_cons {g : Tg} {tt : Tx} {te : Ex} {ρ : Rho} {x : D} {xs : List D} {S S' : Sto} {ys : List D} (h : compF g tt te ρ (x :: xs) S = some (ys, S')) :
    ∃ ρ2 p, g x ρ = some ρ2 ∧ tt ρ2 S = some p ∧ ((p.1 = true ∧ ∃ q zs, te ρ2 p.2 = some q ∧ compF g tt te ρ xs q.2 = some (zs, S') ∧ ys = q.1 :: zs) ∨ (p.1 = false ∧ compF g tt te ρ xs p.2 = some (ys, S'))) := by
  unfold compF at h
  cases e1 : g x ρ with
  | none => rw [e1] at h; cases h
  | some ρ2 =>
    rw [e1, Option.bind_some] at h
    cases e2 : tt ρ2 S with
    | none => rw [e2] at h; cases h
    | some p =>
      rw [e2, Option.bind_some] at h
      refine ⟨ρ2, p, rfl, e2, ?_⟩
      cases e3 : p.1 with
      | true =>
        rw [e3, if_pos rfl] at h
        cases e4 : te ρ2 p.2 with
        | none => rw [e4] at h; cases h
        | some q =>
          rw [e4, Option.bind_some] at h
          obtain ⟨r, hr, he⟩ := Option.map_eq_some_iff.mp h
          cases he
          exact .inl ⟨rfl, q, r.1, rfl, hr, rfl⟩
      | false =>
        rw [e3, if_neg Bool.false_ne_true] at h
        exact .inr ⟨rfl, h⟩
theorem drop_cons {α : Type} {xs : List α} {i : Nat} (h : i < xs.length) : xs.drop i = xs[i] :: xs.drop (i + 1) := List.drop_eq_getElem_cons h

theorem lc_f {K : Fw} {it : Ars} {g : Tg} {tt : Tx} {te : Ex} {vs : List Nat} {σ : L2.St} {H : Hp} {Q : VK} (h : tF K (eLc it g tt te vs) σ H Q) : tLc (tI K false it) (tG K vs g) (tT K tt) (tD K te) vs σ H Q := by
  obtain ⟨W, ρ, S, d, S', rl, hf, k⟩ := h
  unfold eLc at hf
  cases e1 : it ρ S with
  | none => rw [e1] at hf; cases hf
  | some p =>
    rw [e1, Option.bind_some] at hf
    obtain ⟨r, hr, he⟩ := Option.map_eq_some_iff.mp hf
    obtain ⟨ys, Sz⟩ := r
    cases he
    obtain ⟨xs, S1⟩ := p
    refine ⟨W, ρ, S, xs, S1, rl, e1, fun J H1 s1 st1 hz wk dd hD => ?_⟩
    have wf1 := rl.wf.stepE s1
    have nD : dd ∉ W.θ := fresh_th wf1 hD
    have rl1 : Rel K W H1 σ ρ S1 := rl.stepE s1 st1
    refine ⟨fun i m H2 => m = xs.length - i ∧ i ≤ xs.length ∧ ∃ (Si : Sto) (acc rest : List D) (vacc : List V), compF g tt te (wipeR ρ vs) (xs.drop i) Si = some (rest, Sz) ∧ ys = acc ++ rest ∧ H2 dd = some (.lst vacc) ∧ Rps K (W.plus dd) H2 vacc acc ∧ acc.length ≤ i ∧ StOk K (W.plus dd) H2 Si ∧ StepE W.θ H1 H2,
      ⟨xs.length, by simp, Nat.zero_le _, S1, [], ys, [], hr, rfl, upd_same, .nil, Nat.le_refl _, st1.new wf1 hD, .same (upd_Same hD)⟩, ?_⟩
    rintro i m H2 ⟨rfl, hi, Si, acc, rest, vacc, hc, hys, hDv, racc, hlen, sti, s2⟩
    have wk2 := wk _ _ (later_plus s2 hD)
    by_cases hlt : i < xs.length
    · have hg := wk2.1 i xs[i] (by simp [hlt])
      refine .inr ⟨hg.1, fun H5 => i + 1 ≤ xs.length ∧ ∃ (Si : Sto) (acc rest : List D) (vacc : List V), compF g tt te (wipeR ρ vs) (xs.drop (i + 1)) Si = some (rest, Sz) ∧ ys = acc ++ rest ∧ H5 dd = some (.lst vacc) ∧ Rps K (W.plus dd) H5 vacc acc ∧ acc.length ≤ i + 1 ∧ StOk K (W.plus dd) H5 Si ∧ StepE W.θ H1 H5,
        fun H5 ⟨q1, q2⟩ => ⟨xs.length - (i + 1), by omega, rfl, q1, q2⟩, fun x H3 y => ?_⟩
      obtain ⟨sm, rx⟩ := hg.2 x H3 y
      rw [drop_cons hlt] at hc
      obtain ⟨ρ2, p, hg1, ht1, hcase⟩ := compF_cons hc
      have s3 : StepE W.θ H1 H3 := s2.trans (.same sm)
      have st3 : StOk K (W.plus dd) H3 Si := sti.same sm
      have rl3 := (rl1.plus hD s3 ⟨_, sm _ _ hDv⟩ st3).wiped vs
      refine ⟨W.plus dd, wipeR ρ vs, Si, xs[i], ρ2, rl3, rx, hg1, fun σ2 rl4 hw => ⟨by rw [hw, wipe_wipe], W.plus dd, ρ2, Si, p.1, p.2, rl4, ht1, fun H4 s4 st4 => ?_⟩⟩
      have s4' : StepE W.θ H1 H4 := s3.trans s4
      have hD4 : H4 dd = some (.lst vacc) := s4.keep _ _ (sm _ _ hDv) nD
      have racc4 : Rps K (W.plus dd) H4 vacc acc := (racc.stepE (.same sm)).stepE s4
      rcases hcase with ⟨hp, q, zs, hte, hc2, hys2⟩ | ⟨hp, hc2⟩
      · rw [hp]
        refine iteT ?_
        refine ⟨W.plus dd, ρ2, p.2, q.1, q.2, rl4.stepE s4 st4, hte, fun v H5 s5 st5 rv => ?_⟩
        have hD5 : H5 dd = some (.lst vacc) := s5.keep _ _ hD4 nD
        have e5 : acc.length < sizeLine := by omega
        refine ⟨vacc, hD5, by rw [racc.length]; exact e5, hlt, q.2, acc ++ [q.1], zs, vacc ++ [v], hc2, by rw [hys, hys2]; simp, upd_same, ?_, by simp; omega, st_put hD5 nD st5, step_put hD (s4'.trans s5)⟩
        exact ((racc4.stepE s5).append (.cons rv .nil)).keeps (kps_put hD5)
      · rw [hp]
        refine iteF ?_
        exact ⟨hlt, p.2, acc, rest, vacc, hc2, hys, hD4, racc4, by omega, st4, s4'⟩
    · have e : i = xs.length := by omega
      subst e
      rw [List.drop_length] at hc
      cases hc
      refine .inl ⟨wk2.2, k _ H2 (s1.trans s2) ?_⟩
      rw [List.append_nil] at hys
      subst hys
      exact .lst (s1.none hD) hDv (by rw [racc.length]; omega) sti racc

/-- two clauses -/
def compO (g : Tg) (tt : Tx) (it1 : Ars) (g1 : Tg) (tt1 : Tx) (te : Ex) (vs1 : List Nat) (ρ : Rho) : List D → Sto → Option (List D × Sto)
  | [], S => some ([], S)
  | x :: xs, S => (g x ρ).bind fun ρ2 => (tt ρ2 S).bind fun p => if p.1 = true then (it1 ρ2 p.2).bind fun q => (compF g1 tt1 te (wipeR ρ2 vs1) q.1 q.2).bind fun r => (compO g tt it1 g1 tt1 te vs1 ρ xs r.2).map fun z => (r.1 ++ z.1, z.2)
    else compO g tt it1 g1 tt1 te vs1 ρ xs p.2
def eLc2 (it : Ars) (g : Tg) (tt : Tx) (it1 : Ars) (g1 : Tg) (tt1 : Tx) (te : Ex) (vs vs1 : List Nat) : Ex := fun ρ S => (it ρ S).bind fun p => (compO g tt it1 g1 tt1 te vs1 (wipeR ρ vs) p.1 p.2).bind fun r => if r.1.length ≤ sizeLine then some (.lst r.1, r.2) else none
theorem compO_cons {g : Tg} {tt : Tx} {it1 : Ars} {g1 : Tg} {tt1 : Tx} {te : Ex} {vs1 : List Nat} {ρ : Rho} {x : D} {xs : List D} {S S' : Sto} {ys : List D} (h : compO g tt it1 g1 tt1 te vs1 ρ (x :: xs) S = some (ys, S')) :
    ∃ ρ2 p, g x ρ = some ρ2 ∧ tt ρ2 S = some p ∧ ((p.1 = true ∧ ∃ q r zs, it1 ρ2 p.2 = some q ∧ compF g1 tt1 te (wipeR ρ2 vs1) q.1 q.2 = some r ∧ compO g tt it1 g1 tt1 te vs1 ρ xs r.2 = some (zs, S') ∧ ys = r.1 ++ zs) ∨ (p.1 = false ∧ compO g tt it1 g1 tt1 te vs1 ρ xs p.2 = some (ys, S'))) := by
  unfold compO at h
  cases e1 : g x ρ with
  | none => rw [e1] at h; cases h
  | some ρ2 =>
    rw [e1, Option.bind_some] at h
    cases e2 : tt ρ2 S with
    | none => rw [e2] at h; cases h
    | some p =>
      rw [e2, Option.bind_some] at h
      refine ⟨ρ2, p, rfl, e2, ?_⟩
      cases e3 : p.1 with
      | true =>
        rw [e3, if_pos rfl] at h
        cases e4 : it1 ρ2 p.2 with
        | none => rw [e4] at h; cases h
        | some q =>
          rw [e4, Option.bind_some] at h
          cases e5 : compF g1 tt1 te (wipeR ρ2 vs1) q.1 q.2 with
          | none => rw [e5] at h; cases h
          | some r =>
            rw [e5, Option.bind_some] at h
            obtain ⟨z, hr, he⟩ := Option.map_eq_some_iff.mp h
            cases he
            exact .inl ⟨rfl, q, r, z.1, rfl, e5, hr, rfl⟩
      | false =>
        rw [e3, if_neg Bool.false_ne_true] at h
        exact .inr ⟨rfl, h⟩
theorem lc2_f {K : Fw} {it it1 : Ars} {g g1 : Tg} {tt tt1 : Tx} {te : Ex} {vs vs1 : List Nat} {σ : L2.St} {H : Hp} {Q : VK} (h : tF K (eLc2 it g tt it1 g1 tt1 te vs vs1) σ H Q) :
    tLc2 (tI K false it) (tG K vs g) (tT K tt) (tI K false it1) (tG K vs1 g1) (tT K tt1) (tD K te) vs vs1 σ H Q := by
  obtain ⟨W, ρ, S, d, S', rl, hf, k⟩ := h
  unfold eLc2 at hf
  cases e1 : it ρ S with
  | none => rw [e1] at hf; cases hf
  | some p =>
    rw [e1, Option.bind_some] at hf
    obtain ⟨xs, S1⟩ := p
    cases hr : compO g tt it1 g1 tt1 te vs1 (wipeR ρ vs) xs S1 with
    | none => simp only [hr, Option.bind_none] at hf; cases hf
    | some r =>
    simp only [hr, Option.bind_some] at hf
    obtain ⟨ys, Sz⟩ := r
    by_cases hyz : ys.length ≤ sizeLine
    · simp only [if_pos hyz] at hf
      cases hf
      refine ⟨W, ρ, S, xs, S1, rl, e1, fun J H1 s1 st1 hz wk dd hD => ?_⟩
      have wf1 := rl.wf.stepE s1
      have nD : dd ∉ W.θ := fresh_th wf1 hD
      have rl1 : Rel K W H1 σ ρ S1 := rl.stepE s1 st1
      refine ⟨fun i m H2 => m = xs.length - i ∧ i ≤ xs.length ∧ ∃ (Si : Sto) (acc rest : List D) (vacc : List V), compO g tt it1 g1 tt1 te vs1 (wipeR ρ vs) (xs.drop i) Si = some (rest, S') ∧ ys = acc ++ rest ∧ H2 dd = some (.lst vacc) ∧ Rps K (W.plus dd) H2 vacc acc ∧ StOk K (W.plus dd) H2 Si ∧ StepE W.θ H1 H2,
        ⟨xs.length, by simp, Nat.zero_le _, S1, [], ys, [], hr, rfl, upd_same, .nil, st1.new wf1 hD, .same (upd_Same hD)⟩, ?_⟩
      rintro i m H2 ⟨rfl, hi, Si, acc, rest, vacc, hc, hys, hDv, racc, sti, s2⟩
      have wk2 := wk _ _ (later_plus s2 hD)
      by_cases hlt : i < xs.length
      · have hg := wk2.1 i xs[i] (by simp [hlt])
        refine .inr ⟨hg.1, fun H5 => i + 1 ≤ xs.length ∧ ∃ (Si : Sto) (acc rest : List D) (vacc : List V), compO g tt it1 g1 tt1 te vs1 (wipeR ρ vs) (xs.drop (i + 1)) Si = some (rest, S') ∧ ys = acc ++ rest ∧ H5 dd = some (.lst vacc) ∧ Rps K (W.plus dd) H5 vacc acc ∧ StOk K (W.plus dd) H5 Si ∧ StepE W.θ H1 H5,
          fun H5 ⟨q1, q2⟩ => ⟨xs.length - (i + 1), by omega, rfl, q1, q2⟩, fun x H3 y => ?_⟩
        obtain ⟨sm, rx⟩ := hg.2 x H3 y
        rw [drop_cons hlt] at hc
        obtain ⟨ρ2, p, hg1, ht1, hcase⟩ := compO_cons hc
        have s3 : StepE W.θ H1 H3 := s2.trans (.same sm)
        have st3 : StOk K (W.plus dd) H3 Si := sti.same sm
        have rl3 := (rl1.plus hD s3 ⟨_, sm _ _ hDv⟩ st3).wiped vs
        refine ⟨W.plus dd, wipeR ρ vs, Si, xs[i], ρ2, rl3, rx, hg1, fun σ2 rl4 hw => ⟨by rw [hw, wipe_wipe], W.plus dd, ρ2, Si, p.1, p.2, rl4, ht1, fun H4 s4 st4 => ?_⟩⟩
        have s4' : StepE W.θ H1 H4 := s3.trans s4
        have hD4 : H4 dd = some (.lst vacc) := s4.keep _ _ (sm _ _ hDv) nD
        have racc4 : Rps K (W.plus dd) H4 vacc acc := (racc.stepE (.same sm)).stepE s4
        rcases hcase with ⟨hp, q, r, zs, hit1, hcf, hc2, hys2⟩ | ⟨hp, hc2⟩
        · rw [hp]
          refine iteT ?_
          obtain ⟨xs1, Sq⟩ := q
          obtain ⟨rs, Sr⟩ := r
          refine ⟨W.plus dd, ρ2, p.2, xs1, Sq, rl4.stepE s4 st4, hit1, fun J1 H5 s5 st5 hz1 wk1 => ?_⟩
          have s5' : StepE W.θ H1 H5 := s4'.trans s5
          have hD5 : H5 dd = some (.lst vacc) := s5.keep _ _ hD4 nD
          have rl5 : Rel K (W.plus dd) H5 σ2 ρ2 Sq := (rl4.stepE s4 st4).stepE s5 st5
          refine ⟨fun j m H6 => m = xs1.length - j ∧ j ≤ xs1.length ∧ ∃ (Sj : Sto) (acc1 rest1 : List D) (vac : List V), compF g1 tt1 te (wipeR ρ2 vs1) (xs1.drop j) Sj = some (rest1, Sr) ∧ rs = acc1 ++ rest1 ∧ H6 dd = some (.lst vac) ∧ Rps K (W.plus dd) H6 vac (acc ++ acc1) ∧ StOk K (W.plus dd) H6 Sj ∧ StepE W.θ H1 H6 ∧ (∀ b o, H5 b = some o → b ∉ W.θ → b ≠ dd → H6 b = some o) ∧ (∀ b xs, H5 b = some (.tup xs) → H6 b = some (.tup xs)) ∧ (∀ b o u, H5 b = some (.frz o u) → H6 b = some (.frz o u)) ∧ (∀ b o, H5 b = some o → ∃ o', H6 b = some o'),
            ⟨xs1.length, by simp, Nat.zero_le _, Sq, [], rs, vacc, hcf, rfl, hD5, by rw [List.append_nil]; exact racc4.stepE s5, st5, s5', fun b o h _ _ => h, fun _ _ h => h, fun _ _ _ h => h, fun b o h => ⟨o, h⟩⟩, ?_⟩
          rintro j m H6 ⟨rfl, hj, Sj, acc1, rest1, vac, hcj, hrs, hDj, raccj, stj, s6, kp6, t6, f6, dm6⟩
          have kps6 : Kps K (W.plus dd) H5 (W.plus dd) H6 := ⟨fun _ _ h => h, fun b o h n => ⟨kp6 b o h (fun z => n (.inr (.inl z))) (fun z => n (mu_plus.mpr (.inr z))), n⟩, t6, f6⟩
          have rl6 : Rel K (W.plus dd) H6 σ2 ρ2 Sj := by
            refine rl5.mv (fun _ => rfl) kps6 (fun i a h => ?_) stj ⟨rl5.wf.nd, rl5.wf.inj, rl5.wf.dis, fun a m => by obtain ⟨o, e⟩ := rl5.wf.dom a m; exact dm6 a o e⟩
            obtain ⟨o, ho⟩ := rl5.wf.dom a (.inr (.inr ⟨i, h⟩))
            rw [ho]
            exact kp6 a o ho (rl5.wf.dis i a h).1 fun e => (rl5.wf.dis i a h).2 (.inr e)
          by_cases hjl : j < xs1.length
          · have lat : Later false K (W.plus dd) H5 (W.plus dd) H6 := (⟨rfl, fun b o h n m => kp6 b o h n (fun e => m (.inr e)), fun _ _ _ n => n, t6, f6⟩ : LaterE (W.plus dd) H5 (W.plus dd) H6)
            have wkj := wk1 (W.plus dd) H6 lat
            have hgj := wkj.1 j xs1[j] (by simp [hjl])
            refine .inr ⟨hgj.1, fun H9 => j + 1 ≤ xs1.length ∧ ∃ (Sj : Sto) (acc1 rest1 : List D) (vac : List V), compF g1 tt1 te (wipeR ρ2 vs1) (xs1.drop (j + 1)) Sj = some (rest1, Sr) ∧ rs = acc1 ++ rest1 ∧ H9 dd = some (.lst vac) ∧ Rps K (W.plus dd) H9 vac (acc ++ acc1) ∧ StOk K (W.plus dd) H9 Sj ∧ StepE W.θ H1 H9 ∧ (∀ b o, H5 b = some o → b ∉ W.θ → b ≠ dd → H9 b = some o) ∧ (∀ b xs, H5 b = some (.tup xs) → H9 b = some (.tup xs)) ∧ (∀ b o u, H5 b = some (.frz o u) → H9 b = some (.frz o u)) ∧ (∀ b o, H5 b = some o → ∃ o', H9 b = some o'),
              fun H9 ⟨q1, q2⟩ => ⟨xs1.length - (j + 1), by omega, rfl, q1, q2⟩, fun x1 H7 y1 => ?_⟩
            obtain ⟨sm7, rx7⟩ := hgj.2 x1 H7 y1
            rw [drop_cons hjl] at hcj
            obtain ⟨ρ3, p3, hg3, ht3, hcase3⟩ := compF_cons hcj
            have s7 : StepE W.θ H1 H7 := s6.trans (.same sm7)
            have e67 : StepE W.θ H6 H7 := .same sm7
            have rl7 := (rl6.same sm7).wiped vs1
            refine ⟨W.plus dd, wipeR ρ2 vs1, Sj, xs1[j], ρ3, rl7, rx7, hg3, fun σ3 rl8 hw3 => ⟨by rw [hw3, wipe_wipe], W.plus dd, ρ3, Sj, p3.1, p3.2, rl8, ht3, fun H8 s8 st8 => ?_⟩⟩
            have e68 : StepE W.θ H6 H8 := e67.trans s8
            have hD8 : H8 dd = some (.lst vac) := s8.keep _ _ (sm7 _ _ hDj) nD
            have racc8 : Rps K (W.plus dd) H8 vac (acc ++ acc1) := (raccj.stepE (.same sm7)).stepE s8
            rcases hcase3 with ⟨hp3, q3, zs3, hte, hc3, hys3⟩ | ⟨hp3, hc3⟩
            · rw [hp3]
              refine iteT ?_
              refine ⟨W.plus dd, ρ3, p3.2, q3.1, q3.2, rl8.stepE s8 st8, hte, fun v H9 s9 st9 rv => ?_⟩
              have hD9 : H9 dd = some (.lst vac) := s9.keep _ _ hD8 nD
              have e69 : StepE W.θ H6 H9 := e68.trans s9
              have hl9 : (acc ++ acc1).length < sizeLine := by
                have e1 : ys.length = acc.length + (rs.length + zs.length) := by rw [hys, hys2]; simp
                have e2 : rs.length = acc1.length + (zs3.length + 1) := by rw [hrs, hys3]; simp
                rw [List.length_append]
                omega
              refine ⟨vac, hD9, by rw [racc8.length]; exact hl9, hjl, q3.2, acc1 ++ [q3.1], zs3, vac ++ [v], hc3, by rw [hrs, hys3]; simp, upd_same, ?_, st_put hD9 nD st9, step_put hD (s6.trans e69), fun b o h n m => ?_, fun b xs h => ?_, fun b o u h => ?_, fun b o h => ?_⟩
              · rw [← List.append_assoc]
                exact ((racc8.stepE s9).append (.cons rv .nil)).keeps (kps_put hD9)
              · rw [upd_ne m]
                exact e69.keep b o (kp6 b o h n m) n
              · have hb := e69.tups b xs (t6 b xs h)
                rw [upd_ne (fun e => by rw [e, hD9] at hb; cases hb)]
                exact hb
              · have hb := e69.frzs b o u (f6 b o u h)
                rw [upd_ne (fun e => by rw [e, hD9] at hb; cases hb)]
                exact hb
              · by_cases hb : b = dd
                · subst hb; exact ⟨_, upd_same⟩
                · rw [upd_ne hb]
                  obtain ⟨o1, h1⟩ := dm6 b o h
                  exact e69.dom b o1 h1
            · rw [hp3]
              refine iteF ?_
              refine ⟨hjl, p3.2, acc1, rest1, vac, hc3, hrs, hD8, racc8, st8, s6.trans e68, fun b o h n m => e68.keep b o (kp6 b o h n m) n, fun b xs h => e68.tups b xs (t6 b xs h), fun b o u h => e68.frzs b o u (f6 b o u h), fun b o h => ?_⟩
              obtain ⟨o1, h1⟩ := dm6 b o h
              exact e68.dom b o1 h1
          · have e : j = xs1.length := by omega
            subst e
            rw [List.drop_length] at hcj
            cases hcj
            rw [List.append_nil] at hrs
            subst hrs
            have lat : Later false K (W.plus dd) H5 (W.plus dd) H6 := (⟨rfl, fun b o h n m => kp6 b o h n (fun e => m (.inr e)), fun _ _ _ n => n, t6, f6⟩ : LaterE (W.plus dd) H5 (W.plus dd) H6)
            exact .inl ⟨(wk1 (W.plus dd) H6 lat).2, hlt, _, acc ++ rs, zs, vac, hc2, by rw [hys, hys2, List.append_assoc], hDj, raccj, stj, s6⟩
        · rw [hp]
          refine iteF ?_
          exact ⟨hlt, p.2, acc, rest, vacc, hc2, hys, hD4, racc4, st4, s4'⟩
      · have e : i = xs.length := by omega
        subst e
        rw [List.drop_length] at hc
        cases hc
        refine .inl ⟨wk2.2, k _ H2 (s1.trans s2) ?_⟩
        rw [List.append_nil] at hys
        subst hys
        exact .lst (s1.none hD) hDv (by rw [racc.length]; exact hyz) sti racc
    · simp only [if_neg hyz] at hf; cases hf
end DL

set_option Elab.async false
set_option linter.all false
set_option maxRecDepth 100000
namespace DL
open PySem PySem.Spec PyProof.Rows L2

abbrev TS1 (X : Cx) (ifs : List Expr) (f : Tx) : Prop := PTs X ifs (tT (FX X) f)
def tYs : Tx := fun _ S => some (true, S)
section
variable {X : Cx}
theorem ts_nil : TS1 X [] tYs := ⟨fun pins s σ H Q I ⟨W, ρ, S, d, S', rl, hf, k⟩ => by
  cases hf
  exact pts_nil.run pins s σ H Q I (k H (.refl _ _) rl.st)⟩
theorem ts_one {c : Expr} {f : Tx} (h : T X c f) : TS1 X [c] f := pts_one h
theorem n_lc {elt tg iter : Expr} {ifs : List Expr} {scope : Scope} {own : List (Str × Nat)} {pos : Pos} {it : Ars} {g : Tg} {tt : Tx} {te : Ex} (hc : X.calm = true) (hN : X.N.Nodup) (hi : IT false X tg iter it) (ok : BlkOk X.N X.env.scope scope own)
    (hg : ∀ (s : Shared) (H : Hp) (C : Addr) (cl : List (Str × Addr)) (fp : List Addr), G (X.blk s H scope (compEnvC scope cl C X.env) fp) tg (own.map (·.2)) g) (ht : ∀ (s : Shared) (H : Hp) (C : Addr) (cl : List (Str × Addr)) (fp : List Addr), TS1 (X.blk s H scope (compEnvC scope cl C X.env) fp) ifs tt)
    (he : ∀ (s : Shared) (H : Hp) (C : Addr) (cl : List (Str × Addr)) (fp : List Addr), E (X.blk s H scope (compEnvC scope cl C X.env) fp) elt te) (hs : ∀ x, foldedSetIterable iter X.env x = pure x := by intro _; rfl) :
    N X (.ListComp elt [⟨tg, iter, ifs, 0⟩] scope pos) (eLc it g tt te (own.map (·.2))) := pe_imp (pe_lc hc hN hi ok hg ht he hs) fun _ _ _ h => lc_f h
theorem n_lc2 {elt tg iter tg1 iter1 : Expr} {ifs ifs1 : List Expr} {scope : Scope} {own : List (Str × Nat)} {vs1 : List Nat} {pos : Pos} {it it1 : Ars} {g g1 : Tg} {tt tt1 : Tx} {te : Ex} (hc : X.calm = true) (hN : X.N.Nodup) (hi : IT false X tg iter it) (ok : BlkOk X.N X.env.scope scope own) (hv : ∀ i ∈ vs1, i ∈ own.map (·.2))
    (hg : ∀ (s : Shared) (H : Hp) (C : Addr) (cl : List (Str × Addr)) (fp : List Addr), G (X.blk s H scope (compEnvC scope cl C X.env) fp) tg (own.map (·.2)) g) (ht : ∀ (s : Shared) (H : Hp) (C : Addr) (cl : List (Str × Addr)) (fp : List Addr), TS1 (X.blk s H scope (compEnvC scope cl C X.env) fp) ifs tt)
    (hi1 : ∀ (s : Shared) (H : Hp) (C : Addr) (cl : List (Str × Addr)) (fp : List Addr), IT false (X.blk s H scope (compEnvC scope cl C X.env) fp) tg1 iter1 it1)
    (hg1 : ∀ (s : Shared) (H : Hp) (C : Addr) (cl : List (Str × Addr)) (fp : List Addr), G (X.blk s H scope (compEnvC scope cl C X.env) fp) tg1 vs1 g1) (ht1 : ∀ (s : Shared) (H : Hp) (C : Addr) (cl : List (Str × Addr)) (fp : List Addr), TS1 (X.blk s H scope (compEnvC scope cl C X.env) fp) ifs1 tt1)
    (he : ∀ (s : Shared) (H : Hp) (C : Addr) (cl : List (Str × Addr)) (fp : List Addr), E (X.blk s H scope (compEnvC scope cl C X.env) fp) elt te) (hs : ∀ x, foldedSetIterable iter X.env x = pure x := by intro _; rfl) (hs1 : ∀ env x, foldedSetIterable iter1 env x = pure x := by intro _ _; rfl) :
    N X (.ListComp elt [⟨tg, iter, ifs, 0⟩, ⟨tg1, iter1, ifs1, 0⟩] scope pos) (eLc2 it g tt it1 g1 tt1 te (own.map (·.2)) vs1) := pe_imp (pe_lc2 hc hN hi ok hv hg ht hi1 hg1 ht1 he hs hs1) fun _ _ _ h => lc2_f h
end

/-! ## 7. statements -/
inductive Out where
  | nx (ρ : Rho) (S : Sto)
  | bk (ρ : Rho) (S : Sto)
  | ct (ρ : Rho) (S : Sto)
  | rt (d : D) (S : Sto)
abbrev Stm := Rho → Sto → Option Out
section
variable (K : Fw)
def EndsOk (W : Wd) (H : Hp) (Z : Ends) : Out → Prop
  | .nx ρ S => ∀ W' σ H', StepS W H W' H' → Rel K W' H' σ ρ S → Z.nx σ H'
  | .bk ρ S => ∀ W' σ H', StepS W H W' H' → Rel K W' H' σ ρ S → Z.bk σ H'
  | .ct ρ S => ∀ W' σ H', StepS W H W' H' → Rel K W' H' σ ρ S → Z.ct σ H'
  | .rt d S => ∀ W' v H', StepS W H W' H' → StOk K W' H' S → WfW W' H' → Rp K W' H' v d → Z.rt v H'
def tS (g : Stm) : TS := fun Z σ H => ∃ (W : Wd) (ρ : Rho) (S : Sto) (o : Out), Rel K W H σ ρ S ∧ g ρ S = some o ∧ EndsOk K W H Z o
end
abbrev ST (X : Cx) (st : Stmt) (g : Stm) : Prop := PS X st (tS (FX X) g)
abbrev SS (X : Cx) (st : List Stmt) (g : Stm) : Prop := PSs X st (tS (FX X) g)
theorem ps_imp {X : Cx} {st : Stmt} {t t' : TS} (h : PS X st t) (i : ∀ Z σ H, t' Z σ H → t Z σ H) : PS X st t' := ⟨fun pins s σ H Z I w => h.run pins s σ H Z I (i Z σ H w)⟩
theorem pss_imp {X : Cx} {st : List Stmt} {t t' : TS} (h : PSs X st t) (i : ∀ Z σ H, t' Z σ H → t Z σ H) : PSs X st t' := ⟨fun pins s σ H Z I w => h.run pins s σ H Z I (i Z σ H w)⟩
section
variable {K : Fw} {W W1 : Wd} {H H1 : Hp} {Z : Ends}
theorem EndsOk.before {o : Out} (s : StepS W H W1 H1) (h : EndsOk K W H Z o) : EndsOk K W1 H1 Z o := by
  cases o with
  | nx ρ S => exact fun W' σ H' s' r => h W' σ H' (s.trans s') r
  | bk ρ S => exact fun W' σ H' s' r => h W' σ H' (s.trans s') r
  | ct ρ S => exact fun W' σ H' s' r => h W' σ H' (s.trans s') r
  | rt d S => exact fun W' v H' s' st wf r => h W' v H' (s.trans s') st wf r
end
def sNx : Stm := fun ρ S => some (.nx ρ S)
def sBk : Stm := fun ρ S => some (.bk ρ S)
def sCt : Stm := fun ρ S => some (.ct ρ S)
def Out.seq (b : Stm) : Out → Option Out
  | .nx ρ S => b ρ S
  | o => some o
def sSeq (a b : Stm) : Stm := fun ρ S => (a ρ S).bind fun o => o.seq b
section
variable {X : Cx} {st : Stmt} {rest : List Stmt} {a b : Stm} {e : Expr} {f : Ex} {pos : Pos}
theorem ss_nil : SS X [] sNx := pss_imp pss_nil fun Z σ H ⟨W, ρ, S, o, rl, hf, k⟩ => by
  cases hf
  exact k W σ H (.refl _ _) rl
theorem ss_one (h : ST X st a) : SS X [st] a := pss_imp (pss_one h) fun _ _ _ h => h
theorem ss_cons (h1 : ST X st a) (h2 : SS X rest b) : SS X (st :: rest) (sSeq a b) := pss_imp (pss_cons h1 h2) fun Z σ H ⟨W, ρ, S, o, rl, hf, k⟩ => by
  unfold sSeq at hf
  cases e1 : a ρ S with
  | none => rw [e1] at hf; cases hf
  | some o1 =>
    rw [e1, Option.bind_some] at hf
    refine ⟨W, ρ, S, o1, rl, e1, ?_⟩
    cases o1 with
    | nx ρ1 S1 => exact fun W' σ' H' s' r' => ⟨W', ρ1, S1, o, r', hf, k.before s'⟩
    | bk ρ1 S1 => cases hf; exact k
    | ct ρ1 S1 => cases hf; exact k
    | rt d S1 => cases hf; exact k
theorem st_pass : ST X (.Pass pos) sNx := ps_imp ps_pass fun Z σ H ⟨W, ρ, S, o, rl, hf, k⟩ => by
  cases hf
  exact k W σ H (.refl _ _) rl
theorem st_brk : ST X (.Break pos) sBk := ps_imp ps_break fun Z σ H ⟨W, ρ, S, o, rl, hf, k⟩ => by
  cases hf
  exact k W σ H (.refl _ _) rl
theorem st_cont : ST X (.Continue pos) sCt := ps_imp ps_continue fun Z σ H ⟨W, ρ, S, o, rl, hf, k⟩ => by
  cases hf
  exact k W σ H (.refl _ _) rl
def sRet (f : Ex) : Stm := fun ρ S => (f ρ S).map fun p => .rt p.1 p.2
theorem st_ret (h : E X e f) : ST X (.Return (some e) pos) (sRet f) := ps_imp (ps_ret h) fun Z σ H ⟨W, ρ, S, o, rl, hf, k⟩ => by
  obtain ⟨p, e1, e2⟩ := Option.map_eq_some_iff.mp hf
  cases e2
  exact ⟨W, ρ, S, p.1, p.2, rl, e1, fun v H' s' st' r' => k W v H' s'.toS st' (rl.wf.stepE s') r'⟩
def sRetN : Stm := fun _ S => some (.rt .non S)
theorem st_retN : ST X (.Return none pos) sRetN := ps_imp ps_retN fun Z σ H ⟨W, ρ, S, o, rl, hf, k⟩ => by
  cases hf
  exact k W _ H (.refl _ _) rl.st rl.wf .non
def sDrop (f : Ex) : Stm := fun ρ S => (f ρ S).map fun p => .nx ρ p.2
theorem st_expr (h : E X e f) (hs : swapsWith e none pos.line X.env = pure false := by rfl) : ST X (.Expr e pos) (sDrop f) := ps_imp (ps_expr h hs) fun Z σ H ⟨W, ρ, S, o, rl, hf, k⟩ => by
  obtain ⟨p, e1, e2⟩ := Option.map_eq_some_iff.mp hf
  cases e2
  exact ⟨W, ρ, S, p.1, p.2, rl, e1, fun v H' s' st' r' => k W σ H' s'.toS (rl.stepE s' st')⟩
def sIf (c : Tx) (a b : Stm) : Stm := fun ρ S => (c ρ S).bind fun p => if p.1 = true then a ρ p.2 else b ρ p.2
theorem st_if {c : Expr} {ta tb : List Stmt} {g : Tx} (hc : T X c g) (h1 : SS X ta a) (h2 : SS X tb b) : ST X (.If c ta tb pos) (sIf g a b) := ps_imp (ps_if hc h1 h2) fun Z σ H ⟨W, ρ, S, o, rl, hf, k⟩ => by
  unfold sIf at hf
  cases e1 : g ρ S with
  | none => rw [e1] at hf; cases hf
  | some p =>
    rw [e1, Option.bind_some] at hf
    refine ⟨W, ρ, S, p.1, p.2, rl, e1, fun H' s' st' => ?_⟩
    cases hp : p.1 with
    | true =>
      rw [hp, if_pos rfl] at hf
      refine iteT ?_
      exact ⟨W, ρ, p.2, o, rl.stepE s' st', hf, k.before s'.toS⟩
    | false =>
      rw [hp, if_neg Bool.false_ne_true] at hf
      refine iteF ?_
      exact ⟨W, ρ, p.2, o, rl.stepE s' st', hf, k.before s'.toS⟩

/-! ### stores to names -/
def sAsg (f : Ex) (g : Tg) : Stm := fun ρ S => (f ρ S).bind fun p => (g p.1 ρ).map fun ρ' => .nx ρ' p.2
theorem asg_d {K : Fw} {vs : List Nat} {g : Tg} {Z : Ends} {σ : L2.St} {H : Hp} (h : tS K (sAsg f g) Z σ H) : tAsg (tD K f) (tG K vs g) Z σ H := by
  obtain ⟨W, ρ, S, o, rl, hf, k⟩ := h
  unfold sAsg at hf
  cases e1 : f ρ S with
  | none => rw [e1] at hf; cases hf
  | some p =>
    rw [e1, Option.bind_some] at hf
    obtain ⟨ρ', e2, e3⟩ := Option.map_eq_some_iff.mp hf
    cases e3
    exact ⟨W, ρ, S, p.1, p.2, rl, e1, fun v H' s' st' r' => ⟨W, ρ, p.2, p.1, ρ', rl.stepE s' st', r', e2, fun σ' rl' _ => k W σ' H' s'.toS rl'⟩⟩
/-- name = e -/
theorem st_set {i : Nat} (h : PS X st (tAsg (tD (FX X) f) (gName i))) : ST X st (sAsg f (gNm i)) := ps_imp h fun Z σ H ⟨W, ρ, S, o, rl, hf, k⟩ => by
  unfold sAsg at hf
  cases e1 : f ρ S with
  | none => rw [e1] at hf; cases hf
  | some p =>
    rw [e1, Option.bind_some] at hf
    cases hf
    exact ⟨W, ρ, S, p.1, p.2, rl, e1, fun v H' s' st' r' => k W _ H' s'.toS ((rl.stepE s' st').setSh r')⟩
/-- (a, b) = e -/
theorem st_asg {vs : List Nat} {g : Tg} (h : PS X st (tAsg (tD (FX X) f) (tG (FX X) vs g))) : ST X st (sAsg f g) := ps_imp h fun _ _ _ h => asg_d h
/-- name = a new list or dict that is the frame's own -/
def sOwn (f : Ex) (i : Nat) : Stm := fun ρ S => (f ρ S).bind fun p => match p.1 with
  | .lst xs => some (.nx (ρ.set i (.ow (.lst xs))) p.2)
  | .dct ks ds => some (.nx (ρ.set i (.ow (.dct ks ds))) p.2)
  | _ => none
/-- the world in which slot i owns a -/
def Wd.own (W : Wd) (i : Nat) (a : Addr) : Wd := { W with α := fun j => if j = i then some a else W.α j }
section
variable {K : Fw} {W : Wd} {H H' : Hp} {σ : L2.St} {ρ : Rho} {S S' : Sto} {a : Addr} {i : Nat}
theorem mt_own {b : Addr} (m : Mt (W.own i a) b) : Mt W b ∨ b = a := by
  rcases m with m | ⟨j, m⟩
  · exact .inl (.inl m)
  · unfold Wd.own at m
    by_cases e : j = i
    · simp only [e, if_pos] at m; cases m; exact .inr rfl
    · simp only [if_neg e] at m; exact .inl (.inr ⟨j, m⟩)
theorem mu_own {b : Addr} (m : Mu (W.own i a) b) : Mu W b ∨ b = a := by
  rcases m with m | m
  · exact .inl (.inl m)
  · rcases mt_own m with m | m
    · exact .inl (.inr m)
    · exact .inr m
theorem step_own (s : StepE W.θ H H') (n : H a = none) : StepS W H (W.own i a) H' where
  m0 := rfl
  th := ⟨[], by simp [Wd.own]⟩
  thn := fun b h n => absurd h n
  keep := fun b o h m => ⟨s.keep b o h fun z => m (.inl z), fun z => (mt_own z).elim m fun e => by rw [e, n] at h; cases h⟩
  tups := s.tups
  frzs := s.frzs
  dom := s.dom
theorem own_new (rl : Rel K W H σ ρ S) (s : StepE W.θ H H') (n : H a = none) (st : StOk K (W.plus a) H' S') {c : Cell} (cc : CellOk K (W.plus a) H' a c) : Rel K (W.own i a) H' (σ.set i (some (.ref a))) (ρ.set i (.ow c)) S' := by
  have kp : Kps K W H (W.own i a) H' := (step_own s n).keeps
  have k2 : Kps K (W.plus a) H' (W.own i a) H' := Kps.less rfl fun b m => mu_plus.mpr (mu_own m)
  have wf := rl.wf
  have al : ∀ {j b}, (W.own i a).α j = some b → (j = i ∧ b = a) ∨ (j ≠ i ∧ W.α j = some b) := fun {j b} h => by
    unfold Wd.own at h
    by_cases e : j = i
    · simp only [e, if_pos] at h; cases h; exact .inl ⟨e, rfl⟩
    · simp only [if_neg e] at h; exact .inr ⟨e, h⟩
  refine ⟨by rw [List.length_set, List.length_set]; exact rl.len, fun j x e => ?_, st.keeps rfl k2 fun _ _ => rfl, ⟨wf.nd, fun j l b h1 h2 => ?_, fun j b h => ?_, fun b m => ?_⟩⟩
  · by_cases hj : i = j
    · subst hj
      by_cases hl : i < ρ.length
      · rw [List.getElem?_set_self hl] at e
        cases e
        exact ⟨a, by rw [List.getElem?_set_self (by rw [rl.len]; exact hl)], by simp [Wd.own], cc.keeps k2 rfl⟩
      · rw [List.getElem?_eq_none (by rw [List.length_set]; omega)] at e
        cases e
    · rw [List.getElem?_set_ne hj] at e
      have q := rl.sl j x e
      cases x with
      | un => trivial
      | sh d => obtain ⟨v, h1, h2⟩ := q; exact ⟨v, by rw [List.getElem?_set_ne hj]; exact h1, h2.keeps kp⟩
      | ow c' =>
        obtain ⟨b, h1, h2, h3⟩ := q
        obtain ⟨o, ho⟩ := h3.some
        refine ⟨b, by rw [List.getElem?_set_ne hj]; exact h1, ?_, h3.keeps kp ?_⟩
        · show (if j = i then some a else W.α j) = some b
          rw [if_neg fun z => hj z.symm]; exact h2
        · rw [ho]; exact s.keep b o ho (wf.dis j b h2).1
  · rcases al h1 with ⟨e1, e2⟩ | ⟨e1, e2⟩
    · rcases al h2 with ⟨e3, e4⟩ | ⟨e3, e4⟩
      · rw [e1, e3]
      · obtain ⟨o, ho⟩ := wf.dom b (.inr (.inr ⟨l, e4⟩))
        rw [e2, n] at ho; cases ho
    · rcases al h2 with ⟨e3, e4⟩ | ⟨e3, e4⟩
      · obtain ⟨o, ho⟩ := wf.dom b (.inr (.inr ⟨j, e2⟩))
        rw [e4, n] at ho; cases ho
      · exact wf.inj j l b e2 e4
  · rcases al h with ⟨e1, e2⟩ | ⟨e1, e2⟩
    · subst e2
      exact ⟨fresh_th wf n, fun m => by obtain ⟨o, ho⟩ := wf.dom b (.inl m); rw [n] at ho; cases ho⟩
    · exact wf.dis j b e2
  · rcases mu_own m with m | m
    · obtain ⟨o, ho⟩ := wf.dom b m
      exact s.dom b o ho
    · subst m
      exact cc.some
end
theorem own_d {K : Fw} {i : Nat} {Z : Ends} {σ : L2.St} {H : Hp} (h : tS K (sOwn f i) Z σ H) : tAsg (tF K f) (gName i) Z σ H := by
  obtain ⟨W, ρ, S, o, rl, hf, k⟩ := h
  unfold sOwn at hf
  cases e1 : f ρ S with
  | none => rw [e1] at hf; cases hf
  | some p =>
    obtain ⟨d, S1⟩ := p
    rw [e1, Option.bind_some] at hf
    refine ⟨W, ρ, S, d, S1, rl, e1, fun v H' s' r' => ?_⟩
    cases r' with
    | lst n e z st r =>
      cases hf
      exact k _ _ H' (step_own s' n) (own_new rl s' n st (c := .lst _) ⟨_, e, z, r⟩)
    | dct n e z st r =>
      cases hf
      exact k _ _ H' (step_own s' n) (own_new rl s' n st (c := .dct _ _) ⟨_, e, z, r⟩)
theorem st_own {i : Nat} (h : PS X st (tAsg (tF (FX X) f) (gName i))) : ST X st (sOwn f i) := ps_imp h fun _ _ _ h => own_d h
theorem asg_imp {t t' : TE} {g : TG} {st : Stmt} (h : PS X st (tAsg t g)) (i : ∀ σ H Q, t' σ H Q → t σ H Q) : PS X st (tAsg t' g) := ps_imp h fun Z σ H w => i σ H _ w

/-- the object of slot i is given away: from here on nobody changes it -/
def sFz (i : Nat) (g : Stm) : Stm := fun ρ S => match ρ[i]? with
  | some (.ow (.lst xs)) => g (ρ.set i (.sh (.lst xs))) S
  | some (.ow (.dct ks ds)) => g (ρ.set i (.sh (.dct ks ds))) S
  | _ => none
def Wd.less (W : Wd) (i : Nat) : Wd := { W with α := fun j => if j = i then none else W.α j }
theorem fz_rel {K : Fw} {W : Wd} {H : Hp} {σ : L2.St} {ρ : Rho} {S : Sto} {i : Nat} {c : Cell} {d : D} (rl : Rel K W H σ ρ S) (hi : ρ[i]? = some (.ow c)) (hd : Sl.rd (.ow c) = some d) : StepS W H (W.less i) H ∧ Rel K (W.less i) H σ (ρ.set i (.sh d)) S := by
  have wf := rl.wf
  have al : ∀ {j b}, (W.less i).α j = some b → j ≠ i ∧ W.α j = some b := fun {j b} h => by
    unfold Wd.less at h
    by_cases e : j = i
    · simp only [e, if_pos] at h; cases h
    · simp only [if_neg e] at h; exact ⟨e, h⟩
  have mt : ∀ b, Mt (W.less i) b → Mt W b := fun b m => m.elim .inl fun ⟨j, h⟩ => .inr ⟨j, (al h).2⟩
  have st : StepS W H (W.less i) H := ⟨rfl, ⟨[], by simp [Wd.less]⟩, fun b h n => absurd h n, fun b o h n => ⟨h, fun m => n (mt b m)⟩, fun _ _ h => h, fun _ _ _ h => h, fun _ o h => ⟨o, h⟩⟩
  refine ⟨st, by rw [List.length_set]; exact rl.len, fun j x e => ?_, rl.st.keeps rfl st.keeps fun _ _ => rfl, ⟨wf.nd, fun j l b h1 h2 => wf.inj j l b (al h1).2 (al h2).2, fun j b h => wf.dis j b (al h).2, fun b m => wf.dom b (m.elim .inl fun z => .inr (mt b z))⟩⟩
  by_cases hj : i = j
  · subst hj
    rw [List.getElem?_set_self (List.getElem?_eq_some_iff.mp hi).1] at e
    cases e
    obtain ⟨a, h1, h2, h3⟩ := rl.sl i _ hi
    have nm : ¬ Mu (W.less i) a := fun m => by
      rcases m with m | m | ⟨j, m⟩
      · exact (wf.dis i a h2).2 m
      · exact (wf.dis i a h2).1 m
      · exact (al m).1 (wf.inj j i a (al m).2 h2)
    refine ⟨.ref a, h1, ?_⟩
    cases c with
    | lst xs =>
      cases hd
      obtain ⟨vs, e1, z, e2⟩ := h3
      exact .lst nm e1 z (e2.step st)
    | dct ks ds =>
      cases hd
      obtain ⟨vs, e1, z, e2⟩ := h3
      exact .dct nm e1 z (e2.step st)
    | dn b ks ds => cases hd
  · rw [List.getElem?_set_ne hj] at e
    have q := rl.sl j x e
    cases x with
    | un => trivial
    | sh d' => obtain ⟨v, h1, h2⟩ := q; exact ⟨v, h1, h2.step st⟩
    | ow c' =>
      obtain ⟨b, h1, h2, h3⟩ := q
      refine ⟨b, h1, ?_, h3.keeps st.keeps rfl⟩
      show (if j = i then none else W.α j) = some b
      rw [if_neg fun z => hj z.symm]; exact h2
theorem fz_d {K : Fw} {g : Stm} {i : Nat} {Z : Ends} {σ : L2.St} {H : Hp} (h : tS K (sFz i g) Z σ H) : tS K g Z σ H := by
  obtain ⟨W, ρ, S, o, rl, hf, k⟩ := h
  unfold sFz at hf
  split at hf
  · rename_i xs e
    obtain ⟨s1, r1⟩ := fz_rel rl e rfl
    exact ⟨_, _, S, o, r1, hf, k.before s1⟩
  · rename_i xs ds e
    obtain ⟨s1, r1⟩ := fz_rel rl e rfl
    exact ⟨_, _, S, o, r1, hf, k.before s1⟩
  · cases hf
theorem ss_fz (i : Nat) (h : SS X rest a) : SS X rest (sFz i a) := pss_imp h fun _ _ _ h => fz_d h
end
end DL

set_option Elab.async false
set_option linter.all false
set_option maxRecDepth 100000
namespace DL
open PySem PySem.Spec PyProof.Rows L2

/-! ## 8. loops -/
def Out.turn (k : Stm) : Out → Option Out
  | .nx ρ S => k ρ S
  | .ct ρ S => k ρ S
  | .bk ρ S => some (.nx ρ S)
  | .rt d S => some (.rt d S)
def forF (g : Tg) (b : Stm) : List D → Stm
  | [], ρ, S => some (.nx ρ S)
  | x :: xs, ρ, S => (g x ρ).bind fun ρ1 => (b ρ1 S).bind fun o => o.turn (forF g b xs)
def sFor (it : Ars) (g : Tg) (b : Stm) : Stm := fun ρ S => (it ρ S).bind fun p => forF g b p.1 ρ p.2
def whileF (c : Tx) (b : Stm) : Nat → Stm
  | 0, _, _ => none
  | n + 1, ρ, S => (c ρ S).bind fun p => if p.1 = true then (b ρ p.2).bind fun o => o.turn (whileF c b n) else some (.nx ρ p.2)
def sWhile (n : Rho → Sto → Nat) (c : Tx) (b : Stm) : Stm := fun ρ S => whileF c b (n ρ S) ρ S
section
variable {X : Cx} {st : Stmt} {body : List Stmt} {b : Stm} {pos : Pos}
theorem for_d {K : Fw} {it : Ars} {g : Tg} {vs : List Nat} {Z : Ends} {σ : L2.St} {H : Hp} (h : tS K (sFor it g b) Z σ H) : tFor (tI K true it) (tG K vs g) (tS K b) Z σ H := by
  obtain ⟨W, ρ, S, o, rl, hf, k⟩ := h
  unfold sFor at hf
  cases e1 : it ρ S with
  | none => rw [e1] at hf; cases hf
  | some p =>
    rw [e1, Option.bind_some] at hf
    obtain ⟨xs, S1⟩ := p
    refine ⟨W, ρ, S, xs, S1, rl, e1, fun J H1 s1 st1 hz wk => ?_⟩
    have rl1 := rl.stepE s1 st1
    have k1 : EndsOk K W H1 Z o := k.before s1.toS
    refine ⟨fun i m σ2 H2 => m = xs.length - i ∧ i ≤ xs.length ∧ ∃ W2 ρ2 S2, StepS W H1 W2 H2 ∧ Rel K W2 H2 σ2 ρ2 S2 ∧ forF g b (xs.drop i) ρ2 S2 = some o, ⟨xs.length, by simp, Nat.zero_le _, W, ρ, S1, .refl _ _, rl1, hf⟩, ?_⟩
    rintro i m σ2 H2 ⟨rfl, hi, W2, ρ2, S2, s2, rl2, hf2⟩
    have wk2 := wk W2 H2 (show Later true K W H1 W2 H2 from s2.keeps)
    by_cases hlt : i < xs.length
    · have hg := wk2.1 i xs[i] (by simp [hlt])
      refine .inr ⟨hg.1, fun σ3 H3 => i + 1 ≤ xs.length ∧ ∃ W2 ρ2 S2, StepS W H1 W2 H3 ∧ Rel K W2 H3 σ3 ρ2 S2 ∧ forF g b (xs.drop (i + 1)) ρ2 S2 = some o, fun σ3 H3 ⟨q1, q2⟩ => ⟨xs.length - (i + 1), by omega, rfl, q1, q2⟩, fun x H3 y => ?_⟩
      obtain ⟨sm, rx⟩ := hg.2 x H3 y
      rw [DL.drop_cons hlt] at hf2
      unfold forF at hf2
      cases e2 : g xs[i] ρ2 with
      | none => rw [e2] at hf2; cases hf2
      | some ρ3 =>
        rw [e2, Option.bind_some] at hf2
        cases e3 : b ρ3 S2 with
        | none => rw [e3] at hf2; cases hf2
        | some o2 =>
          rw [e3, Option.bind_some] at hf2
          have s3 : StepS W H1 W2 H3 := s2.trans (StepE.same sm).toS
          refine ⟨W2, ρ2, S2, xs[i], ρ3, rl2.same sm, rx, e2, fun σ3 rl3 _ => ⟨W2, ρ3, S2, o2, rl3, e3, ?_⟩⟩
          cases o2 with
          | nx ρ4 S4 => exact fun W4 σ4 H4 s4 rl4 => ⟨hlt, W4, ρ4, S4, s3.trans s4, rl4, hf2⟩
          | ct ρ4 S4 => exact fun W4 σ4 H4 s4 rl4 => ⟨hlt, W4, ρ4, S4, s3.trans s4, rl4, hf2⟩
          | bk ρ4 S4 =>
            cases hf2
            exact fun W4 σ4 H4 s4 rl4 => k1 W4 σ4 H4 (s3.trans s4) rl4
          | rt d S4 =>
            cases hf2
            exact fun W4 v H4 s4 st4 wf4 r4 => k1 W4 v H4 (s3.trans s4) st4 wf4 r4
    · have e : i = xs.length := by omega
      subst e
      rw [List.drop_length] at hf2
      cases hf2
      exact .inl ⟨wk2.2, k1 W2 σ2 H2 s2 rl2⟩
theorem st_for {tg iter : Expr} {it : Ars} {g : Tg} {vs : List Nat} (hp : PassesOwn (model X.prog X.w) X.A X.env X.xe) (hc : X.calm = true) (hi : IT true X tg iter it) (hg : G X tg vs g) (hb : SS X body b)
    (hs : ∀ x, foldedSetIterable iter X.env x = pure x := by intro _; rfl) : ST X (.For tg iter body [] pos) (sFor it g b) := ps_imp (ps_for hp hc hi hg hb hs) fun _ _ _ h => for_d h
theorem while_d {K : Fw} {c : Tx} {n : Rho → Sto → Nat} {Z : Ends} {σ : L2.St} {H : Hp} (h : tS K (sWhile n c b) Z σ H) : tWhile (tT K c) (tS K b) Z σ H := by
  obtain ⟨W, ρ, S, o, rl, hf, k⟩ := h
  unfold sWhile at hf
  refine ⟨fun m σ2 H2 => ∃ W2 ρ2 S2, StepS W H W2 H2 ∧ Rel K W2 H2 σ2 ρ2 S2 ∧ whileF c b m ρ2 S2 = some o, ⟨n ρ S, W, ρ, S, .refl _ _, rl, hf⟩, ?_⟩
  rintro m σ2 H2 ⟨W2, ρ2, S2, s2, rl2, hf2⟩
  cases m with
  | zero => cases hf2
  | succ m =>
    unfold whileF at hf2
    cases e1 : c ρ2 S2 with
    | none => rw [e1] at hf2; cases hf2
    | some p =>
      rw [e1, Option.bind_some] at hf2
      refine ⟨W2, ρ2, S2, p.1, p.2, rl2, e1, fun H3 s3 st3 => ?_⟩
      have s3' := s2.trans s3.toS
      have rl3 := rl2.stepE s3 st3
      cases hp : p.1 with
      | true =>
        rw [hp, if_pos rfl] at hf2
        refine iteT ?_
        refine ⟨fun σ4 H4 => ∃ W2 ρ2 S2, StepS W H W2 H4 ∧ Rel K W2 H4 σ4 ρ2 S2 ∧ whileF c b m ρ2 S2 = some o, fun σ4 H4 q => ⟨m, Nat.lt_succ_self m, q⟩, ?_⟩
        cases e3 : b ρ2 p.2 with
        | none => rw [e3] at hf2; cases hf2
        | some o2 =>
          rw [e3, Option.bind_some] at hf2
          refine ⟨W2, ρ2, p.2, o2, rl3, e3, ?_⟩
          cases o2 with
          | nx ρ4 S4 => exact fun W4 σ4 H4 s4 rl4 => ⟨W4, ρ4, S4, s3'.trans s4, rl4, hf2⟩
          | ct ρ4 S4 => exact fun W4 σ4 H4 s4 rl4 => ⟨W4, ρ4, S4, s3'.trans s4, rl4, hf2⟩
          | bk ρ4 S4 =>
            cases hf2
            exact fun W4 σ4 H4 s4 rl4 => k W4 σ4 H4 (s3'.trans s4) rl4
          | rt d S4 =>
            cases hf2
            exact fun W4 v H4 s4 st4 wf4 r4 => k W4 v H4 (s3'.trans s4) st4 wf4 r4
      | false =>
        rw [hp, if_neg Bool.false_ne_true] at hf2
        cases hf2
        refine iteF ?_
        exact k W2 σ2 H3 s3' rl3
theorem st_while {c : Expr} {g : Tx} (n : Rho → Sto → Nat) (hp : PassesOwn (model X.prog X.w) X.A X.env X.xe) (hc : T X c g) (hb : SS X body b) : ST X (.While c body [] pos) (sWhile n g b) := ps_imp (ps_while hp hc hb) fun _ _ _ h => while_d h
end

/-! ## 9. changes -/
section
variable {K : Fw} {W : Wd} {H H' : Hp} {σ : L2.St} {ρ : Rho} {S S' : Sto} {a : Addr} {i : Nat}
def isCell : HO → Prop
  | .lst _ => True
  | .dK _ => True
  | .ext _ => True
  | _ => False
theorem CellOk.cell {c : Cell} (h : CellOk K W H a c) : ∃ o : HO, H a = Option.some o ∧ isCell o := by
  cases c with
  | lst xs => obtain ⟨vs, h1, _⟩ := h; exact ⟨_, h1, trivial⟩
  | dct ks ds => obtain ⟨vs, h1, _⟩ := h; exact ⟨_, h1, trivial⟩
  | dn b ks ds =>
    cases b with
    | true => obtain ⟨xs, o, h1, _⟩ := h; exact ⟨_, h1, trivial⟩
    | false => obtain ⟨xs, o, h1, _⟩ := h; exact ⟨_, h1, trivial⟩
theorem kps_cell {o u : HO} (e : H a = some o) (c : isCell o) (m : Mu W a) : Kps K W H W (upd H a u) :=
  Kps.put m (fun xs h => by rw [e] at h; cases h; exact c) fun b w h => by rw [e] at h; cases h; exact c
theorem step_cell {o u : HO} (e : H a = some o) (c : isCell o) (m : Mt W a) : StepS W H W (upd H a u) where
  m0 := rfl
  th := ⟨[], by simp⟩
  thn := fun b h n => absurd h n
  keep := fun b w h n => ⟨by rw [upd_ne fun z => n (by rw [z]; exact m)]; exact h, n⟩
  tups := fun b xs h => by
    rw [upd_ne fun z => by rw [z, e] at h; cases h; exact c]; exact h
  frzs := fun b w x h => by
    rw [upd_ne fun z => by rw [z, e] at h; cases h; exact c]; exact h
  dom := fun b w h => by
    by_cases z : b = a
    · subst z; exact ⟨_, upd_same⟩
    · rw [upd_ne z]; exact ⟨w, h⟩
/-- slot i's own object is changed -/
theorem own_put {c c' : Cell} {u : HO} (rl : Rel K W H σ ρ S) (hi : ρ[i]? = some (.ow c)) (ha : W.α i = some a) (cc : CellOk K W (upd H a u) a c') (co : ∃ o, H a = some o ∧ isCell o) : StepS W H W (upd H a u) ∧ Rel K W (upd H a u) σ (ρ.set i (.ow c')) S := by
  obtain ⟨o, e, ic⟩ := co
  have mt : Mt W a := .inr ⟨i, ha⟩
  have sp := step_cell (u := u) e ic mt
  have kp : Kps K W H W (upd H a u) := sp.keeps
  refine ⟨sp, by rw [List.length_set]; exact rl.len, fun j x ej => ?_, rl.st.keeps rfl kp fun b m => upd_ne fun z => (rl.wf.dis i a ha).1 (by rw [← z]; exact m), ⟨rl.wf.nd, rl.wf.inj, rl.wf.dis, fun b m => by obtain ⟨w, h⟩ := rl.wf.dom b m; exact sp.dom b w h⟩⟩
  by_cases hj : i = j
  · subst hj
    rw [List.getElem?_set_self (List.getElem?_eq_some_iff.mp hi).1] at ej
    cases ej
    obtain ⟨b, h1, h2, h3⟩ := rl.sl i _ hi
    rw [ha] at h2
    cases h2
    exact ⟨a, h1, ha, cc⟩
  · rw [List.getElem?_set_ne hj] at ej
    have q := rl.sl j x ej
    cases x with
    | un => trivial
    | sh d' => obtain ⟨v, h1, h2⟩ := q; exact ⟨v, h1, h2.keeps kp⟩
    | ow c2 =>
      obtain ⟨b, h1, h2, h3⟩ := q
      refine ⟨b, h1, h2, h3.keeps kp (upd_ne fun z => hj (rl.wf.inj i j a ha (by rw [← z]; exact h2)))⟩
/-- the store's l-th object is changed -/
theorem st_put' {c c' : Cell} {l : Nat} {u : HO} (st : StOk K W H S) (wf : WfW W H) (hl : W.θ[l]? = some a) (hc : S[l]? = some c) (cc : CellOk K W (upd H a u) a c') (co : ∃ o, H a = some o ∧ isCell o) : StOk K W (upd H a u) (S.set l c') := by
  obtain ⟨o, e, ic⟩ := co
  have m : a ∈ W.θ := List.mem_of_getElem? hl
  have kp : Kps K W H W (upd H a u) := kps_cell e ic (.inr (.inl m))
  refine ⟨by rw [List.length_set]; exact st.1, fun j b x e1 e2 => ?_⟩
  by_cases hj : l = j
  · subst hj
    rw [List.getElem?_set_self (List.getElem?_eq_some_iff.mp hc).1] at e2
    cases e2
    rw [hl] at e1
    cases e1
    exact cc
  · rw [List.getElem?_set_ne hj] at e2
    refine (st.2 j b x e1 e2).keeps kp (upd_ne fun z => hj ?_)
    subst z
    exact (List.getElem?_inj (List.getElem?_eq_some_iff.mp hl).1 wf.nd).mp (hl.trans e1.symm)
theorem Rel.storeSet {c c' : Cell} {l : Nat} {u : HO} (rl : Rel K W H σ ρ S) (hl : W.θ[l]? = some a) (hc : S[l]? = some c) (cc : CellOk K W (upd H a u) a c') (co : ∃ o, H a = some o ∧ isCell o) : StepS W H W (upd H a u) ∧ Rel K W (upd H a u) σ ρ (S.set l c') := by
  have st' := st_put' rl.st rl.wf hl hc cc co
  obtain ⟨o, e, ic⟩ := co
  have m : a ∈ W.θ := List.mem_of_getElem? hl
  have sp := step_cell (u := u) e ic (W := W) (.inl m)
  exact ⟨sp, rl.mv (fun _ => rfl) sp.keeps (fun j b h => upd_ne fun z => (rl.wf.dis j b h).1 (by rw [z]; exact m)) st' ⟨rl.wf.nd, rl.wf.inj, rl.wf.dis, fun b m => by obtain ⟨w, h⟩ := rl.wf.dom b m; exact sp.dom b w h⟩⟩
end
/-- a method that changes its own object: g: the object, the arguments; the object behind, the answer -/
def MutD (K : Fw) (r : V → List V → Hp → VK → Prop) (g : Cell → List D → Option (Cell × D)) : Prop :=
  ∀ (W : Wd) (H : Hp) (a : Addr) (vs : List V) (ds : List D) (c c' : Cell) (d : D) (Q : VK), Mu W a → CellOk K W H a c → Rps K W H vs ds → g c ds = some (c', d) →
    (∀ u v, CellOk K W (upd H a u) a c' → Rp K W (upd H a u) v d → Q v (upd H a u)) → r (.ref a) vs H Q
def isLst : Cell → Bool
  | .lst _ => true
  | _ => false
/-- x.m(..) as a statement, x the frame's own -/
def sMut (g : Cell → List D → Option (Cell × D)) (i : Nat) (fs : Ars) : Stm := fun ρ S => match ρ[i]? with
  | some (.ow c) => (fs ρ S).bind fun p => (g c p.1).map fun z => .nx (ρ.set i (.ow z.1)) p.2
  | _ => none
section
variable {X : Cx} {st : Stmt} {f fi fo : Ex} {fs : Ars}
theorem mut_d {K : Fw} {r : V → List V → Hp → VK → Prop} {g : Cell → List D → Option (Cell × D)} (hd : MutD K r g) (hl : ∀ c ds z, g c ds = some z → isLst c = true) {i : Nat} {Z : Ends} {σ : L2.St} {H : Hp} (h : tS K (sMut g i fs) Z σ H) :
    tDrop (tBM K "list" r (tVar i) (tA K fs)) Z σ H := by
  obtain ⟨W, ρ, S, o, rl, hf, k⟩ := h
  unfold sMut at hf
  split at hf
  · rename_i c hi
    cases e1 : fs ρ S with
    | none => rw [e1] at hf; cases hf
    | some p =>
      rw [e1, Option.bind_some] at hf
      obtain ⟨z, e2, e3⟩ := Option.map_eq_some_iff.mp hf
      cases e3
      obtain ⟨a, h1, h2, h3⟩ := rl.sl i _ hi
      have lc := hl _ _ _ e2
      cases c with
      | dct _ _ => cases lc
      | dn _ _ _ => cases lc
      | lst xs =>
        obtain ⟨vs, hv, hz, rs⟩ := id h3
        refine ⟨.ref a, h1, .inl ⟨rfl, _, .of hv⟩, W, ρ, S, p.1, p.2, rl, e1, fun ws H1 s1 st1 r1 => ?_⟩
        have rl1 := rl.stepE s1 st1
        have n := rl.wf.dis i a h2
        have hv1 : H1 a = some (.lst vs) := s1.keep a _ hv n.1
        have h31 : CellOk K W H1 a (.lst xs) := ⟨vs, hv1, hz, rs.stepE s1⟩
        refine hd W H1 a ws p.1 _ z.1 z.2 _ (.inr (.inr ⟨i, h2⟩)) h31 r1 e2 fun u v cc rv => ?_
        obtain ⟨s2, rl2⟩ := own_put rl1 hi h2 cc ⟨_, hv1, trivial⟩
        exact k W σ _ (s1.toS.trans s2) rl2
  · cases hf
theorem st_mut {r : V → List V → Hp → VK → Prop} {g : Cell → List D → Option (Cell × D)} {i : Nat} (h : PS X st (tDrop (tBM X.K "list" r (tVar i) (tA (FX X) fs)))) (hd : MutD (FX X) r g) (hl : ∀ c ds z, g c ds = some z → isLst c = true) : ST X st (sMut g i fs) := ps_imp h fun _ _ _ h => mut_d hd hl h
def gAppend : Cell → List D → Option (Cell × D)
  | .lst xs, [y] => if xs.length < sizeLine then some (.lst (xs ++ [y]), .non) else none
  | _, _ => none
theorem append_d {K : Fw} : MutD K rAppend gAppend := fun W H a vs ds c c' d Q m cc rs h k => by
  unfold gAppend at h
  split at h
  · rename_i xs y
    by_cases z : xs.length < sizeLine
    · rw [if_pos z] at h
      cases h
      obtain ⟨ws, e, hz, rw'⟩ := cc
      cases rs with
      | @cons y1 _ _ _ r1 r2 =>
        cases r2
        refine ⟨a, ws, y1, rfl, rfl, e, by rw [rw'.length]; exact z, k _ _ ⟨_, upd_same, by rw [List.length_append, rw'.length]; exact z, ?_⟩ .non⟩
        have kp : Kps K W H W (upd H a (.lst (ws ++ [y1]))) := kps_cell e trivial m
        exact (rw'.append (.cons r1 .nil)).keeps kp
    · rw [if_neg z] at h; cases h
  · cases h
theorem append_l : ∀ c ds z, gAppend c ds = some z → isLst c = true := fun c ds z h => by
  cases c with
  | lst xs => rfl
  | dct ks vs => cases h
  | dn b ks vs => cases h
def insAt (xs : List D) (i : Int) (y : D) : List D := xs.insertIdx (if i < 0 then (i + xs.length).toNat else min i.toNat xs.length) y
/-- x[k] = e, x the frame's own list -/
def sSetIx (i : Nat) (f fi : Ex) : Stm := fun ρ S => (f ρ S).bind fun p => match ρ[i]? with
  | some (.ow (.lst xs)) => (fi ρ p.2).bind fun q => match q.1 with
    | .int k => (ixN xs.length k).map fun j => .nx (ρ.set i (.ow (.lst (xs.set j p.1)))) q.2
    | _ => none
  | _ => none
theorem setIx_d {K : Fw} {i : Nat} {Z : Ends} {σ : L2.St} {H : Hp} (h : tS K (sSetIx i f fi) Z σ H) : tAsg (tD K f) (gSub (tVar i) (tQ K fi) rSetL) Z σ H := by
  obtain ⟨W, ρ, S, o, rl, hf, k⟩ := h
  unfold sSetIx at hf
  cases e1 : f ρ S with
  | none => rw [e1] at hf; cases hf
  | some p =>
    rw [e1, Option.bind_some] at hf
    split at hf
    · rename_i xs hi
      cases e2 : fi ρ p.2 with
      | none => rw [e2] at hf; cases hf
      | some q =>
        rw [e2, Option.bind_some] at hf
        obtain ⟨kd, S2⟩ := q
        cases kd with
        | int kk =>
          obtain ⟨j, e3, e4⟩ := Option.map_eq_some_iff.mp hf
          cases e4
          refine ⟨W, ρ, S, p.1, p.2, rl, e1, fun v H1 s1 st1 r1 => ?_⟩
          have rl1 := rl.stepE s1 st1
          obtain ⟨a, h1, h2, h3⟩ := rl1.sl i _ hi
          refine ⟨.ref a, h1, W, ρ, p.2, _, S2, rl1, e2, fun v2 H2 s2 st2 r2 => ?_⟩
          have rl2 := rl1.stepE s2 st2
          obtain ⟨vs, hv, hz, rs⟩ := id h3
          have n := rl.wf.dis i a h2
          have hv2 : H2 a = some (.lst vs) := s2.keep a _ hv n.1
          have rs2 := rs.stepE s2
          refine ⟨a, vs, kk, j, rfl, rq_int r2, hv2, by rw [rs.length]; exact e3, ?_⟩
          have kp : Kps K W H2 W (upd H2 a (.lst (vs.set j v))) := kps_cell hv2 trivial (.inr (.inr ⟨i, h2⟩))
          obtain ⟨s3, rl3⟩ := own_put (c' := .lst (xs.set j p.1)) rl2 hi h2 ⟨_, upd_same, by rw [List.length_set]; exact hz, (rs2.set j (r1.stepE s2)).keeps kp⟩ ⟨_, hv2, trivial⟩
          exact k W σ _ ((s1.trans s2).toS.trans s3) rl3
        | _ => cases hf
    · cases hf
theorem st_setIx {i : Nat} (h : PS X st (tAsg (tD (FX X) f) (gSub (tVar i) (tQ (FX X) fi) rSetL))) : ST X st (sSetIx i f fi) := ps_imp h fun _ _ _ h => setIx_d h
/-- c[k] = e, c a shared list -/
def sSetR (fo f fi : Ex) : Stm := fun ρ S => (f ρ S).bind fun p => (fo ρ p.2).bind fun q => (fi ρ q.2).bind fun r => match q.1, r.1 with
  | .ref l, .int k => match r.2[l]? with
    | some (.lst xs) => (ixN xs.length k).map fun j => .nx ρ (r.2.set l (.lst (xs.set j p.1)))
    | _ => none
  | _, _ => none
theorem setR_d {K : Fw} {Z : Ends} {σ : L2.St} {H : Hp} (h : tS K (sSetR fo f fi) Z σ H) : tAsg (tD K f) (gSub (tD K fo) (tQ K fi) rSetL) Z σ H := by
  obtain ⟨W, ρ, S, o, rl, hf, k⟩ := h
  unfold sSetR at hf
  cases e1 : f ρ S with
  | none => rw [e1] at hf; cases hf
  | some p =>
    rw [e1, Option.bind_some] at hf
    cases e2 : fo ρ p.2 with
    | none => rw [e2] at hf; cases hf
    | some q =>
      rw [e2, Option.bind_some] at hf
      cases e3 : fi ρ q.2 with
      | none => rw [e3] at hf; cases hf
      | some r =>
        rw [e3, Option.bind_some] at hf
        obtain ⟨qd, S2⟩ := q
        obtain ⟨kd, S3⟩ := r
        cases qd with
        | ref l =>
          cases kd with
          | int kk =>
            cases e4 : S3[l]? with
            | none => simp only [e4] at hf; cases hf
            | some cc =>
              cases cc with
              | dct _ _ => simp only [e4] at hf; cases hf
              | dn _ _ _ => simp only [e4] at hf; cases hf
              | lst xs =>
                simp only [e4] at hf
                obtain ⟨j, e5, e6⟩ := Option.map_eq_some_iff.mp hf
                cases e6
                refine ⟨W, ρ, S, p.1, p.2, rl, e1, fun v H1 s1 st1 r1 => ?_⟩
                have rl1 := rl.stepE s1 st1
                refine ⟨W, ρ, p.2, _, S2, rl1, e2, fun v2 H2 s2 st2 r2 => ?_⟩
                have rl2 := rl1.stepE s2 st2
                refine ⟨W, ρ, S2, _, S3, rl2, e3, fun v3 H3 s3 st3 r3 => ?_⟩
                have rl3 := rl2.stepE s3 st3
                cases r2 with
                | @ref a _ hl =>
                  obtain ⟨vs, hv, hz, rs⟩ := st3.2 l a _ hl e4
                  refine ⟨a, vs, kk, j, rfl, rq_int r3, hv, by rw [rs.length]; exact e5, ?_⟩
                  have kp : Kps K W H3 W (upd H3 a (.lst (vs.set j v))) := kps_cell hv trivial (.inr (.inl (List.mem_of_getElem? hl)))
                  obtain ⟨s4, rl4⟩ := rl3.storeSet (c' := .lst (xs.set j p.1)) hl e4 ⟨_, upd_same, by rw [List.length_set]; exact hz, (rs.set j ((r1.stepE s2).stepE s3)).keeps kp⟩ ⟨_, hv, trivial⟩
                  exact k W σ _ (((s1.trans s2).trans s3).toS.trans s4) rl4
          | _ => cases hf
        | _ => cases hf
theorem st_setR (h : PS X st (tAsg (tD (FX X) f) (gSub (tD (FX X) fo) (tQ (FX X) fi) rSetL))) : ST X st (sSetR fo f fi) := ps_imp h fun _ _ _ h => setR_d h
end

/-! ## 10. defs and their calls -/
abbrev Fn := List D → Sto → Option (D × Sto)
def rho0 (n : Nat) (ds : List D) : Rho := ds.map Sl.sh ++ List.replicate (n - ds.length) .un
def fnOut (S : Sto) : Option Out → Option (D × Sto)
  | some (.nx _ S') => if S'.length = S.length then some (.non, S') else none
  | some (.rt d S') => if S'.length = S.length then some (d, S') else none
  | _ => none
def fnD (n : Nat) (b : Stm) : Fn := fun ds S => fnOut S (b (rho0 n ds) S)
/-- called with data ds over the store S, it gives what F says -/
def spD (K : Fw) (n : Nat) (F : Fn) : Sp := fun vs H Q _ => ∃ (W : Wd) (ds : List D) (S : Sto) (d : D) (S' : Sto), ds.length = n ∧ Rps K W H vs ds ∧ StOk K W H S ∧ WfW W H ∧ F ds S = some (d, S') ∧
  ∀ v H', StepE W.θ H H' → StOk K W H' S' → Rp K W H' v d → Q v H'
theorem rho0_length {n : Nat} {ds : List D} (h : ds.length ≤ n) : (rho0 n ds).length = n := by unfold rho0; simp; omega
theorem rho0_slot {K : Fw} {W : Wd} {H : Hp} {N : List Str} {vs : List V} {ds : List D} (rs : Rps K W H vs ds) (i : Nat) (s : Sl) (h : (rho0 N.length ds)[i]? = some s) : SlOk K W H (L2.start N vs) i s := by
  unfold rho0 at h
  by_cases hi : i < ds.length
  · rw [List.getElem?_append_left (by simpa using hi), List.getElem?_map] at h
    obtain ⟨d, hd, rfl⟩ := Option.map_eq_some_iff.mp h
    obtain ⟨v, hv, rv⟩ := rs.get hd
    refine ⟨v, ?_, rv⟩
    unfold L2.start
    rw [List.getElem?_append_left (by simpa [rs.length] using hi), List.getElem?_map, hv]
    rfl
  · rw [List.getElem?_append_right (by simpa using hi), List.getElem?_replicate] at h
    split at h
    · cases h; trivial
    · cases h
section
variable {P : Program} {w : World} {K : PySem.W.Frag} {mg : Str → Option Value} {base : Heap}
theorem fn_ok {x qual : Str} {st : Stmt} {f : Addr} {fd : FuncData} {N ps : List Str} {k : Nat} {b : Stm} (F : Fun K x qual st f fd) (Sc : FnScope N ps (defScope st)) (hl : ps.length ≤ N.length)
    (hb : ∀ (cdv : Value) (A : Around) (outer : List Env) (s : Shared) (H : Hp) (E : XK), Room k (A.deeper (envOfC qual (defScope st) s.heap.objs.size f cdv)) → SS (cxOf CX0 P w K mg base N qual (defScope st) f cdv A outer s H E).nox (defBody st) b) :
    FnOk P w K mg base CX0 (k + 1) f fd ps (spD ⟨K, w, P⟩ ps.length (fnD N.length b)) := by
  refine F.ok Sc (fun vs H Q E h => ?_) (fun cdv A outer s H vs Q E hr h => ?_)
  · obtain ⟨W, ds, S, d, S', hn, rs, _⟩ := h
    rw [rs.length]; exact hn
  · obtain ⟨W, ds, S, d, S', hn, rs, st0, wf, hf, k0⟩ := h
    refine ⟨_, hb cdv A outer s H E hr, ?_⟩
    have m0 : ∀ b, Mu (⟨W.θ, Mu W, fun _ => none⟩ : Wd) b ↔ Mu W b := fun b => by
      constructor
      · rintro (m | m | ⟨j, m⟩)
        · exact m
        · exact .inr (.inl m)
        · cases m
      · exact .inl
    have kp0 : Kps ⟨K, w, P⟩ W H (⟨W.θ, Mu W, fun _ => none⟩ : Wd) H := Kps.less rfl fun b m => (m0 b).mp m
    have wf0 : WfW (⟨W.θ, Mu W, fun _ => none⟩ : Wd) H := ⟨wf.nd, (fun i j a h => (by cases h)), (fun i a h => (by cases h)), fun a m => wf.dom a ((m0 a).mp m)⟩
    have rs0 := rs.keeps kp0
    have rl0 : Rel ⟨K, w, P⟩ (⟨W.θ, Mu W, fun _ => none⟩ : Wd) H (L2.start N vs) (rho0 N.length ds) S := by
      refine ⟨?_, rho0_slot rs0, st0.keeps rfl kp0 fun _ _ => rfl, wf0⟩
      rw [rho0_length (by rw [hn]; exact hl)]
      unfold L2.start
      rw [List.length_append, List.length_map, List.length_replicate, rs.length]
      omega
    unfold fnD at hf
    cases e1 : b (rho0 N.length ds) S with
    | none => rw [e1] at hf; cases hf
    | some o =>
      rw [e1] at hf
      refine ⟨_, _, S, o, rl0, e1, ?_⟩
      have fin : ∀ {W' : Wd} {H' : Hp} {S1 : Sto} {v : V} {d : D}, StepS (⟨W.θ, Mu W, fun _ => none⟩ : Wd) H W' H' → StOk ⟨K, w, P⟩ W' H' S1 → Rp ⟨K, w, P⟩ W' H' v d → S1.length = S.length → StepE W.θ H H' ∧ StOk ⟨K, w, P⟩ W H' S1 ∧ Rp ⟨K, w, P⟩ W H' v d := fun {W' H' S1 v d} s st r hlen => by
        obtain ⟨t, ht⟩ := s.th
        have e : W'.θ = W.θ := by
          have h1 := st.1
          have h2 := st0.1
          have h3 := congrArg List.length ht
          rw [List.length_append] at h3
          have h4 : (⟨W.θ, Mu W, fun _ => none⟩ : Wd).θ.length = W.θ.length := rfl
          have : t.length = 0 := by omega
          rw [List.length_eq_zero_iff.mp this, List.append_nil] at ht
          exact ht
        have kl : Kps ⟨K, w, P⟩ W' H' W H' := Kps.less e.symm fun b m => .inl (by rw [s.m0]; exact m)
        refine ⟨⟨fun b u h n => (s.keep b u h fun z => ?_).1, s.tups, s.frzs, s.dom⟩, st.keeps e.symm kl fun _ _ => rfl, r.keeps kl⟩
        rcases z with z | ⟨j, z⟩
        · exact n z
        · cases z
      cases o with
      | nx ρ' S1 =>
        unfold fnOut at hf
        by_cases hlen : S1.length = S.length
        · simp only [if_pos hlen] at hf
          cases hf
          intro W' σ' H' s r
          obtain ⟨q1, q2, q3⟩ := fin (v := .non) (d := .non) s r.st .non hlen
          exact k0 .non H' q1 q2 q3
        · simp only [if_neg hlen] at hf; cases hf
      | rt d' S1 =>
        unfold fnOut at hf
        by_cases hlen : S1.length = S.length
        · simp only [if_pos hlen] at hf
          cases hf
          intro W' v H' s st wf' r
          obtain ⟨q1, q2, q3⟩ := fin s st r hlen
          exact k0 v H' q1 q2 q3
        · simp only [if_neg hlen] at hf; cases hf
      | bk _ _ => cases hf
      | ct _ _ => cases hf
end
def eCall (F : Fn) (fs : Ars) : Ex := fun ρ S => (fs ρ S).bind fun p => F p.1 p.2
section
variable {X : Cx} {e : Expr} {fs : Ars}
theorem e_call {F : Fn} {n : Nat} (h : PE X e (tCall (spD (FX X) n F) [] E0 (tA (FX X) fs))) (hn : ∀ (ρ : Rho) (S S' : Sto) (ds : List D), fs ρ S = some (ds, S') → ds.length = n) : E X e (eCall F fs) := pe_imp h fun σ H Q ⟨W, ρ, S, d, S', rl, hf, k⟩ => by
  unfold eCall at hf
  cases e1 : fs ρ S with
  | none => rw [e1] at hf; cases hf
  | some p =>
    rw [e1, Option.bind_some] at hf
    refine ⟨W, ρ, S, p.1, p.2, rl, e1, fun vs H1 s1 st1 r1 => ?_⟩
    show spD (FX X) n F (vs ++ []) H1 Q E0
    rw [List.append_nil]
    exact ⟨W, p.1, p.2, d, S', hn _ _ _ _ e1, r1, st1, rl.wf.stepE s1, hf, fun v H2 s2 st2 r2 => k v H2 (s1.trans s2) st2 r2⟩
end
end DL

set_option Elab.async false
set_option linter.all false
set_option maxRecDepth 100000
namespace DL
open PySem PySem.Spec PyProof.Rows L2

/-! ## 11. operators -/
section
variable {K : Fw} {W : Wd} {H : Hp}
theorem rp_bl {v : V} {b : Bool} (r : Rq K W H v (.bl b)) : v = .bl b := by
  cases r with
  | of r => cases r; rfl
theorem rq_non {v : V} (r : Rq K W H v .non) : v = .non := by
  cases r with
  | of r => cases r; rfl
theorem rq_str {v : V} {x : Str} (r : Rq K W H v (.str x)) : v = .str x := by
  cases r with
  | of r => cases r; rfl
theorem rq_ty {v : V} {x : String} (r : Rq K W H v (.ty x)) : v = .ty x := by
  cases r with
  | of r => cases r; rfl
/-- an operator of two ints -/
def liftI (g : Int → Int → Option D) : D → D → Option D
  | .int i, .int j => g i j
  | _, _ => none
theorem liftI_split {g : Int → Int → Option D} {x y d : D} (h : liftI g x y = some d) : ∃ i j, x = .int i ∧ y = .int j ∧ g i j = some d := by
  unfold liftI at h
  split at h
  · exact ⟨_, _, rfl, rfl, h⟩
  · cases h
theorem int_d {C : Int → Int → Prop} {f : Int → Int → Int} {g : Int → Int → Option D} (hg : ∀ i j d, g i j = some d → C i j ∧ d = .int (f i j)) : OpD K (rI C fun i j => .int (f i j)) (liftI g) := fun W H v1 v2 d1 d2 d Q wf r1 r2 h k => by
  obtain ⟨i, j, rfl, rfl, e⟩ := liftI_split h
  obtain ⟨c, rfl⟩ := hg i j d e
  exact ⟨i, j, rq_int r1, rq_int r2, c, k _ H (.refl _) (.int _)⟩
theorem int0_d {f : Int → Int → Int} : OpD K (rI0 fun i j => .int (f i j)) (liftI fun i j => some (.int (f i j))) := fun W H v1 v2 d1 d2 d Q wf r1 r2 h k => by
  obtain ⟨i, j, rfl, rfl, e⟩ := liftI_split h
  cases e
  exact ⟨i, j, rq_int r1, rq_int r2, k _ H (.refl _) (.int _)⟩
theorem intB_d {f : Int → Int → Bool} : OpD K (rI0 fun i j => .bl (f i j)) (liftI fun i j => some (.bl (f i j))) := fun W H v1 v2 d1 d2 d Q wf r1 r2 h k => by
  obtain ⟨i, j, rfl, rfl, e⟩ := liftI_split h
  cases e
  exact ⟨i, j, rq_int r1, rq_int r2, k _ H (.refl _) (.bl _)⟩
def D.sub : D → D → Option D := liftI fun i j => some (.int (i - j))
theorem sub_d : OpD K (rI0 fun i j => .int (i - j)) D.sub := int0_d
def okMul (i j : Int) : Bool := decide (i.natAbs.log2 + j.natAbs.log2 < 1000000)
def D.mul : D → D → Option D := liftI fun i j => if okMul i j = true then some (.int (i * j)) else none
theorem mul_d : OpD K (rI CMulW fun i j => .int (i * j)) D.mul := int_d fun i j d h => by
  by_cases c : okMul i j = true
  · simp only [if_pos c] at h; cases h; exact ⟨of_decide_eq_true (p := i.natAbs.log2 + j.natAbs.log2 < 1000000) c, rfl⟩
  · simp only [if_neg c] at h; cases h
def okDiv (j : Int) : Bool := decide (0 < j ∧ j.natAbs.log2 < 9000)
def D.fdiv : D → D → Option D := liftI fun i j => if okDiv j = true then some (.int (i / j)) else none
theorem fdiv_d : OpD K (rI CDivW fun i j => .int (i / j)) D.fdiv := int_d fun i j d h => by
  by_cases c : okDiv j = true
  · simp only [if_pos c] at h; cases h; exact ⟨of_decide_eq_true (p := 0 < j ∧ j.natAbs.log2 < 9000) c, rfl⟩
  · simp only [if_neg c] at h; cases h
def D.mod : D → D → Option D := liftI fun i j => if j ≠ 0 then some (.int (i.fmod j)) else none
theorem mod_d : OpD K (rI (fun _ j => j ≠ 0) fun i j => .int (i.fmod j)) D.mod := int_d fun i j d h => by
  by_cases c : j ≠ 0
  · simp only [if_pos c] at h; cases h; exact ⟨c, rfl⟩
  · simp only [if_neg c] at h; cases h
def D.pow : D → D → Option D := liftI fun i j => if 0 ≤ j ∧ j ≤ 1000000 ∧ i.natAbs < 2 ^ 64 then some (.int (i ^ j.toNat)) else none
theorem pow_d : OpD K (rI CPow fun i j => .int (i ^ j.toNat)) D.pow := int_d fun i j d h => by
  by_cases c : 0 ≤ j ∧ j ≤ 1000000 ∧ i.natAbs < 2 ^ 64
  · simp only [if_pos c] at h; cases h; exact ⟨c, rfl⟩
  · simp only [if_neg c] at h; cases h
def D.lt : D → D → Option D := liftI fun i j => some (.bl (decide (i < j)))
def D.le : D → D → Option D := liftI fun i j => some (.bl (decide (i ≤ j)))
def D.gt : D → D → Option D := liftI fun i j => some (.bl (decide (j < i)))
def D.ge : D → D → Option D := liftI fun i j => some (.bl (decide (j ≤ i)))
theorem lt_d : OpD K (rI0 fun i j => .bl (decide (i < j))) D.lt := intB_d
theorem le_d : OpD K (rI0 fun i j => .bl (decide (i ≤ j))) D.le := intB_d
theorem gt_d : OpD K (rI0 fun i j => .bl (decide (j < i))) D.gt := intB_d
theorem ge_d : OpD K (rI0 fun i j => .bl (decide (j ≤ i))) D.ge := intB_d
/-- + of ints, tuples, lists, texts -/
def D.add : D → D → Option D
  | .int i, .int j => some (.int (i + j))
  | .tup xs, .tup ys => if xs.length + ys.length ≤ sizeLine then some (.tup (xs ++ ys)) else none
  | .lst xs, .lst ys => if xs.length + ys.length ≤ sizeLine then some (.lst (xs ++ ys)) else none
  | .str x, .str y => if x.length + y.length ≤ sizeLine then some (.str (x ++ y)) else none
  | _, _ => none
def rAddD (K : PySem.W.Frag) : R2 := fun x y H Q => rI0 (fun i j => .int (i + j)) x y H Q ∨ rCatZ K x y H Q ∨ rCat x y H Q ∨ ∃ i j, x = .str i ∧ y = .str j ∧ i.length + j.length ≤ sizeLine ∧ Q (.str (i ++ j)) H
theorem op_addD {X : Cx} : OpR X (binaryOp .Add) (rAddD X.K) := op_add.or (op_catZ.or (op_cat.or op_add_str))
theorem fresh_mu (wf : WfW W H) {p : Addr} (n : H p = none) : ¬ Mu W p := fun m => by
  obtain ⟨o, e⟩ := wf.dom p m
  rw [n] at e; cases e
theorem rq_lstH {v : V} {xs : List D} (r : Rq K W H v (.lst xs)) : ∃ a vs, v = .ref a ∧ H a = some (.lst vs) ∧ vs.length ≤ sizeLine ∧ Rps K W H vs xs := by
  cases r with
  | of r =>
    cases r with
    | lst n q z rs => exact ⟨_, _, rfl, q, z, rs⟩
  | lst n q z rs => exact ⟨_, _, rfl, q, z, rs⟩
theorem add_d : OpD K (rAddD K) D.add := fun W H v1 v2 d1 d2 d Q wf r1 r2 h k => by
  unfold D.add at h
  split at h
  · cases h
    exact .inl ⟨_, _, rq_int r1, rq_int r2, k _ H (.refl _) (.int _)⟩
  · rename_i xs ys
    by_cases c : xs.length + ys.length ≤ sizeLine
    · rw [if_pos c] at h
      cases h
      obtain ⟨a, vs, rfl, q1, z1, s1⟩ := rq_tup r1
      obtain ⟨b, ws, rfl, q2, z2, s2⟩ := rq_tup r2
      refine .inr (.inl ⟨a, b, vs, ws, rfl, rfl, q1.sqt, q2.sqt, by rw [s1.length, s2.length]; exact c, fun e => ?_, fun e1 e2 => ?_, fun e1 e2 p o hp ho => ?_⟩)
      · subst e
        cases s1
        exact k _ H (.refl _) (.tup q2 z2 s2)
      · subst e2
        cases s2
        refine k _ H (.refl _) (.tup q1 z1 ?_)
        rw [List.append_nil]; exact s1
      · have sm : Same H (upd H p (.frz o (.tup (vs ++ ws)))) := upd_Same hp
        exact k _ _ sm (.tup (.new ho) (by rw [List.length_append, s1.length, s2.length]; exact c) ((s1.append s2).stepE (.same sm)))
    · rw [if_neg c] at h; cases h
  · rename_i xs ys
    by_cases c : xs.length + ys.length ≤ sizeLine
    · rw [if_pos c] at h
      cases h
      obtain ⟨a, vs, rfl, q1, z1, s1⟩ := rq_lstH r1
      obtain ⟨b, ws, rfl, q2, z2, s2⟩ := rq_lstH r2
      refine .inr (.inr (.inl ⟨a, b, vs, ws, rfl, rfl, q1, q2, by rw [s1.length, s2.length]; exact c, fun p hp => ?_⟩))
      have sm : Same H (upd H p (.lst (vs ++ ws))) := upd_Same hp
      exact k _ _ sm (.lst (fresh_mu wf hp) upd_same (by rw [List.length_append, s1.length, s2.length]; exact c) ((s1.append s2).stepE (.same sm)))
    · rw [if_neg c] at h; cases h
  · rename_i x y
    by_cases c : x.length + y.length ≤ sizeLine
    · rw [if_pos c] at h
      cases h
      exact .inr (.inr (.inr ⟨x, y, rq_str r1, rq_str r2, c, k _ H (.refl _) (.str _)⟩))
    · rw [if_neg c] at h; cases h
  · cases h
def D.cat : D → D → Option D
  | .lst xs, .lst ys => if xs.length + ys.length ≤ sizeLine then some (.lst (xs ++ ys)) else none
  | _, _ => none
theorem cat_f : OpF K rCat D.cat := fun W H v1 v2 d1 d2 d Q wf r1 r2 h k => by
  unfold D.cat at h
  split at h
  · rename_i xs ys
    by_cases c : xs.length + ys.length ≤ sizeLine
    · rw [if_pos c] at h
      cases h
      obtain ⟨a, vs, rfl, q1, z1, s1⟩ := rq_lstH r1
      obtain ⟨b, ws, rfl, q2, z2, s2⟩ := rq_lstH r2
      exact ⟨a, b, vs, ws, rfl, rfl, q1, q2, by rw [s1.length, s2.length]; exact c, fun p hp => k p _ hp (by rw [List.length_append, s1.length, s2.length]; exact c) (s1.append s2)⟩
    · rw [if_neg c] at h; cases h
  · cases h
def D.isNon : D → Bool
  | .non => true
  | _ => false
def D.isN : D → D → Option D
  | x, .non => some (.bl x.isNon)
  | _, _ => none
def D.notN : D → D → Option D
  | x, .non => some (.bl (!x.isNon))
  | _, _ => none
theorem isN_v {v : V} {d : D} (r : Rq K W H v d) : decide (v = V.non) = d.isNon := by
  cases r with
  | of r => cases r <;> simp [D.isNon]
  | lst => simp [D.isNon]
  | dct => simp [D.isNon]
theorem isN_d : OpD K (fun x y H Q => y = .non ∧ Q (.bl (decide (x = .non))) H) D.isN := fun W H v1 v2 d1 d2 d Q wf r1 r2 h k => by
  unfold D.isN at h
  split at h
  · cases h
    exact ⟨rq_non r2, k _ H (.refl _) (by rw [isN_v r1]; exact .bl _)⟩
  · cases h
theorem notN_d : OpD K (fun x y H Q => y = .non ∧ Q (.bl (!decide (x = .non))) H) D.notN := fun W H v1 v2 d1 d2 d Q wf r1 r2 h k => by
  unfold D.notN at h
  split at h
  · cases h
    refine ⟨rq_non r2, k _ H (.refl _) ?_⟩
    rw [isN_v r1]
    exact .bl _
  · cases h

/-! ### == of data -/
mutual
def D.toP : D → PyData
  | .non => .none
  | .bl b => .bool b
  | .int i => .int i
  | .str x => .str x
  | .tup xs => .tuple (D.toPs xs)
  | .lst xs => .list (D.toPs xs)
  | .ty _ => .none
  | .ref _ => .none
  | .scr _ => .none
  | .dct _ _ => .none
def D.toPs : List D → List PyData
  | [] => []
  | x :: xs => x.toP :: D.toPs xs
end
mutual
/-- data to be compared: nested no deeper than n -/
def D.fit : D → Nat → Bool
  | .non, _ => true
  | .bl _, _ => true
  | .int _, _ => true
  | .str _, _ => true
  | .tup xs, n + 1 => D.fits xs n
  | .lst xs, n + 1 => D.fits xs n
  | _, _ => false
def D.fits : List D → Nat → Bool
  | [], _ => true
  | x :: xs, n => x.fit n && D.fits xs n
end
mutual
theorem fit_dp {v : V} : ∀ {d : D} {n : Nat}, d.fit n = true → Rp K W H v d → Dp K H v d.toP
  | .non, _, _, r => by cases r; exact .non
  | .bl b, _, _, r => by cases r; exact .bl b
  | .int i, _, _, r => by cases r; exact .int i
  | .str x, _, _, r => by cases r; exact .str x
  | .tup xs, n + 1, h, r => by
    cases r with
    | tup q z rs => exact .tup q.sqt (fits_dp (n := n) (by simpa [D.fit] using h) rs)
  | .lst xs, n + 1, h, r => by
    cases r with
    | lst m q z rs => exact .lst (.of q) (fits_dp (n := n) (by simpa [D.fit] using h) rs)
  | .tup xs, 0, h, _ => by simp [D.fit] at h
  | .lst xs, 0, h, _ => by simp [D.fit] at h
  | .ty _, _, h, _ => by simp [D.fit] at h
  | .ref _, _, h, _ => by simp [D.fit] at h
  | .scr _, _, h, _ => by simp [D.fit] at h
  | .dct _ _, _, h, _ => by simp [D.fit] at h
theorem fits_dp : ∀ {ds : List D} {vs : List V} {n : Nat}, D.fits ds n = true → Rps K W H vs ds → DpAll K H vs (D.toPs ds)
  | [], _, _, _, r => by cases r; exact .nil
  | d :: ds, _, n, h, r => by
    have h' : d.fit n = true ∧ D.fits ds n = true := by simpa [D.fits] using h
    cases r with
    | cons a b => exact .cons (fit_dp h'.1 a) (fits_dp h'.2 b)
end
theorem fit_dq {v : V} {d : D} {n : Nat} (h : d.fit n = true) (r : Rq K W H v d) : Dp K H v d.toP := by
  cases r with
  | of r => exact fit_dp h r
  | lst m q z rs =>
    cases n with
    | zero => simp [D.fit] at h
    | succ n => exact .lst (.of q) (fits_dp (n := n) (by simpa [D.fit] using h) rs)
  | dct => simp [D.fit] at h
mutual
theorem toP_plain : ∀ d : D, d.toP.plain = true
  | .non => rfl
  | .bl b => rfl
  | .int i => rfl
  | .str x => rfl
  | .tup xs => by simp only [D.toP, PyData.plain]; exact toPs_plain xs
  | .lst xs => by simp only [D.toP, PyData.plain]; exact toPs_plain xs
  | .ty _ => rfl
  | .ref _ => rfl
  | .scr _ => rfl
  | .dct _ _ => rfl
theorem toPs_plain : ∀ ds : List D, PyData.plainAll (D.toPs ds) = true
  | [] => rfl
  | d :: ds => by simp only [D.toPs, PyData.plainAll, toP_plain d, toPs_plain ds, Bool.and_self]
end
mutual
theorem fit_depth : ∀ {d : D} {n : Nat}, d.fit n = true → d.toP.depth ≤ n
  | .non, _, _ => by simp [D.toP, PyData.depth]
  | .bl b, _, _ => by simp [D.toP, PyData.depth]
  | .int i, _, _ => by simp [D.toP, PyData.depth]
  | .str x, _, _ => by simp [D.toP, PyData.depth]
  | .tup xs, n + 1, h => by
    have := fits_depth (ds := xs) (n := n) (by simpa [D.fit] using h)
    simp only [D.toP, PyData.depth]
    omega
  | .lst xs, n + 1, h => by
    have := fits_depth (ds := xs) (n := n) (by simpa [D.fit] using h)
    simp only [D.toP, PyData.depth]
    omega
  | .tup xs, 0, h => by simp [D.fit] at h
  | .lst xs, 0, h => by simp [D.fit] at h
  | .ty _, _, h => by simp [D.fit] at h
  | .ref _, _, h => by simp [D.fit] at h
  | .scr _, _, h => by simp [D.fit] at h
  | .dct _ _, _, h => by simp [D.fit] at h
theorem fits_depth : ∀ {ds : List D} {n : Nat}, D.fits ds n = true → PyData.depthAll (D.toPs ds) ≤ n
  | [], _, _ => by simp [D.toPs, PyData.depthAll]
  | d :: ds, n, h => by
    have h' : d.fit n = true ∧ D.fits ds n = true := by simpa [D.fits] using h
    have h1 := fit_depth h'.1
    have h2 := fits_depth h'.2
    simp only [D.toPs, PyData.depthAll]
    omega
end
def D.eqv (a b : D) : Bool := PyData.eqv a.toP b.toP
def D.eq (a b : D) : Option D := if (a.fit 60 && b.fit 60) = true then some (.bl (a.eqv b)) else none
def D.ne (a b : D) : Option D := if (a.fit 60 && b.fit 60) = true then some (.bl (!a.eqv b)) else none
def rEqP (K : PySem.W.Frag) : R2 := fun x y H Q => ∃ d e, Dp K H x d ∧ Dp K H y e ∧ d.plain = true ∧ e.plain = true ∧ d.depth ≤ 60 ∧ Q (.bl (PyData.eqv d e)) H
def rNeP (K : PySem.W.Frag) : R2 := fun x y H Q => ∃ d e, Dp K H x d ∧ Dp K H y e ∧ d.plain = true ∧ e.plain = true ∧ d.depth ≤ 60 ∧ Q (.bl (!PyData.eqv d e)) H
theorem op_eqP {X : Cx} (hu : X.A.units + 64 < cLine) : OpR X (compareOp .Eq) (rEqP X.K) := by
  intro pins s σ H x y v u Q I rx ry h
  obtain ⟨d, e, hd, he, sd, se, dd, q⟩ := h
  obtain ⟨as, r1⟩ := Dp.reads I d x v hd rx
  obtain ⟨bs, r2⟩ := Dp.reads I e y u he ry
  refine SeqAt.eq_plain r1 r2 sd se ?_ ⟨.bl _, H, I, rfl, q⟩
  have := Nat.min_le_left d.depth e.depth
  omega
theorem op_neP {X : Cx} (hu : X.A.units + 64 < cLine) : OpR X (compareOp .NotEq) (rNeP X.K) := by
  intro pins s σ H x y v u Q I rx ry h
  obtain ⟨d, e, hd, he, sd, se, dd, q⟩ := h
  obtain ⟨as, r1⟩ := Dp.reads I d x v hd rx
  obtain ⟨bs, r2⟩ := Dp.reads I e y u he ry
  refine SeqAt.ne_plain r1 r2 sd se ?_ ⟨.bl _, H, I, rfl, q⟩
  have := Nat.min_le_left d.depth e.depth
  omega
theorem eq_d : OpD K (rEqP K) D.eq := fun W H v1 v2 d1 d2 d Q wf r1 r2 h k => by
  unfold D.eq at h
  by_cases c : (d1.fit 60 && d2.fit 60) = true
  · rw [if_pos c] at h
    cases h
    have c' := Bool.and_eq_true_iff.mp c
    exact ⟨_, _, fit_dq c'.1 r1, fit_dq c'.2 r2, toP_plain _, toP_plain _, fit_depth c'.1, k _ H (.refl _) (.bl _)⟩
  · rw [if_neg c] at h; cases h
theorem ne_d : OpD K (rNeP K) D.ne := fun W H v1 v2 d1 d2 d Q wf r1 r2 h k => by
  unfold D.ne at h
  by_cases c : (d1.fit 60 && d2.fit 60) = true
  · rw [if_pos c] at h
    cases h
    have c' := Bool.and_eq_true_iff.mp c
    exact ⟨_, _, fit_dq c'.1 r1, fit_dq c'.2 r2, toP_plain _, toP_plain _, fit_depth c'.1, k _ H (.refl _) (.bl _)⟩
  · rw [if_neg c] at h; cases h
/-! ### in -/
def D.isIn (x y : D) : Option D := match y with
  | .lst ys => if (x.fit 50 && D.fits ys 50) = true then some (.bl (ys.any fun z => z.eqv x)) else none
  | .tup ys => if (x.fit 50 && D.fits ys 50) = true then some (.bl (ys.any fun z => z.eqv x)) else none
  | _ => none
def D.notIn (x y : D) : Option D := match y with
  | .lst ys => if (x.fit 50 && D.fits ys 50) = true then some (.bl (!ys.any fun z => z.eqv x)) else none
  | .tup ys => if (x.fit 50 && D.fits ys 50) = true then some (.bl (!ys.any fun z => z.eqv x)) else none
  | _ => none
def rInP (K : PySem.W.Frag) (neg : Bool) : R2 := fun x y H Q => ∃ d ds, Dp K H x d ∧ (Dp K H y (.list ds) ∨ Dp K H y (.tuple ds)) ∧ d.plain = true ∧ PyData.plainAll ds = true ∧ d.depth ≤ 50 ∧ Q (.bl (xor neg (ds.any fun z => PyData.eqv z d))) H
theorem op_inP {X : Cx} (hu : X.A.units + 64 < cLine) : OpR X (compareOp .In) (rInP X.K false) := by
  intro pins s σ H x y v u Q I rx ry h
  obtain ⟨d, ds, hd, he, sd, se, dd, q⟩ := h
  obtain ⟨as, r1⟩ := Dp.reads I d x v hd rx
  have m := Nat.min_le_right (PyData.depthAll ds) d.depth
  rcases he with he | he
  · obtain ⟨bs, r2⟩ := Dp.reads I _ y u he ry
    exact SeqAt.in_list_data r2 r1 se sd (by omega) ⟨.bl _, H, I, rfl, by simpa using q⟩
  · obtain ⟨bs, r2⟩ := Dp.reads I _ y u he ry
    exact SeqAt.in_tuple_data r2 r1 se sd (by omega) ⟨.bl _, H, I, rfl, by simpa using q⟩
theorem op_notInP {X : Cx} (hu : X.A.units + 64 < cLine) : OpR X (compareOp .NotIn) (rInP X.K true) := by
  intro pins s σ H x y v u Q I rx ry h
  obtain ⟨d, ds, hd, he, sd, se, dd, q⟩ := h
  obtain ⟨as, r1⟩ := Dp.reads I d x v hd rx
  have m := Nat.min_le_right (PyData.depthAll ds) d.depth
  rcases he with he | he
  · obtain ⟨bs, r2⟩ := Dp.reads I _ y u he ry
    exact SeqAt.notIn_list_data r2 r1 se sd (by omega) ⟨.bl _, H, I, rfl, by simpa using q⟩
  · obtain ⟨bs, r2⟩ := Dp.reads I _ y u he ry
    exact SeqAt.notIn_tuple_data r2 r1 se sd (by omega) ⟨.bl _, H, I, rfl, by simpa using q⟩
theorem toPs_map : ∀ ds : List D, D.toPs ds = ds.map D.toP
  | [] => rfl
  | d :: ds => by simp only [D.toPs, List.map_cons, toPs_map ds]
theorem in_d (neg : Bool) {g : D → D → Option D} (hg : ∀ x y d, g x y = some d → ∃ ys, (y = .lst ys ∨ y = .tup ys) ∧ x.fit 50 = true ∧ D.fits ys 50 = true ∧ d = .bl (xor neg (ys.any fun z => z.eqv x))) : OpD K (rInP K neg) g := fun W H v1 v2 d1 d2 d Q wf r1 r2 h k => by
  obtain ⟨ys, e, f1, f2, rfl⟩ := hg _ _ _ h
  refine ⟨d1.toP, D.toPs ys, fit_dq f1 r1, ?_, toP_plain _, toPs_plain _, fit_depth f1, k _ H (.refl _) ?_⟩
  · rcases e with rfl | rfl
    · obtain ⟨a, vs, rfl, q, z, rs⟩ := rq_lstH r2
      exact .inl (.lst (.of q) (fits_dp f2 rs))
    · obtain ⟨a, vs, rfl, q, z, rs⟩ := rq_tup r2
      exact .inr (.tup q.sqt (fits_dp f2 rs))
  · rw [toPs_map, List.any_map]
    exact .bl _
theorem isIn_d : OpD K (rInP K false) D.isIn := in_d false fun x y d h => by
  unfold D.isIn at h
  split at h
  · rename_i ys
    by_cases c : (x.fit 50 && D.fits ys 50) = true
    · rw [if_pos c] at h; cases h
      have c' := Bool.and_eq_true_iff.mp c
      exact ⟨ys, .inl rfl, c'.1, c'.2, by simp⟩
    · rw [if_neg c] at h; cases h
  · rename_i ys
    by_cases c : (x.fit 50 && D.fits ys 50) = true
    · rw [if_pos c] at h; cases h
      have c' := Bool.and_eq_true_iff.mp c
      exact ⟨ys, .inr rfl, c'.1, c'.2, by simp⟩
    · rw [if_neg c] at h; cases h
  · cases h
theorem notIn_d : OpD K (rInP K true) D.notIn := in_d true fun x y d h => by
  unfold D.notIn at h
  split at h
  · rename_i ys
    by_cases c : (x.fit 50 && D.fits ys 50) = true
    · rw [if_pos c] at h; cases h
      have c' := Bool.and_eq_true_iff.mp c
      exact ⟨ys, .inl rfl, c'.1, c'.2, by simp⟩
    · rw [if_neg c] at h; cases h
  · rename_i ys
    by_cases c : (x.fit 50 && D.fits ys 50) = true
    · rw [if_pos c] at h; cases h
      have c' := Bool.and_eq_true_iff.mp c
      exact ⟨ys, .inr rfl, c'.1, c'.2, by simp⟩
    · rw [if_neg c] at h; cases h
  · cases h
end
/-- -e of an int -/
def D.neg : D → Option D
  | .int i => some (.int (-i))
  | _ => none
def eUn (g : D → Option D) (f : Ex) : Ex := fun ρ S => (f ρ S).bind fun p => (g p.1).map fun z => (z, p.2)
theorem e_neg {X : Cx} {a : Expr} {f : Ex} {pos : Pos} (h : B X a f) : E X (.UnaryOp .USub a pos) (eUn D.neg f) := pe_imp (pe_un un_neg h) fun σ H Q ⟨W, ρ, S, d, S', rl, hf, k⟩ => by
  unfold eUn at hf
  cases e1 : f ρ S with
  | none => rw [e1] at hf; cases hf
  | some p =>
    rw [e1, Option.bind_some] at hf
    obtain ⟨x, S1⟩ := p
    cases x with
    | int i =>
      cases hf
      exact ⟨W, ρ, S, _, _, rl, e1, fun v H1 s1 st1 r1 => ⟨i, rq_int r1, k _ H1 s1 st1 (.int _)⟩⟩
    | _ => cases hf
end DL

set_option Elab.async false
set_option linter.all false
set_option maxRecDepth 100000
namespace DL
open PySem PySem.Spec PyProof.Rows L2

/-! ## 12. built-in functions -/
section
variable {K : Fw} {W : Wd} {H : Hp}
theorem rqs1 {vs : List V} {d : D} (r : Rqs K W H vs [d]) : ∃ v, vs = [v] ∧ Rq K W H v d := by
  cases r with
  | cons a b => cases b; exact ⟨_, rfl, a⟩
theorem rqs2 {vs : List V} {d d' : D} (r : Rqs K W H vs [d, d']) : ∃ v v', vs = [v, v'] ∧ Rq K W H v d ∧ Rq K W H v' d' := by
  cases r with
  | cons a b =>
    cases b with
    | cons a' b => cases b; exact ⟨_, _, rfl, a, a'⟩
def gGcd : List D → Option D
  | [.int a, .int b] => some (.int ((Nat.gcd a.natAbs b.natAbs : Nat) : Int))
  | _ => none
theorem gcd_d : CallD K rGcd gGcd := fun W H vs ds d Q wf r h k => by
  unfold gGcd at h
  split at h
  · cases h
    obtain ⟨v, v', rfl, r1, r2⟩ := rqs2 r
    exact ⟨_, _, by rw [rq_int r1, rq_int r2], k _ H (.refl _) (.int _)⟩
  · cases h
def gAbs : List D → Option D
  | [.int i] => some (.int (if i < 0 then -i else i))
  | _ => none
theorem abs_d : CallD K (fun xs H Q => ∃ i, xs = [.int i] ∧ Q (.int (if i < 0 then -i else i)) H) gAbs := fun W H vs ds d Q wf r h k => by
  unfold gAbs at h
  split at h
  · cases h
    obtain ⟨v, rfl, r1⟩ := rqs1 r
    exact ⟨_, by rw [rq_int r1], k _ H (.refl _) (.int _)⟩
  · cases h
def gMax2 : List D → Option D
  | [.int i, .int j] => some (.int (if j > i then j else i))
  | _ => none
theorem max2_d : CallD K (fun xs H Q => ∃ i j, xs = [.int i, .int j] ∧ Q (.int (if j > i then j else i)) H) gMax2 := fun W H vs ds d Q wf r h k => by
  unfold gMax2 at h
  split at h
  · cases h
    obtain ⟨v, v', rfl, r1, r2⟩ := rqs2 r
    exact ⟨_, _, by rw [rq_int r1, rq_int r2], k _ H (.refl _) (.int _)⟩
  · cases h
def gMin2 : List D → Option D
  | [.int i, .int j] => some (.int (if j < i then j else i))
  | _ => none
theorem min2_d : CallD K (fun xs H Q => ∃ i j, xs = [.int i, .int j] ∧ Q (.int (if j < i then j else i)) H) gMin2 := fun W H vs ds d Q wf r h k => by
  unfold gMin2 at h
  split at h
  · cases h
    obtain ⟨v, v', rfl, r1, r2⟩ := rqs2 r
    exact ⟨_, _, by rw [rq_int r1, rq_int r2], k _ H (.refl _) (.int _)⟩
  · cases h
def gInt : List D → Option D
  | [.int i] => some (.int i)
  | [.bl b] => some (.int (if b then 1 else 0))
  | _ => none
theorem int_c : CallD K (fun xs H Q => (∃ i, xs = [.int i] ∧ Q (.int i) H) ∨ ∃ k, xs = [.bl k] ∧ Q (.int (if k then 1 else 0)) H) gInt := fun W H vs ds d Q wf r h k => by
  unfold gInt at h
  split at h
  · cases h
    obtain ⟨v, rfl, r1⟩ := rqs1 r
    exact .inl ⟨_, by rw [rq_int r1], k _ H (.refl _) (.int _)⟩
  · cases h
    obtain ⟨v, rfl, r1⟩ := rqs1 r
    exact .inr ⟨_, by rw [rp_bl r1], k _ H (.refl _) (.int _)⟩
  · cases h
def gLen : List D → Option D
  | [.lst xs] => some (.int xs.length)
  | [.tup xs] => some (.int xs.length)
  | [.str x] => if x.length ≤ sizeLine then some (.int x.length) else none
  | _ => none
theorem len_d : CallD K (fun xs H Q => ∃ x n, xs = [x] ∧ LenV K x H n ∧ Q (.int (n : Nat)) H) gLen := fun W H vs ds d Q wf r h k => by
  unfold gLen at h
  split at h
  · cases h
    obtain ⟨v, rfl, r1⟩ := rqs1 r
    obtain ⟨a, ws, rfl, q, z, rs⟩ := rq_lstH r1
    exact ⟨_, ws.length, rfl, .inl ⟨_, .of q, rfl⟩, k _ H (.refl _) (by rw [rs.length]; exact .int _)⟩
  · cases h
    obtain ⟨v, rfl, r1⟩ := rqs1 r
    obtain ⟨a, ws, rfl, q, z, rs⟩ := rq_tup r1
    exact ⟨_, ws.length, rfl, .inr ⟨_, q.sqt, rfl⟩, k _ H (.refl _) (by rw [rs.length]; exact .int _)⟩
  · rename_i x
    by_cases z : x.length ≤ sizeLine
    · rw [if_pos z] at h; cases h
      obtain ⟨v, rfl, r1⟩ := rqs1 r
      exact ⟨.str x, x.length, by rw [rq_str r1], ⟨z, rfl⟩, k _ H (.refl _) (.int _)⟩
    · rw [if_neg z] at h; cases h
  · cases h
/-- all are ints -/
def intsOf : List D → Option (List Int)
  | [] => some []
  | .int i :: r => (intsOf r).map (i :: ·)
  | _ => none
theorem intsOf_rps : ∀ {ds : List D} {vs : List V} {ns : List Int}, intsOf ds = some ns → Rps K W H vs ds → vs = ns.map V.int
  | [], vs, ns, h, r => by cases h; cases r; rfl
  | .int i :: ds, vs, ns, h, r => by
    simp only [intsOf] at h
    obtain ⟨ms, h1, rfl⟩ := Option.map_eq_some_iff.mp h
    cases r with
    | cons a b => rw [rp_int a, intsOf_rps h1 b]; rfl
  | .non :: _, _, _, h, _ => by simp [intsOf] at h
  | .bl _ :: _, _, _, h, _ => by simp [intsOf] at h
  | .str _ :: _, _, _, h, _ => by simp [intsOf] at h
  | .ty _ :: _, _, _, h, _ => by simp [intsOf] at h
  | .tup _ :: _, _, _, h, _ => by simp [intsOf] at h
  | .lst _ :: _, _, _, h, _ => by simp [intsOf] at h
  | .ref _ :: _, _, _, h, _ => by simp [intsOf] at h
  | .scr _ :: _, _, _, h, _ => by simp [intsOf] at h
  | .dct _ _ :: _, _, _, h, _ => by simp [intsOf] at h
theorem intsOf_map : ∀ ns : List Int, intsOf (ns.map D.int) = some ns
  | [] => rfl
  | n :: ns => by simp [intsOf, intsOf_map ns]
/-- all are truth values -/
def boolsOf : List D → Option (List Bool)
  | [] => some []
  | .bl i :: r => (boolsOf r).map (i :: ·)
  | _ => none
theorem boolsOf_rps : ∀ {ds : List D} {vs : List V} {ns : List Bool}, boolsOf ds = some ns → Rps K W H vs ds → vs = ns.map V.bl
  | [], vs, ns, h, r => by cases h; cases r; rfl
  | .bl i :: ds, vs, ns, h, r => by
    simp only [boolsOf] at h
    obtain ⟨ms, h1, rfl⟩ := Option.map_eq_some_iff.mp h
    cases r with
    | cons a b => rw [rp_bl (.of a), boolsOf_rps h1 b]; rfl
  | .non :: _, _, _, h, _ => by simp [boolsOf] at h
  | .int _ :: _, _, _, h, _ => by simp [boolsOf] at h
  | .str _ :: _, _, _, h, _ => by simp [boolsOf] at h
  | .ty _ :: _, _, _, h, _ => by simp [boolsOf] at h
  | .tup _ :: _, _, _, h, _ => by simp [boolsOf] at h
  | .lst _ :: _, _, _, h, _ => by simp [boolsOf] at h
  | .ref _ :: _, _, _, h, _ => by simp [boolsOf] at h
  | .scr _ :: _, _, _, h, _ => by simp [boolsOf] at h
  | .dct _ _ :: _, _, _, h, _ => by simp [boolsOf] at h
theorem boolsOf_map : ∀ ns : List Bool, boolsOf (ns.map D.bl) = some ns
  | [] => rfl
  | n :: ns => by simp [boolsOf, boolsOf_map ns]
def gSum : List D → Option D
  | [.lst xs] => (intsOf xs).map fun ns => .int ns.sum
  | _ => none
theorem sum_d : CallD K (rSum K) gSum := fun W H vs ds d Q wf r h k => by
  unfold gSum at h
  split at h
  · obtain ⟨ns, e1, rfl⟩ := Option.map_eq_some_iff.mp h
    obtain ⟨v, rfl, r1⟩ := rqs1 r
    obtain ⟨a, ws, rfl, q, z, rs⟩ := rq_lstH r1
    exact ⟨a, ns, rfl, by rw [← intsOf_rps e1 rs]; exact .of q, k _ H (.refl _) (.int _)⟩
  · cases h
def gAll : List D → Option D
  | [.lst xs] => (boolsOf xs).map fun ns => .bl (ns.all id)
  | _ => none
theorem all_d : CallD K (rAll K) gAll := fun W H vs ds d Q wf r h k => by
  unfold gAll at h
  split at h
  · obtain ⟨ns, e1, rfl⟩ := Option.map_eq_some_iff.mp h
    obtain ⟨v, rfl, r1⟩ := rqs1 r
    obtain ⟨a, ws, rfl, q, z, rs⟩ := rq_lstH r1
    exact ⟨a, ns, rfl, by rw [← boolsOf_rps e1 rs]; exact .of q, k _ H (.refl _) (.bl _)⟩
  · cases h
def gAny : List D → Option D
  | [.lst xs] => (boolsOf xs).map fun ns => .bl (ns.any id)
  | _ => none
theorem any_d : CallD K (rAny K) gAny := fun W H vs ds d Q wf r h k => by
  unfold gAny at h
  split at h
  · obtain ⟨ns, e1, rfl⟩ := Option.map_eq_some_iff.mp h
    obtain ⟨v, rfl, r1⟩ := rqs1 r
    obtain ⟨a, ws, rfl, q, z, rs⟩ := rq_lstH r1
    exact ⟨a, ns, rfl, by rw [← boolsOf_rps e1 rs]; exact .of q, k _ H (.refl _) (.bl _)⟩
  · cases h
def gTuple : List D → Option D
  | [.lst xs] => some (.tup xs)
  | [.tup xs] => some (.tup xs)
  | _ => none
theorem tuple_d : CallD K (rTupleZ K) gTuple := fun W H vs ds d Q wf r h k => by
  unfold gTuple at h
  split at h
  · cases h
    obtain ⟨v, rfl, r1⟩ := rqs1 r
    obtain ⟨a, ws, rfl, q, z, rs⟩ := rq_lstH r1
    refine ⟨a, ws, rfl, .inl ⟨.of q, fun l o hl ho => ?_⟩⟩
    have sm : Same H (upd H l (.frz o (.tup ws))) := upd_Same hl
    exact k _ _ sm (.tup (.new ho) z (rs.stepE (.same sm)))
  · cases h
    obtain ⟨v, rfl, r1⟩ := rqs1 r
    obtain ⟨a, ws, rfl, q, z, rs⟩ := rq_tup r1
    exact ⟨a, ws, rfl, .inr ⟨q.sqt, k _ H (.refl _) (.tup q z rs)⟩⟩
  · cases h
def gList : List D → Option D
  | [.lst xs] => some (.lst xs)
  | [.tup xs] => some (.lst xs)
  | _ => none
theorem list_f : CallF K (fun xs H Q => ∃ p ys, xs = [.ref p] ∧ (SqL K H p ys ∨ SqT K H p ys) ∧ ∀ l, H l = none → Q (.ref l) (upd H l (.lst ys))) gList := fun W H vs ds d Q wf r h k => by
  unfold gList at h
  split at h
  · cases h
    obtain ⟨v, rfl, r1⟩ := rqs1 r
    obtain ⟨a, ws, rfl, q, z, rs⟩ := rq_lstH r1
    exact ⟨a, ws, rfl, .inl (.of q), fun l hl => k l _ hl z rs⟩
  · cases h
    obtain ⟨v, rfl, r1⟩ := rqs1 r
    obtain ⟨a, ws, rfl, q, z, rs⟩ := rq_tup r1
    exact ⟨a, ws, rfl, .inr q.sqt, fun l hl => k l _ hl z rs⟩
  · cases h
/-! isinstance -/
def D.isA : D → String → Option Bool
  | .non, n => kitB "NoneType" n
  | .bl _, n => kitB "bool" n
  | .int _, n => kitB "int" n
  | .str _, n => kitB "str" n
  | .tup _, n => kitB "tuple" n
  | .lst _, n => kitB "list" n
  | .dct _ _, n => kitB "dict" n
  | _, _ => none
theorem sqt_tyx {a : Addr} {vs : List V} (h : SqT K H a vs) : TyX K H (.ref a) (.type "tuple") := by
  rcases h with (h | ⟨o, h⟩) | ⟨o, its, n, h, hc, _⟩
  · exact .base (.tup h)
  · exact .fTuple h
  · exact .kTuple h hc
def gIsi : List D → Option D
  | [d, .ty n] => (d.isA n).map .bl
  | _ => none
theorem isi_d : CallD K (rIsi K) gIsi := fun W H vs ds d Q wf r h k => by
  unfold gIsi at h
  split at h
  · rename_i d1 n
    obtain ⟨b, e1, rfl⟩ := Option.map_eq_some_iff.mp h
    obtain ⟨v, v', rfl, r1, r2⟩ := rqs2 r
    have fin : ∀ {T : String}, TyX K H v (.type T) → kitB T n = some b → rIsi K [v, v'] H Q := fun t e => ⟨v, v', _, _, b, rfl, by rw [rq_ty r2]; exact .ty n, t, kit_ty e, k _ H (.refl _) (.bl _)⟩
    cases r1 with
    | of r1 =>
      cases r1 with
      | non => exact fin (.base .non) e1
      | bl b => exact fin (.base (.bl b)) e1
      | int i => exact fin (.base (.int i)) e1
      | str x => exact fin (.base (.str x)) e1
      | tup q z rs => exact fin (sqt_tyx q.sqt) e1
      | lst n q z rs => exact fin (.base (.lst q)) e1
      | dct n q z rs => exact fin (.base (.dK q)) e1
      | _ => cases e1
    | lst n q z rs => exact fin (.base (.lst q)) e1
    | dct n q z rs => exact fin (.base (.dK q)) e1
  · cases h
/-! sorted -/
def D.le' (a b : D) : Bool := !PySem.W.dataLt b.toP a.toP
def D.neTup : D → Bool
  | .tup (_ :: _) => true
  | _ => false
def D.plainKey : D → Bool
  | .bl _ => true
  | .int _ => true
  | .str _ => true
  | .lst _ => true
  | _ => false
def canSort (xs : List D) : Bool := xs.all (fun x => x.fit 40) && (xs.all fun x => xs.all fun y => PySem.W.alike x.toP y.toP) && (xs.all D.neTup || xs.all D.plainKey)
def gSorted : List D → Option D
  | [.lst xs] => if canSort xs = true then some (.lst (xs.mergeSort D.le')) else none
  | [.tup xs] => if canSort xs = true then some (.lst (xs.mergeSort D.le')) else none
  | _ => none
end
end DL
namespace DL
open PySem PySem.W PySem.Calls PyProof.Rows
section
variable {P : Program} {w : World} {A : Around} {E : Value → Shared → Prop} {s : Shared}
/-- sorted(x), x a list or a tuple of data: a new list at p, all else as it was -/
theorem sorted_seq (k : Kd) {β : Type} {F : Value → β → Prop} {enc : β → PyData} {vs : List Value} {bs : List β} {a : Addr} {Q : Value → Shared → Prop} (has : k.Has s.heap a vs.toArray) (each : EachIs F vs bs) (rd : EachIs (fun v b => ∃ as, Reads s.heap v (enc b) as) vs bs)
    (alike : AllAlike (bs.map enc)) (able : Sortable (bs.map enc)) (small : bs.length ≤ sizeLine) (room : ∀ b, b ∈ bs → A.units + 2 + (enc b).depth < cLine)
    (fin : ∀ (h1 h' : Heap) (c : Nat) (out : List Value), (∀ b o, s.heap.get? b = some o → h1.get? b = some o) → (∀ b o, h1.get? b = some o → h'.get? b = some o) → h'.get? h1.objs.size = some (seqObj "list" out.toArray c) → EachIs F out (bs.mergeSort (dataLe false enc)) → Q (.ref h1.objs.size) { s with heap := h' }) :
    wpAny (model P w) A (call (.builtin "sorted") [.ref a]) Q E s := by
  have len : vs.length ≤ sizeLine := by rw [each.length]; exact small
  have src : ∃ T o n, (T = "list" ∨ T = "tuple") ∧ s.heap.get? a = some o ∧ o.cls = .type T ∧ o.data = .seq vs.toArray n := match k, has with
    | .l, ⟨o, e, c, n, d⟩ => ⟨_, o, n, .inl rfl, e, c, d⟩
    | .t, ⟨o, e, c, n, d⟩ => ⟨_, o, n, .inr rfl, e, c, d⟩
  obtain ⟨T, o, n, hT, e0, c0, d0⟩ := src
  refine call_function_entry kind_sorted plain_sorted entry_sorted (args_sorted1 _) ?_
  unfold Builtin.«sorted»
  refine wpAny_bind (m := checkCount "sorted" 1 1 _) (wpAny_pure (wpAny_bind (wpAny_collect_seq a hT e0 c0 d0 (fun h1 old => wpAny_bind (wpAny_newList ?_ len)) (by simpa using len))))
  have at_ : (h1.push (seqObj "list" vs.toArray 0)).get? h1.objs.size = some (seqObj "list" vs.toArray 0) := Heap.get?_push_size _ rfl
  have mid : ∀ b o, s.heap.get? b = some o → (sortingHeap (h1.push (seqObj "list" vs.toArray 0)) h1.objs.size vs).get? b = some o := fun b o q => sortingHeap_old (Nat.ne_of_lt (Heap.lt_size (old b o q))) (Heap.get?_push_of_some _ (old b o q))
  have rd' : EachIs (fun v b => ∃ as, Reads (sortingHeap (h1.push (seqObj "list" vs.toArray 0)) h1.objs.size vs) v (enc b) as) vs bs := rd.mono fun _ _ ⟨as, r⟩ => ⟨as, PyProof.Rows.Reads.keeps mid r⟩
  obtain ⟨c, there⟩ := sortedHeap_at (out := (sortVals (dataKind (sortingHeap (h1.push (seqObj "list" vs.toArray 0)) h1.objs.size vs) (bs.map enc)) false vs vs).toArray) at_
  have S := SortsAt.data (prog := P) (w := w) (A := A.in1.in1) (s := { s with heap := sortingHeap (h1.push (seqObj "list" vs.toArray 0)) h1.objs.size vs }) (each_map (R := fun v d => ∃ as, Reads (sortingHeap (h1.push (seqObj "list" vs.toArray 0)) h1.objs.size vs) v d as) enc rd') alike able (bound_map room)
  refine wpAny_bind (wpAny_holding (wpAny_call_entry slot_list_sort ⟨_, at_, rfl⟩ entry_list_sort (list_sort_vals (s := { s with heap := h1.push (seqObj "list" vs.toArray 0) }) at_ S len ⟨_, rfl, wpAny_pure ⟨_, rfl, ?_⟩⟩) (args_list_sort _)))
  refine fin h1 _ c _ old (fun b o q => ?_) there (sortVals_data false each rd' alike)
  have lt := Heap.lt_size q
  exact (sortedHeap_old (Nat.ne_of_lt lt) (by rw [size_push']; exact Nat.lt_succ_of_lt lt)).trans (Heap.get?_push_of_some _ q)
end
end DL
namespace DL
open PySem PySem.Spec PyProof.Rows L2
/-- sorted(x), x a list or a tuple of data -/
def rSortedD (K : PySem.W.Frag) : List V → Hp → VK → Prop := fun xs H Q => ∃ (a : Addr) (vs : List V) (ps : List PyData), xs = [.ref a] ∧ (SqL K H a vs ∨ SqT K H a vs) ∧ DpAll K H vs ps ∧ PySem.W.AllAlike ps ∧ PySem.W.Sortable ps ∧ (∀ p ∈ ps, p.depth ≤ 40) ∧ vs.length ≤ sizeLine ∧
  ∀ p, H p = none → Q (.ref p) (upd H p (.lst (((vs.zip ps).mergeSort (PySem.W.dataLe false (·.2))).map (·.1))))
section
variable {X : Cx}
theorem each_of {α β γ : Type} {F : α → β → Prop} : ∀ {xs : List α} {us : List β}, Paired F xs us → ∀ {ps : List γ}, xs.length = ps.length → PySem.W.EachIs (fun u (b : α × γ) => F b.1 u) us (xs.zip ps)
  | _, _, .nil, [], _ => .nil
  | _, _, .cons a r, p :: ps, h => .cons a (each_of r (by simpa using h))
theorem dp_each {pins : List (Addr × Obj)} {σ : L2.St} {H : Hp} {s : Shared} (I : Inv X pins σ H s) : ∀ {vs : List V} {us : List Value} {ps : List PyData}, Vals vs us → DpAll X.K H vs ps → PySem.W.EachIs (fun u (b : V × PyData) => ∃ as, Reads s.heap u b.2 as) us (vs.zip ps)
  | _, _, _, .nil, .nil => .nil
  | _, _, _, .cons a r, .cons d t => .cons (Dp.reads I _ _ _ d a) (dp_each I r t)
theorem dpAll_length {K : PySem.W.Frag} {H : Hp} : ∀ {vs : List V} {ps : List PyData}, DpAll K H vs ps → vs.length = ps.length
  | _, _, .nil => rfl
  | _, _, .cons _ t => by simp [dpAll_length t]
theorem each_vals {γ : Type} : ∀ {us : List Value} {bs : List (V × γ)}, PySem.W.EachIs (fun u (b : V × γ) => RelV b.1 u) us bs → Vals (bs.map (·.1)) us
  | _, _, .nil => .nil
  | _, _, .cons a r => .cons a (each_vals r)
theorem zip_snd {α β : Type} : ∀ {xs : List α} {ys : List β}, xs.length = ys.length → (xs.zip ys).map (·.2) = ys
  | [], [], _ => rfl
  | _ :: xs, _ :: ys, h => by simp [zip_snd (xs := xs) (ys := ys) (by simpa using h)]
theorem cr_sortedD (hu : X.A.units + 64 < cLine) : CallR X (.builtin "sorted") (rSortedD X.K) := by
  rintro pins s σ H _ us Q I r ⟨a, vs, ps, rfl, src, dp, alike, able, deep, small, q⟩
  obtain ⟨_, rfl, e⟩ := vals1 r
  cases e
  have len := dpAll_length dp
  have snd : (vs.zip ps).map (·.2) = ps := zip_snd len
  have short : (vs.zip ps).length ≤ sizeLine := by rw [List.length_zip]; exact Nat.le_trans (Nat.min_le_left _ _) small
  obtain ⟨k, sq⟩ : ∃ k : Kd, k.Sq X.K H a vs := src.elim (fun x => ⟨.l, x⟩) fun x => ⟨.t, x⟩
  obtain ⟨its, rv, has⟩ := k.told I sq
  refine sorted_seq k (enc := fun b : V × PyData => b.2) has (each_of rv len) (dp_each I rv dp) (by rw [snd]; exact alike) (by rw [snd]; exact able) short (fun b hb => ?_) fun h1 h' c out old1 old2 at_ each => ?_
  · have := deep b.2 (List.of_mem_zip hb).2
    omega
  · have J : Inv X pins σ H { s with heap := h1 } := I.kept (t' := s.toks) old1
    refine ⟨.ref h1.objs.size, _, J.laid (t' := s.toks) (o := .lst (((vs.zip ps).mergeSort (PySem.W.dataLe false (·.2))).map (·.1))) old2 (Nat.le_refl _) ⟨?_, out, c, each_vals each, at_⟩, rfl, q _ (J.hok.fresh (Nat.le_refl _))⟩
    rw [List.length_map, List.length_mergeSort]
    exact short
end
section
variable {K : Fw} {W : Wd} {H : Hp}
theorem rps_zip : ∀ {vs : List V} {xs : List D}, Rps K W H vs xs → ∀ p ∈ vs.zip xs, Rp K W H p.1 p.2
  | _, _, .nil, p, h => by simp at h
  | _, _, .cons a b, p, h => by
    rw [List.zip_cons_cons, List.mem_cons] at h
    rcases h with rfl | h
    · exact a
    · exact rps_zip b p h
theorem rps_pairs : ∀ {l : List (V × D)}, (∀ p ∈ l, Rp K W H p.1 p.2) → Rps K W H (l.map (·.1)) (l.map (·.2))
  | [], _ => .nil
  | p :: l, h => .cons (h p List.mem_cons_self) (rps_pairs fun q hq => h q (List.mem_cons_of_mem _ hq))
theorem zip_map_snd {α β γ : Type} (f : β → γ) : ∀ (xs : List α) (ys : List β), xs.zip (ys.map f) = (xs.zip ys).map fun p => (p.1, f p.2)
  | [], _ => by simp
  | _ :: _, [] => by simp
  | x :: xs, y :: ys => by simp [zip_map_snd f xs ys]
theorem sort_pairs (vs : List V) (xs : List D) (h : vs.length = xs.length) :
    ((vs.zip (xs.map D.toP)).mergeSort (PySem.W.dataLe false (·.2))).map (·.1) = ((vs.zip xs).mergeSort fun p q => D.le' p.2 q.2).map (·.1) ∧ xs.mergeSort D.le' = ((vs.zip xs).mergeSort fun p q => D.le' p.2 q.2).map (·.2) := by
  constructor
  · rw [zip_map_snd, ← List.map_mergeSort (r := fun p q => D.le' p.2 q.2) (fun a _ b _ => rfl), List.map_map]
    rfl
  · rw [List.map_mergeSort (s := D.le') (fun a _ b _ => rfl), zip_snd h]
theorem neTup_toP {d : D} (h : d.neTup = true) : ∃ x r, d.toP = .tuple (x :: r) := by
  cases d with
  | tup xs =>
    cases xs with
    | nil => cases h
    | cons x xs => exact ⟨_, _, rfl⟩
  | _ => cases h
theorem plainKey_toP {d : D} (h : d.plainKey = true) : d.toP ≠ .none ∧ ∀ xs, d.toP ≠ .tuple xs := by
  cases d with
  | bl b => exact ⟨(fun z => nomatch z), (fun _ z => nomatch z)⟩
  | int b => exact ⟨(fun z => nomatch z), (fun _ z => nomatch z)⟩
  | str b => exact ⟨(fun z => nomatch z), (fun _ z => nomatch z)⟩
  | lst b => exact ⟨(fun z => nomatch z), (fun _ z => nomatch z)⟩
  | _ => cases h
theorem sorted_at {xs : List D} {a : Addr} {vs : List V} {Q : VK} (hs : SqL K H a vs ∨ SqT K H a vs) (z : vs.length ≤ sizeLine) (rs : Rps K W H vs xs) (c : canSort xs = true) (k : NewOk K W H Q (.lst (xs.mergeSort D.le'))) : rSortedD K [.ref a] H Q := by
  unfold canSort at c
  simp only [Bool.and_eq_true, List.all_eq_true] at c
  obtain ⟨⟨c1, c2⟩, c3⟩ := c
  have hfit : D.fits xs 40 = true := by
    have : ∀ ys : List D, (∀ x ∈ ys, x.fit 40 = true) → D.fits ys 40 = true := fun ys => by
      induction ys with
      | nil => intro _; rfl
      | cons y ys ih => intro h; simp only [D.fits, h y List.mem_cons_self, ih fun x hx => h x (List.mem_cons_of_mem _ hx), Bool.and_self]
    exact this xs c1
  obtain ⟨q1, q2⟩ := sort_pairs vs xs rs.length
  refine ⟨a, vs, D.toPs xs, rfl, hs, fits_dp hfit rs, ?_, ?_, ?_, z, fun p hp => ?_⟩
  · rw [toPs_map]
    intro d hd d' hd'
    obtain ⟨x, hx, rfl⟩ := List.mem_map.mp hd
    obtain ⟨y, hy, rfl⟩ := List.mem_map.mp hd'
    exact c2 x hx y hy
  · rw [toPs_map]
    rcases Bool.or_eq_true_iff.mp c3 with c3 | c3
    · refine .inl fun d hd => ?_
      obtain ⟨x, hx, rfl⟩ := List.mem_map.mp hd
      exact neTup_toP (List.all_eq_true.mp c3 x hx)
    · refine .inr fun d hd => ?_
      obtain ⟨x, hx, rfl⟩ := List.mem_map.mp hd
      exact plainKey_toP (List.all_eq_true.mp c3 x hx)
  · rw [toPs_map]
    intro d hd
    obtain ⟨x, hx, rfl⟩ := List.mem_map.mp hd
    exact fit_depth (c1 x hx)
  · rw [toPs_map, q1]
    have rs' : Rps K W H (((vs.zip xs).mergeSort fun p q => D.le' p.2 q.2).map (·.1)) (xs.mergeSort D.le') := by
      rw [q2]
      exact rps_pairs fun p hp => rps_zip rs p ((List.mergeSort_perm _ _).mem_iff.mp hp)
    refine k p _ hp ?_ rs'
    rw [List.length_map, List.length_mergeSort, List.length_zip]
    exact Nat.le_trans (Nat.min_le_left _ _) z
theorem sorted_f : CallF K (rSortedD K) gSorted := fun W H vs ds d Q wf r h k => by
  unfold gSorted at h
  split at h
  · rename_i xs
    by_cases c : canSort xs = true
    · rw [if_pos c] at h; cases h
      obtain ⟨v, rfl, r1⟩ := rqs1 r
      obtain ⟨a, ws, rfl, q, z, rs⟩ := rq_lstH r1
      exact sorted_at (.inl (.of q)) z rs c k
    · rw [if_neg c] at h; cases h
  · rename_i xs
    by_cases c : canSort xs = true
    · rw [if_pos c] at h; cases h
      obtain ⟨v, rfl, r1⟩ := rqs1 r
      obtain ⟨a, ws, rfl, q, z, rs⟩ := rq_tup r1
      exact sorted_at (.inr q.sqt) z rs c k
    · rw [if_neg c] at h; cases h
  · cases h
end
end DL

set_option Elab.async false
set_option linter.all false
set_option maxRecDepth 100000
/-! ## zip over drawn sources whose last pair is still in use -/
namespace DL
open PySem PySem.Spec PyProof.Rows L2
section
variable {P : Program} {w : World} {A : Around} {E : Value → Shared → Prop} {s : Shared} {z TI TO T i1 i2 : Addr} {f1 f2 : List Addr} {n1 n2 i : Nat} {P1 P2 : Nat → Value → Prop} {S1 S2 : Nat → Heap → Prop} {fl : Bool} {oT : Obj}
theorem held_item {Q : Fin → Shared → Prop} (S : ZipSep2 z TI TO i1 i2 f1 f2) (D1 : Draws P w A i1 f1 n1 P1 S1) (D2 : Draws P w A i2 f2 n2 P2 S2) (hz : IsZipHeld s.heap z TI TO T fl) (hT : s.heap.get? T = some oT) (hI : IsTupOf2 s.heap TI (.ref i1) (.ref i2))
    (a1 : S1 i s.heap) (a2 : S2 i s.heap) (l1 : i < n1) (l2 : i < n2)
    (next : ∀ u v h' tk, P1 i u → P2 i v → IsZipHeld h' z TI TO T true → S1 (i + 1) h' → S2 (i + 1) h' → h'.get? s.heap.objs.size = some (pairObj u v) → h'.objs.size = s.heap.objs.size + 1 →
      (∀ c o, c ≠ z → c ≠ i1 → c ≠ i2 → s.heap.get? c = some o → h'.get? c = some o) → Q (.done (.ret (.ref s.heap.objs.size))) { s with heap := h', toks := tk }) :
    wpAny (model P w) A (Builtin.«zip.__next__» ⟨[.ref z], []⟩) Q E s := by
  unfold Builtin.«zip.__next__»
  refine wpAny_bind (m := slotArgs "__next__" 0 _) (wpAny_pure ?_)
  refine wpAny_bind (wpAny_field hz rfl rfl ?_)
  refine wpAny_bind (wpAny_field hz rfl rfl ?_)
  refine wpAny_bind (wpAny_seqItems hI rfl ?_)
  refine wpAny_bind (wpAny_tupleHeld_zip hz hT fun h1 z1 o1 => ?_)
  have b1 := D1.over a1 o1 S.zf1
  have b2 := D2.over a2 o1 S.zf2
  simp only [Bool.false_eq_true, if_false, ← Array.forIn_toList, List.forIn_cons, List.forIn_nil]
  -- the first source
  refine wpAny_bind (wpAny_bind (wpAny_bind (wpAny_holding ?_)))
  show wpAny _ _ (Builtin.SmallTypes.nextOf (.ref i1) >>= fun x => pure (some x)) _ _ _
  refine wpAny_bind (D1.item i _ _ _ l1 b1 fun u h2 k2 pu c1 o2 => wpAny_pure (wpAny_pure (wpAny_bind (wpAny_bind (wpAny_holding ?_)))))
  show wpAny _ _ (Builtin.SmallTypes.nextOf (.ref i2) >>= fun x => pure (some x)) _ _ _
  refine wpAny_bind (D2.item i _ _ _ l2 (D2.over b2 o2 S.sep1_2) fun v h3 k3 pv c2 o3 => wpAny_pure (wpAny_pure (wpAny_pure ?_)))
  have e : h3.objs.size = s.heap.objs.size := o3.1.trans (o2.1.trans o1.1)
  refine wpAny_bind (wpAny_newTuple (wpAny_pure ?_) (show 2 ≤ sizeLine by decide))
  rw [show (h3.objs.size : Addr) = s.heap.objs.size from e]
  have on : ∀ c o, h3.get? c = some o → (h3.push (pairObj u v)).get? c = some o := fun c o => Heap.get?_push_of_some _
  have z3 : IsZipHeld h3 z TI TO T true := (o3.2 _ S.zi2).trans ((o2.2 _ S.zi1).trans z1)
  have w1 : S1 (i + 1) h3 := D1.over c1 o3 S.sep2_1
  refine next u v (h3.push (pairObj u v)) k3 pu pv (on _ _ z3) (D1.frame _ _ _ w1 fun b _ => on b) (D2.frame _ _ _ c2 fun b _ => on b) ?_ ?_ fun c o n n1 n2 x => on c o ?_
  · rw [← e]; exact Heap.get?_push_size _ rfl
  · rw [Heap.size_push, e]
  · exact o3.extBut c o n2 (o2.extBut c o n1 (o1.extBut c o n x))
theorem held_end {Q : Fin → Shared → Prop} (S : ZipSep2 z TI TO i1 i2 f1 f2) (D1 : Draws P w A i1 f1 n1 P1 S1) (D2 : Draws P w A i2 f2 n2 P2 S2) (hz : IsZipHeld s.heap z TI TO T fl) (hT : s.heap.get? T = some oT) (hI : IsTupOf2 s.heap TI (.ref i1) (.ref i2))
    (a1 : S1 i s.heap) (a2 : S2 i s.heap) (l1 : i ≤ n1) (l2 : i ≤ n2) (short : i = n1 ∨ i = n2)
    (stop : ∀ h' tk e, (∀ c o, c ≠ z → c ≠ i1 → c ≠ i2 → s.heap.get? c = some o → h'.get? c = some o) → (∃ o, h'.get? e = some o ∧ o.cls = .type "StopIteration") → E (.ref e) { s with heap := h', toks := tk }) :
    wpAny (model P w) A (Builtin.«zip.__next__» ⟨[.ref z], []⟩) Q E s := by
  unfold Builtin.«zip.__next__»
  refine wpAny_bind (m := slotArgs "__next__" 0 _) (wpAny_pure ?_)
  refine wpAny_bind (wpAny_field hz rfl rfl (wpAny_bind (wpAny_field hz rfl rfl (wpAny_bind (wpAny_seqItems hI rfl ?_)))))
  refine wpAny_bind (wpAny_tupleHeld_zip hz hT fun h1 z1 o1 => ?_)
  have b1 := D1.over a1 o1 S.zf1
  have b2 := D2.over a2 o1 S.zf2
  simp only [Bool.false_eq_true, if_false, ← Array.forIn_toList, List.forIn_cons, List.forIn_nil]
  refine wpAny_bind (wpAny_bind (wpAny_bind (wpAny_holding ?_)))
  show wpAny _ _ (Builtin.SmallTypes.nextOf (.ref i1) >>= fun x => pure (some x)) _ _ _
  by_cases c : i = n1
  · subst c
    exact wpAny_bind (D1.done _ _ _ b1 fun h2 e o2 => stop h2 s.toks e fun c o n n1 n2 x => o2 c o n1 (o1.extBut c o n x))
  · have c2 : i = n2 := short.resolve_left c
    subst c2
    refine wpAny_bind (D1.item i _ _ _ (by omega) b1 fun u h2 k2 pu c1 o2 => wpAny_pure (wpAny_pure (wpAny_bind (wpAny_bind (wpAny_holding ?_)))))
    show wpAny _ _ (Builtin.SmallTypes.nextOf (.ref i2) >>= fun x => pure (some x)) _ _ _
    exact wpAny_bind (D2.done _ _ _ (D2.over b2 o2 S.sep1_2) fun h3 e o3 => stop h3 k2 e fun c o n n1 n2 x => o3 c o n2 (o2.extBut c o n1 (o1.extBut c o n x)))
end
section
variable {P : Program} {w : World} {A : Around} {E : Value → Shared → Prop} {s : Shared} {z TI TO i1 i2 : Addr} {f1 f2 : List Addr} {n1 n2 i : Nat} {P1 P2 : Nat → Value → Prop} {S1 S2 : Nat → Heap → Prop}
/-- a zip at its place i; its last pair, if there is one, is in use, and is not d -/
def ZipRun (d z TI TO i1 i2 : Addr) (S1 S2 : Nat → Heap → Prop) (i : Nat) (h : Heap) : Prop :=
  IsTupOf2 h TI (.ref i1) (.ref i2) ∧ S1 i h ∧ S2 i h ∧ ((IsZip h z TI TO .none ∧ ∃ u v, IsTupOf2 h TO u v) ∨ ∃ T fl oT, IsZipHeld h z TI TO T fl ∧ h.get? T = some oT ∧ T ≠ d ∧ T ≠ z ∧ T ≠ i1 ∧ T ≠ i2)
variable {d : Addr}
theorem run_item {Q : Option Value → Shared → Prop} (S : ZipSep2 z TI TO i1 i2 f1 f2) (D1 : Draws P w A.in1 i1 f1 n1 P1 S1) (D2 : Draws P w A.in1 i2 f2 n2 P2 S2) (r : ZipRun d z TI TO i1 i2 S1 S2 i s.heap) (ld : d < s.heap.objs.size) (l1 : i < n1) (l2 : i < n2)
    (next : ∀ u v h' tk, P1 i u → P2 i v → ZipRun d z TI TO i1 i2 S1 S2 (i + 1) h' → h'.get? s.heap.objs.size = some (pairObj u v) → (∀ c o, c ∉ [z, TO, i1, i2] → s.heap.get? c = some o → h'.get? c = some o) →
      Q (some (.ref s.heap.objs.size)) { s with heap := h', toks := tk }) : wpAny (model P w) A (pyNext (.ref z)) Q E s := by
  obtain ⟨hI, a1, a2, ⟨hz, u0, v0, hO⟩ | ⟨T, fl, oT, hz, hT, td, tz, t1, t2⟩⟩ := r
  · have old : ∀ c, (∃ o, s.heap.get? c = some o) → s.heap.objs.size ≠ c := fun c ⟨o, e⟩ => Nat.ne_of_gt (Heap.lt_size e)
    refine wpAny_pyNext_zipD2_item S D1 D2 hz hI hO a1 a2 l1 l2 fun u v h' tk pu pv z' _ w1 w2 e _ mv => ?_
    refine next u v h' tk pu pv ⟨mv TI _ S.TIz S.TITO S.TIi1 S.TIi2 hI, w1, w2, .inr ⟨_, false, _, z', e, Nat.ne_of_gt ld, old z ⟨_, hz⟩, old i1 (D1.live _ _ a1), old i2 (D2.live _ _ a2)⟩⟩ e fun c o n => ?_
    simp only [List.mem_cons, List.not_mem_nil, or_false, not_or] at n
    exact mv c o n.1 n.2.1 n.2.2.1 n.2.2.2
  · have ty : s.TypeIs (.ref z) "zip" := ⟨_, hz, rfl⟩
    unfold pyNext
    refine wpAny_bind (wpAny_attempt (wpAny_callSpecial?_slot (name := Str.ofString "__next__") ty F.slot_zip_next (wpAny_call_entry F.slot_zip_next ty F.entry_zip_next ?_ (F.args_zip_next_1 _))))
    refine held_item S D1 D2 hz hT hI a1 a2 l1 l2 fun u v h' tk pu pv z' w1 w2 e _ mv => ⟨_, rfl, wpAny_pure ?_⟩
    refine next u v h' tk pu pv ⟨mv TI _ S.TIz S.TIi1 S.TIi2 hI, w1, w2, .inr ⟨T, true, oT, z', mv T _ tz t1 t2 hT, td, tz, t1, t2⟩⟩ e fun c o n => ?_
    simp only [List.mem_cons, List.not_mem_nil, or_false, not_or] at n
    exact mv c o n.1 n.2.2.1 n.2.2.2
theorem run_end {Q : Option Value → Shared → Prop} (S : ZipSep2 z TI TO i1 i2 f1 f2) (D1 : Draws P w A.in1 i1 f1 n1 P1 S1) (D2 : Draws P w A.in1 i2 f2 n2 P2 S2) (r : ZipRun d z TI TO i1 i2 S1 S2 i s.heap) (l1 : i ≤ n1) (l2 : i ≤ n2) (short : i = n1 ∨ i = n2)
    (stop : ∀ h' tk, (∀ c o, c ∉ [z, TO, i1, i2] → s.heap.get? c = some o → h'.get? c = some o) → Q none { s with heap := h', toks := tk }) : wpAny (model P w) A (pyNext (.ref z)) Q E s := by
  obtain ⟨hI, a1, a2, ⟨hz, u0, v0, hO⟩ | ⟨T, fl, oT, hz, hT, _⟩⟩ := r
  · refine wpAny_pyNext_zipD2_end S D1 D2 hz hI hO a1 a2 l1 l2 short fun h' tk mv => stop h' tk fun c o n => ?_
    simp only [List.mem_cons, List.not_mem_nil, or_false, not_or] at n
    exact mv c o n.1 n.2.1 n.2.2.1 n.2.2.2
  · have ty : s.TypeIs (.ref z) "zip" := ⟨_, hz, rfl⟩
    unfold pyNext
    refine wpAny_bind (wpAny_attempt (wpAny_callSpecial?_slot (name := Str.ofString "__next__") ty F.slot_zip_next (wpAny_call_entry F.slot_zip_next ty F.entry_zip_next ?_ (F.args_zip_next_1 _))))
    refine held_end S D1 D2 hz hT hI a1 a2 l1 l2 short fun h' tk e mv ⟨o, ho, cl⟩ => ?_
    refine wpAny_bind (wpAny_isInstance (T := "StopIteration") (b := true) ⟨o, ho, cl⟩ isSubtype_stop (wpAny_pure (stop h' tk fun c o n => ?_)))
    simp only [List.mem_cons, List.not_mem_nil, or_false, not_or] at n
    exact mv c o n.1 n.2.2.1 n.2.2.2
end
abbrev SrcAt (k : Kd) (it a : Addr) (us : Array Value) (i : Nat) (h : Heap) : Prop := 0 ≤ i ∧ k.Wk h it a i ∧ k.Has h a us
theorem srcAt_move (k : Kd) {it a : Addr} {us : Array Value} {i : Nat} {h h' : Heap} (x : SrcAt k it a us i h) (m1 : ∀ o, h.get? it = some o → h'.get? it = some o) (m2 : ∀ o, h.get? a = some o → h'.get? a = some o) : SrcAt k it a us i h' :=
  ⟨x.1, k.wk_at x.2.1 m1, k.has_at x.2.2 m2⟩
theorem has_there (k : Kd) {h : Heap} {a : Addr} {us : Array Value} (x : k.Has h a us) : ∃ o, h.get? a = some o := match k, x with
  | .l, ⟨o, e, _⟩ => ⟨o, e⟩
  | .t, ⟨o, e, _⟩ => ⟨o, e⟩
/-- the run of a zip over two sources stays where what it reads stays -/
theorem zipRun_move (k1 k2 : Kd) {d z TI TO i1 i2 a b : Addr} {us vs : Array Value} {i : Nat} {h h' : Heap} (r : ZipRun d z TI TO i1 i2 (SrcAt k1 i1 a us) (SrcAt k2 i2 b vs) i h) (nd : d ∉ [z, TI, TO, i1, i2, a, b])
    (mv : ∀ c o, c ≠ d → h.get? c = some o → h'.get? c = some o) : ZipRun d z TI TO i1 i2 (SrcAt k1 i1 a us) (SrcAt k2 i2 b vs) i h' := by
  simp only [List.mem_cons, List.not_mem_nil, or_false, not_or] at nd
  obtain ⟨dz, dI, dO, d1, d2, da, db⟩ := nd
  obtain ⟨r1, r2, r3, r4⟩ := r
  refine ⟨mv _ _ (Ne.symm dI) r1, srcAt_move k1 r2 (fun o => mv _ o (Ne.symm d1)) (fun o => mv _ o (Ne.symm da)), srcAt_move k2 r3 (fun o => mv _ o (Ne.symm d2)) (fun o => mv _ o (Ne.symm db)), ?_⟩
  rcases r4 with ⟨x, u, v, y⟩ | ⟨T, fl, oT, x, y, td, rest⟩
  · exact .inl ⟨mv _ _ (Ne.symm dz) x, u, v, mv _ _ (Ne.symm dO) y⟩
  · exact .inr ⟨T, fl, oT, mv _ _ (Ne.symm dz) x, mv _ _ td y, td, rest⟩
end DL

set_option Elab.async false
set_option linter.all false
set_option maxRecDepth 100000
set_option maxHeartbeats 1000000
/-! ## what an iterator without a length gives, gathered into a list and a tuple: each step is told what was gathered -/
namespace DL
open PySem PySem.Spec PyProof.Rows L2
abbrev IsL (h : Heap) (S : Addr) (acc : Array Value) (c : Nat) : Prop := h.get? S = some { cls := .type "list", dict := none, data := .seq acc c, slots := #[] }
/-- what an iterator gives, gathered into the list at S; St knows what is gathered -/
structure Gath (prog : Program) (w : World) (A : Around) (I S n : Nat) (St : Nat → Array Value → Shared → Prop) (Fi : Array Value → Shared → Prop) : Prop where
  item : ∀ (i : Nat) (acc : Array Value) (c : Nat) (s : Shared) (Q : Option Value → Shared → Prop) (E : Value → Shared → Prop), i < n → St i acc s → IsL s.heap S acc c →
    (∀ v s', St (i + 1) (acc.push v) s' → IsL s'.heap S acc c → Q (some v) s') → wpAny (model prog w) A (pyNext (.ref I)) Q E s
  done : ∀ (acc : Array Value) (c : Nat) (s : Shared) (Q : Option Value → Shared → Prop) (E : Value → Shared → Prop), St n acc s → IsL s.heap S acc c →
    (∀ s', Fi acc s' → IsL s'.heap S acc c → Q none s') → wpAny (model prog w) A (pyNext (.ref I)) Q E s
  frame : ∀ (i : Nat) (acc : Array Value) (s : Shared) (h' : Heap), St i acc s → (∀ b o, b ≠ S → s.heap.get? b = some o → h'.get? b = some o) → St i acc { s with heap := h' }
section
variable {P : Program} {w : World} {A : Around} {R : Result → Shared → Prop} {I S n : Nat} {St : Nat → Array Value → Shared → Prop} {Fi : Array Value → Shared → Prop}
theorem gath_loop (G : Gath P w A.in1 I S n St Fi) (small : n ≤ sizeLine) (res : Value) (i : Nat) (s : Shared) (acc : Array Value) (c : Nat) (le : i ≤ n) (sz : acc.size = i) (st : St i acc s) (ls : IsL s.heap S acc c)
    (out : ∀ s' acc' c', acc'.size = n → Fi acc' s' → IsL s'.heap S acc' c' → R (.ok (.ret res)) s') : codeAny (model P w) A (.builtin "list.extend.loop" ⟨[.ref S, .ref I, res], []⟩) R s := by
  refine codeAny_builtin F.entry_extend_loop ?_
  rw [Around.under_plainId F.plain_extend_loop _]
  refine wpAny_bind (m := pyNext (.ref I)) ?_
  rcases Nat.lt_or_ge i n with lt | ge
  · refine G.item i acc c s _ _ lt st ls fun v s' st' ls' => wpAny_bind (m := updateSeq S (·.push v)) (wpAny_updateSeq ls' rfl ?_ (by omega) (by show (acc.push v).size ≤ sizeLine + 1; simp; omega))
    exact wpAny_pure ⟨plainId_quiet F.plain_extend_loop _, gath_loop G small res (i + 1) _ (acc.push v) _ lt (by simp [sz]) (G.frame _ _ s' _ st' fun b o ne e => (Heap.get?_update_other _ _ ne.symm).trans e) (Heap.get?_update_self _ ls' rfl) out⟩
  · obtain rfl : i = n := Nat.le_antisymm le ge
    exact G.done acc c s _ _ st ls fun s' f ls' => wpAny_pure (out s' acc c sz f ls')
termination_by n - i
end
section
variable {P : Program} {w : World} {A : Around} {E : Value → Shared → Prop} {s : Shared} {I n : Nat} {St : Nat → Array Value → Shared → Prop} {Fi : Array Value → Shared → Prop}
theorem zip_no_len : typeLookup (.type "zip") "__len__" = pure none := by
  rw [typeLookup_type, builtinLookup_eq_fast]
  kernel_rfl
theorem zip_no_hint : typeLookup (.type "zip") "__length_hint__" = pure none := by
  rw [typeLookup_type, builtinLookup_eq_fast]
  kernel_rfl
/-- a zip tells no length -/
theorem zip_hint {Q : Bool → Shared → Prop} (zt : s.TypeIs (.ref I) "zip") (q : Q true s) : wpAny (model P w) A (Builtin.List.listLengthHint (.ref I)) Q E s := by
  unfold Builtin.List.listLengthHint
  exact wpAny_bind (wpAny_specialOf zt zip_no_len (wpAny_bind (m := specialOf (.ref I) "__length_hint__") (wpAny_specialOf zt zip_no_hint (wpAny_pure q))))
theorem gath_collect {Q : List Value → Shared → Prop} (G : Gath P w A.in1 I s.heap.objs.size n St Fi) (self : ∀ A' s' Q' E', St 0 #[] s' → Q' (.ref I) s' → wpAny (model P w) A' (pyIter (.ref I)) Q' E' s')
    (ty : ∀ i a s, St i a s → s.TypeIs (.ref I) "zip") (low : I < s.heap.objs.size) (st : ∀ h', (∀ b o, s.heap.get? b = some o → h'.get? b = some o) → h'.objs.size = s.heap.objs.size + 1 → St 0 #[] { s with heap := h' })
    (fin : ∀ s' acc, acc.size = n → Fi acc s' → Q acc.toList s') (small : n ≤ sizeLine) : wpAny (model P w) A (collect (.ref I)) Q E s := by
  unfold collect
  refine wpAny_bind (wpAny_runValue (codeAny_builtin F.entry_proto_collect ?_))
  rw [Around.under_plainId F.plain_proto_collect _]
  refine wpAny_bind (m := newList []) (wpAny_newObj_type (wpAny_pure ⟨plainId_quiet F.plain_list_iadd _, codeAny_builtin F.entry_list_iadd ?_⟩))
  rw [Around.under_plainId F.plain_list_iadd _]
  have room := st (s.heap.push { cls := .type "list", data := .seq #[] }) (fun _ _ => Heap.get?_push_of_some _) (Heap.size_push ..)
  have zt := ty 0 _ _ room
  have l0 : IsL (s.heap.push { cls := .type "list", data := .seq #[] }) s.heap.objs.size #[] 0 := Heap.get?_push_size _ rfl
  have other : Builtin.List.listSameRef (.ref s.heap.objs.size) (.ref I) = false := by simp [Builtin.List.listSameRef, Nat.ne_of_gt low]
  show wpAny _ _ (Builtin.List.listExtendWith (.ref s.heap.objs.size) (.ref I) (.ref s.heap.objs.size)) _ _ _
  unfold Builtin.List.listExtendWith
  refine wpAny_bind (wpAny_typeOf zt ?_)
  simp only [other, show (Value.type "zip" == Value.type "list") = false by decide, show (Value.type "zip" == Value.type "tuple") = false by decide, Bool.or_self, Bool.false_eq_true, if_false]
  refine wpAny_bind (self _ _ _ _ room (wpAny_bind (wpAny_holding (zip_hint zt ?_))))
  refine wpAny_bind (m := rule _) (wpAny_rule (wpAny_bind (m := Builtin.List.listTouch (.ref s.heap.objs.size)) (wpAny_bind (m := updateSeq s.heap.objs.size (·.push .none)) (wpAny_updateSeq l0 rfl ?_))))
  have l1 := Heap.get?_update_self (Obj.mapSeq (·.push Value.none)) l0 rfl
  refine wpAny_updateSeq l1 rfl (wpAny_pure ⟨plainId_quiet F.plain_extend_loop _, ?_⟩)
  refine gath_loop G small _ 0 _ #[] _ (Nat.zero_le n) rfl (G.frame 0 #[] ({ s with heap := s.heap.push { cls := .type "list", data := .seq #[] } }) _ room fun b o ne e => ?_) (Heap.get?_update_self (Obj.mapSeq (·.pop)) l1 rfl) fun s' acc' c' sz f ls => wpAny_bind (m := load s.heap.objs.size) (wpAny_load ls (wpAny_pure (fin s' acc' sz f)))
  exact (Heap.get?_update_other _ _ ne.symm).trans ((Heap.get?_update_other _ _ ne.symm).trans e)
theorem gath_tuple {Q : Value → Shared → Prop} (G : Gath P w A.in1.in1.in1 I s.heap.objs.size n St Fi) (self : ∀ A' s' Q' E', St 0 #[] s' → Q' (.ref I) s' → wpAny (model P w) A' (pyIter (.ref I)) Q' E' s')
    (ty : ∀ i a s, St i a s → s.TypeIs (.ref I) "zip") (zt : s.TypeIs (.ref I) "zip") (low : I < s.heap.objs.size) (st : ∀ h', (∀ b o, s.heap.get? b = some o → h'.get? b = some o) → h'.objs.size = s.heap.objs.size + 1 → St 0 #[] { s with heap := h' })
    (fin : ∀ s' acc, acc.size = n → Fi acc s' → Q (.ref s'.heap.objs.size) { s' with heap := s'.heap.push { cls := .type "tuple", data := .seq acc.toList.toArray } }) (small : n ≤ sizeLine) :
    wpAny (model P w) A (call (.type "tuple") [.ref I]) Q E s := by
  refine callType_codes (Q₁ := fun v s1 => s1.TypeIs v "tuple" ∧ Q v s1) F.called_tuple (F.typeCall_tuple_1 _) F.entry_object_init ?_
    fun v s1 got => ⟨got.1, F.args_object_init_2 v _, object_init_meets F.called_tuple.init.lookup F.called_tuple.made (by decide) P w A.in1 _ s1 ⟨got.1, rfl, got.2⟩⟩
  refine codeAny_of_tree (wpAny_bind (m := checkBuiltinCall "tuple.__new__" _) (wpAny_of_eq (F.newCall_tuple_1 _) (wpAny_pure ⟨plainId_quiet F.plain_tuple_new _, codeAny_builtin F.entry_tuple_new ?_⟩)))
  rw [Around.under_plainId F.plain_tuple_new _]
  have f1 := sub_tuple_self
  have f2 := init_tuple_lookup
  have f3 := madeHere_tuple
  have f4 : (Value.type "zip" == Value.type "tuple") = false := by decide
  wp_walk using wpAny_typeOf zt, gath_collect G self ty low st
  all_goals first | exact small | skip
  intro s' acc sz f
  refine wpAny_bind (wpAny_pure (wpAny_bind (m := Builtin.Tuple.tupleExact _) (wpAny_newObj_type (wpAny_pure ⟨⟨_, Heap.get?_push_size _ rfl, rfl⟩, fin s' acc sz f⟩) ?_)))
  show acc.toList.toArray.size ≤ sizeLine
  simpa [sz] using small
end
/-! ### tuple(zip(x, y)) of two tuples -/
/-- the pairs that were gathered: each a new tuple of the items at its place -/
structure ZGot (X : Cx) (pins : List (Addr × Obj)) (σ : L2.St) (H : Hp) (xs ys : List V) (i : Nat) (acc : Array Value) (s : Shared) (Hi : Hp) (ts : List V) : Prop where
  inv : Inv X pins σ Hi s
  sm : Same H Hi
  rel : Vals ts acc.toList
  len : ts.length = i
  prs : ∀ (j : Nat) (v : V), ts[j]? = some v → ∃ (T : Addr) (o : Obj) (x y : V), v = .ref T ∧ Hi T = some (.frz o (.tup [x, y])) ∧ o.dict = none ∧ xs[j]? = some x ∧ ys[j]? = some y
theorem ZGot.more {X : Cx} {pins : List (Addr × Obj)} {σ : L2.St} {H Hi : Hp} {xs ys ts : List V} {i : Nat} {acc : Array Value} {s s' : Shared} {T : Addr} {o : Obj} {x y : V} (g : ZGot X pins σ H xs ys i acc s Hi ts) (n : Hi T = none) (od : o.dict = none) (hx : xs[i]? = some x) (hy : ys[i]? = some y)
    (I : Inv X pins σ (upd Hi T (.frz o (.tup [x, y]))) s') : ZGot X pins σ H xs ys (i + 1) (acc.push (.ref T)) s' (upd Hi T (.frz o (.tup [x, y]))) (ts ++ [.ref T]) where
  inv := I
  sm := fun b u e => (upd_ne (ne_of_none (g.sm b u e) n)).trans (g.sm b u e)
  rel := by
    rw [Array.toList_push]
    exact g.rel.append (.cons rfl .nil)
  len := by rw [List.length_append, g.len]; rfl
  prs := fun j v e => by
    rcases Nat.lt_or_ge j ts.length with lt | ge
    · rw [List.getElem?_append_left lt] at e
      obtain ⟨T', o', x', y', a1, a2, r⟩ := g.prs j v e
      exact ⟨T', o', x', y', a1, (upd_ne (ne_of_none a2 n)).trans a2, r⟩
    · rw [List.getElem?_append_right ge] at e
      obtain ⟨z, rfl⟩ := List.getElem?_eq_some_iff.mp e
      have jl : j = ts.length := by simp only [List.length_cons, List.length_nil] at z; omega
      subst jl
      exact ⟨T, o, x, y, by simp, upd_same, od, by rw [g.len]; exact hx, by rw [g.len]; exact hy⟩
/-- what tuple(zip(x, y)) makes of the pair of argument tuples -/
def rTupZip (K : PySem.W.Frag) (vs : List V) (H : Hp) (Q : VK) : Prop := ∃ a b xs ys, vs = [.ref a, .ref b] ∧ SqT K H a xs ∧ SqT K H b ys ∧ xs.length ≤ sizeLine ∧
  ∀ (H' : Hp) (ts : List V) (p : Addr) (o : Obj), Same H H' → ts.length = min xs.length ys.length →
    (∀ (j : Nat) (v : V), ts[j]? = some v → ∃ (T : Addr) (o : Obj) (x y : V), v = .ref T ∧ H' T = some (.frz o (.tup [x, y])) ∧ o.dict = none ∧ xs[j]? = some x ∧ ys[j]? = some y) →
    H' p = none → o.dict = none → Q (.ref p) (upd H' p (.frz o (.tup ts)))
theorem pe_tupzip {X : Cx} {e e2 : Expr} {ta : TA} {p q pos qpos : Pos} (hcalm : X.calm = true) (hgT : Gl X "tuple") (hmT : X.mg "tuple" = none) (hg : Gl X "zip") (hm : X.mg "zip" = none) (ha : PA X [e, e2] ta)
    (hs : starEach [e, e2] X.env = (false, eval e X.env) :: starEach [e2] X.env := by rfl) (hpl : (backTo pos (starEach [e2] X.env)).any (·.1) = false := by rfl)
    (hsT : starEach [(.Call (.Name "zip" q) [e, e2] [] pos)] X.env = [(false, eval (.Call (.Name "zip" q) [e, e2] [] pos) X.env)] := by rfl) :
    PE X (.Call (.Name "tuple" p) [.Call (.Name "zip" q) [e, e2] [] pos] [] qpos) (tCB (rTupZip X.K) ta) := by
  refine ⟨fun pins s σ H Q I w => wpAny_Call_Name_kw (ld_blt I hgT hmT (by rfl) (PyProof.Rows.callWith_type1 ?_ hsT rfl) (by decide) (by decide))⟩
  rw [hsT]
  refine Calls.spliced_cons (Call_ (ld_blt I hg hm PyProof.Rows.boot_zip (PyProof.Rows.callWith_type1 (thn (ha.run pos pins s σ H _ I w) ?_) hs hpl)))
  rintro us s1 ⟨_, H1, J, r, a, b, xs, ys, rfl, qx, qy, small, q⟩
  obtain ⟨_, _, rfl, e1, e2⟩ := refs2 r
  cases e1
  cases e2
  obtain ⟨us, rx, px, _⟩ := J.tuple qx
  obtain ⟨vs, ry, py, _⟩ := J.tuple qy
  have la : a < s1.heap.objs.size := Kd.t.has_lt (vs := us.toArray) px
  have lb : b < s1.heap.objs.size := Kd.t.has_lt (vs := vs.toArray) py
  refine zip_begins2 (Kd.t.begins a us.toArray) (Kd.t.begins b vs.toArray) px py fun h' z p o w1 w2 sz old => Calls.spliced_nil ?_
  have S := zip_sep2 (N := s1.heap.objs.size) (fp1 := [a]) (fp2 := [b]) (fun c hc => List.mem_singleton.mp hc ▸ la) (fun c hc => List.mem_singleton.mp hc ▸ lb)
  have x1 : Kd.t.Has h' a us.toArray := Kd.t.has_at px (old a)
  have y1 : Kd.t.Has h' b vs.toArray := Kd.t.has_at py (old b)
  have nx := k1_apart .t x1 (Kd.t.wk0 w1)
  have ny := k1_apart .t y1 (Kd.t.wk0 w2)
  have cells : ∀ c ∈ [s1.heap.objs.size + 4, s1.heap.objs.size + 3, s1.heap.objs.size, s1.heap.objs.size + 1, h'.objs.size], s1.heap.objs.size ≤ c ∧ c ≤ h'.objs.size := fun c hc => by
    simp only [List.mem_cons, List.not_mem_nil, or_false] at hc
    rcases hc with rfl | rfl | rfl | rfl | rfl <;> rw [sz] <;> constructor <;> first | exact Nat.le_add_right _ _ | exact Nat.le_refl _ | exact Nat.add_le_add_left (by decide) _
  have lx : us.toArray.size = xs.length := List.size_toArray.trans rx.length.symm
  have ly : vs.toArray.size = ys.length := List.size_toArray.trans ry.length.symm
  have off : h'.objs.size ∉ [s1.heap.objs.size + 4, s1.heap.objs.size + 3, s1.heap.objs.size, s1.heap.objs.size + 1] := by
    rw [sz]
    simp only [List.mem_cons, List.not_mem_nil, or_false, not_or]
    refine ⟨?_, ?_, ?_, ?_⟩ <;> exact fun e => by have e : s1.heap.objs.size + 5 = _ := e; omega
  have off2 : h'.objs.size ∉ [s1.heap.objs.size + 4, s1.heap.objs.size + 2, s1.heap.objs.size + 3, s1.heap.objs.size, s1.heap.objs.size + 1, a, b] := by
    have la' : a < s1.heap.objs.size + 5 := Nat.lt_of_lt_of_le la (Nat.le_add_right _ _)
    have lb' : b < s1.heap.objs.size + 5 := Nat.lt_of_lt_of_le lb (Nat.le_add_right _ _)
    rw [sz]
    simp only [List.mem_cons, List.not_mem_nil, or_false, not_or]
    refine ⟨?_, ?_, ?_, ?_, ?_, Nat.ne_of_gt la', Nat.ne_of_gt lb'⟩ <;> exact fun e => by have e : s1.heap.objs.size + 5 = _ := e; omega
  have D1 : Draws X.prog X.w X.A.in1.in1.in1.in1 s1.heap.objs.size [s1.heap.objs.size, a] us.toArray.size (fun i x => us.toArray[i]? = some x) (SrcAt .t s1.heap.objs.size a us.toArray) := by
    have z := Kd.t.draws (P := X.prog) (w := X.w) (A := X.A.in1.in1.in1.in1) (J.ok.hd hcalm) nx us.toArray 0
    rwa [Nat.zero_max] at z
  have D2 : Draws X.prog X.w X.A.in1.in1.in1.in1 (s1.heap.objs.size + 1) [s1.heap.objs.size + 1, b] vs.toArray.size (fun i x => vs.toArray[i]? = some x) (SrcAt .t (s1.heap.objs.size + 1) b vs.toArray) := by
    have z := Kd.t.draws (P := X.prog) (w := X.w) (A := X.A.in1.in1.in1.in1) (J.ok.hd hcalm) ny vs.toArray 0
    rwa [Nat.zero_max] at z
  have start : ZGot X pins σ H1 xs ys 0 #[] { s1 with heap := h' } H1 [] := ⟨J.kept (t' := s1.toks) old, fun _ _ e => e, .nil, rfl, fun j v e => by simp at e⟩
  have G : Gath X.prog X.w X.A.in1.in1.in1 (s1.heap.objs.size + 4) h'.objs.size (min us.toArray.size vs.toArray.size)
      (fun i acc s' => ∃ Hi ts, ZGot X pins σ H1 xs ys i acc s' Hi ts ∧ (∀ c ∈ [s1.heap.objs.size + 4, s1.heap.objs.size + 3, s1.heap.objs.size, s1.heap.objs.size + 1, h'.objs.size], FpOk X pins Hi c) ∧
        ZipRun h'.objs.size (s1.heap.objs.size + 4) (s1.heap.objs.size + 2) (s1.heap.objs.size + 3) s1.heap.objs.size (s1.heap.objs.size + 1) (SrcAt .t s1.heap.objs.size a us.toArray) (SrcAt .t (s1.heap.objs.size + 1) b vs.toArray) i s'.heap ∧
        (i = 0 → IsZip s'.heap (s1.heap.objs.size + 4) (s1.heap.objs.size + 2) (s1.heap.objs.size + 3) .none))
      (fun acc s' => ∃ Hi ts, ZGot X pins σ H1 xs ys (min us.toArray.size vs.toArray.size) acc s' Hi ts) := by
    have wide : ∀ c, c ∉ [s1.heap.objs.size + 4, s1.heap.objs.size + 3, s1.heap.objs.size, s1.heap.objs.size + 1, h'.objs.size] → c ∉ [s1.heap.objs.size + 4, s1.heap.objs.size + 3, s1.heap.objs.size, s1.heap.objs.size + 1] := fun c n m => n (List.mem_append_left [h'.objs.size] m)
    refine ⟨?_, ?_, ?_⟩
    · rintro i acc c s' Q' E' lt ⟨Hi, ts, g, fp, run, _⟩ ls next
      have top : h'.objs.size < s'.heap.objs.size := Heap.lt_size ls
      have li := Nat.lt_of_lt_of_le lt (Nat.min_le_left _ _)
      have lj := Nat.lt_of_lt_of_le lt (Nat.min_le_right _ _)
      have hx : xs[i]? = some xs[i] := List.getElem?_eq_getElem (lx ▸ li)
      have hy : ys[i]? = some ys[i] := List.getElem?_eq_getElem (ly ▸ lj)
      refine run_item S D1 D2 run top li lj fun u v h2 tk hu hv run' e mv => next _ _ ⟨_, _, g.more (g.inv.hok.fresh (Nat.le_refl _)) rfl hx hy (pair_new (s := s') g.inv fp (fun c o n => mv c o (wide c n)) e (vals_arr rx hx hu) (vals_arr ry hy hv)), fun c hc => ?_, run', fun z => absurd z (Nat.succ_ne_zero i)⟩ (mv _ _ off ls)
      exact ⟨(upd_ne (Nat.ne_of_lt (Nat.lt_of_le_of_lt (cells c hc).2 top))).trans (fp c hc).1, (fp c hc).2⟩
    · rintro acc c s' Q' E' ⟨Hi, ts, g, fp, run, _⟩ ls stop
      exact run_end S D1 D2 run (Nat.min_le_left _ _) (Nat.min_le_right _ _) (by omega) fun h2 tk mv => stop _ ⟨Hi, ts, { g with inv := g.inv.turnedL (fun c o n => mv c o (wide c n)) fp }⟩ (mv _ _ off ls)
    · rintro i acc s' h2 ⟨Hi, ts, g, fp, run, first⟩ mv
      have nS : ∀ c, c ∉ [s1.heap.objs.size + 4, s1.heap.objs.size + 3, s1.heap.objs.size, s1.heap.objs.size + 1, h'.objs.size] → c ≠ h'.objs.size := fun c n e => n (by simp [e])
      exact ⟨Hi, ts, { g with inv := g.inv.turnedL (t' := s'.toks) (fun c o n => mv c o (nS c n)) fp }, fp, zipRun_move .t .t run off2 mv, fun e => mv _ _ (fun q => off (by simp [← q])) (first e)⟩
  refine gath_tuple (s := { s1 with heap := h' }) G (fun A' s' Q' E' ⟨_, _, _, _, _, first⟩ go => wpAny_pyIter_zip (first rfl) go) (fun i acc s' ⟨_, _, _, _, run, _⟩ => ?_) ⟨_, z, rfl⟩ ?_ (fun h2 mv _ => ⟨H1, [], ⟨(J.kept (t' := s1.toks) old).kept (t' := s1.toks) mv, start.sm, start.rel, start.len, start.prs⟩, fun c hc => J.fpOk (cells c hc).1 (J.hok.fresh (cells c hc).1), ?_, fun _ => mv _ _ z⟩) ?_ ?_
  · rcases run.2.2.2 with ⟨zz, _⟩ | ⟨_, _, _, zz, _⟩ <;> exact ⟨_, zz, rfl⟩
  · show s1.heap.objs.size + 4 < h'.objs.size
    rw [sz]; exact Nat.lt_succ_self _
  · exact ⟨mv _ _ p, srcAt_move .t ⟨Nat.le_refl _, Kd.t.wk0 w1, x1⟩ (mv _) (mv _), srcAt_move .t ⟨Nat.le_refl _, Kd.t.wk0 w2, y1⟩ (mv _) (mv _), .inl ⟨mv _ _ z, _, _, mv _ _ o⟩⟩
  · rintro s' acc _ ⟨Hi, ts, g⟩
    have tl : ts.length = min xs.length ys.length := by rw [g.len, lx, ly]
    exact tup_end g.inv g.rel (by rw [tl]; exact Nat.le_trans (Nat.min_le_left _ _) small) fun pp oo n d => q Hi ts pp oo g.sm tl g.prs n d
  · rw [lx]; exact Nat.le_trans (Nat.min_le_left _ _) small
end DL

set_option Elab.async false
set_option linter.all false
set_option maxRecDepth 100000
namespace DL
open PySem PySem.Spec PyProof.Rows L2

/-! ## 13. tuple(zip(x, y)) -/
def zipPair (xs ys : List D) : List D := (xs.zip ys).map fun p => .tup [p.1, p.2]
def gTupZip : List D → Option D
  | [.tup xs, .tup ys] => some (.tup (zipPair xs ys))
  | _ => none
section
variable {K : Fw} {W : Wd} {H : Hp}
theorem rps_of : ∀ {vs : List V} {ds : List D}, vs.length = ds.length → (∀ (j : Nat) (v : V) (d : D), vs[j]? = some v → ds[j]? = some d → Rp K W H v d) → Rps K W H vs ds
  | [], [], _, _ => .nil
  | v :: vs, d :: ds, h, k => .cons (k 0 v d rfl rfl) (rps_of (by simpa using h) fun j v' d' e e' => k (j + 1) v' d' (by simpa using e) (by simpa using e'))
theorem tupzip_d : CallD K (rTupZip K) gTupZip := fun W H vs ds d Q wf r h k => by
  unfold gTupZip at h
  split at h
  · rename_i xs ys
    cases h
    obtain ⟨v, v', rfl, r1, r2⟩ := rqs2 r
    obtain ⟨a, ws, rfl, q, z, rs⟩ := rq_tup r1
    obtain ⟨a', ws', rfl, q', z', rs'⟩ := rq_tup r2
    refine ⟨a, a', ws, ws', rfl, q.sqt, q'.sqt, z, fun H' ts p o sm hl hp hn ho => ?_⟩
    have l1 := rs.length
    have l2 := rs'.length
    have sm2 : Same H' (upd H' p (.frz o (.tup ts))) := upd_Same hn
    refine k _ _ (fun b u e => sm2 b u (sm b u e)) (.tup (.new ho) (by omega) (rps_of ?_ fun j v d e e' => ?_))
    · rw [hl]; unfold zipPair; rw [List.length_map, List.length_zip]; omega
    · obtain ⟨T, o', x, y, rfl, hT, hd, hx, hy⟩ := hp j v e
      unfold zipPair at e'
      rw [List.getElem?_map] at e'
      obtain ⟨pp, ep, rfl⟩ := Option.map_eq_some_iff.mp e'
      obtain ⟨dx, hdx, rx⟩ := rs.get' hx
      obtain ⟨dy, hdy, ry⟩ := rs'.get' hy
      obtain ⟨e3, e4⟩ := List.getElem?_zip_eq_some.mp ep
      rw [hdx] at e3
      rw [hdy] at e4
      cases e3
      cases e4
      have sm3 : Same H (upd H' p (.frz o (.tup ts))) := fun b u e => sm2 b u (sm b u e)
      exact .tup (.inl ⟨o', sm2 _ _ hT, hd⟩) (by show 2 ≤ sizeLine; decide) (.cons (rx.stepE (.same sm3)) (.cons (ry.stepE (.same sm3)) .nil))
  · cases h
end

/-! ## 14. dict(x), x a tuple of pairs -/
/-- dict(xs), xs a list or a tuple of pairs: later pairs win -/
def rDictZ (K : PySem.W.Frag) : List V → Hp → VK → Prop := fun xs H Q => ∃ (a : Addr) (ps : List Addr) (kvs : List (Key × V)), xs = [.ref a] ∧ TupAt K H a (ps.map V.ref) ∧ Paired (fun p kv => SqT K H p [kV kv.1, kv.2]) ps kvs ∧ ps.length ≤ sizeLine ∧
  ∀ p, H p = none → Q (.ref p) (upd H p (.dK (mergeK [] kvs)))
section
variable {X : Cx}
theorem pairs_ofZ {pins : List (Addr × Obj)} {σ : L2.St} {H : Hp} {s : Shared} (I : Inv X pins σ H s) : ∀ {ps : List Addr} {kvs : List (Key × V)}, Paired (fun p kv => SqT X.K H p [kV kv.1, kv.2]) ps kvs →
    ∃ (prs : List (Key × Value)) (vps : List (Value × Value)), KV kvs prs ∧ prs.length = ps.length ∧ vps.length = ps.length ∧ ∀ (j : Nat) (q : Value × Value), vps[j]? = some q → ∃ (b : Addr) (k : Key), ps[j]? = some b ∧ IsTup s.heap b #[q.1, q.2] ∧ prs[j]? = some (k, q.2) ∧ keyIs k q.1 = true
  | _, _, .nil => ⟨[], [], .nil, rfl, rfl, fun j q e => by simp at e⟩
  | _, _, .cons (a := p) (b := kv) h t => by
    obtain ⟨prs, vps, r, hl, hl2, hp⟩ := pairs_ofZ I t
    obtain ⟨its, rv, ht, _⟩ := I.tuple h
    obtain ⟨u, y, ei, ru, ry⟩ := vals2 rv
    subst ei
    refine ⟨(kv.1, y) :: prs, (u, y) :: vps, .cons ⟨rfl, ry⟩ r, by rw [List.length_cons, List.length_cons, hl], by rw [List.length_cons, List.length_cons, hl2], fun j q e => ?_⟩
    cases j with
    | zero =>
      have e' : (u, y) = q := Option.some.inj e
      subst e'
      exact ⟨p, kv.1, rfl, ht, rfl, kV_is (P := X.prog) (w := X.w) ru⟩
    | succ j =>
      obtain ⟨b, k, e1, e2, e3, e4⟩ := hp j q (by simpa using e)
      exact ⟨b, k, by simpa using e1, e2, by simpa using e3, e4⟩
theorem TupAt.plain {pins : List (Addr × Obj)} {σ : L2.St} {H : Hp} {s : Shared} (I : Inv X pins σ H s) {a : Addr} {vs : List V} (h : TupAt X.K H a vs) : ∃ its : Array Value, PlainSeq "tuple" s.heap a its ∧ Vals vs its.toList := by
  rcases h with ⟨o, h, hd⟩ | ⟨o, its, n, h1, h2, hd, h3, h4, h5⟩
  · have q := I.hok a _ h
    obtain ⟨e, z, vs', r, o', e', c, n, dd⟩ := q
    rw [e] at e'
    cases e'
    exact ⟨_, ⟨o, n, e, c, hd, dd⟩, r⟩
  · exact ⟨its, ⟨o, n, I.kIn a o h1, h2, hd, h3⟩, h5⟩
theorem call_dictZ (hcalm : X.calm = true) : CallR X (.type "dict") (rDictZ X.K) := by
  intro pins s σ H xs us Q I r q
  obtain ⟨a, ps, kvs, ex, hq, hp, hz, q⟩ := q
  subst ex
  obtain ⟨u, eu, rx⟩ := vals1 r
  subst eu
  cases rx
  obtain ⟨its, hpl, rv⟩ := TupAt.plain I hq
  have ei := refs_at rv
  obtain ⟨prs, vps, rel, hl, hl2, hpr⟩ := pairs_ofZ I hp
  have hits : ∀ (j : Nat) (b : Addr), ps[j]? = some b → its[j]? = some (.ref b) := fun j b e => by
    rw [← Array.getElem?_toList, ei, List.getElem?_map, e]; rfl
  have hsz : its.size = ps.length := by rw [← Array.length_toList, ei, List.length_map]
  have items : PySem.PairItems s.heap its (fun j => ps.getD j 0) vps := ⟨by rw [hsz, hl2], fun j k v e => by
    obtain ⟨b, kk, e1, e2, e3, e4⟩ := hpr j (k, v) e
    have eb : ps.getD j 0 = b := by rw [List.getD_eq_getElem?_getD, e1]; rfl
    refine ⟨?_, ?_⟩
    · show its[j]? = some (.ref (ps.getD j 0)); rw [eb]; exact hits j b e1
    · show PySem.PairAt s.heap (ps.getD j 0) k v; rw [eb]; exact .inl e2⟩
  refine PySem.call_dict_pairs (knd := mixKind X.prog X.w) (kvs := prs) (PySem.PairArg.tuple (prog := X.prog) (w := X.w) a its (fun j => ps.getD j 0) vps) (I.ok.hd hcalm) ⟨hpl, items⟩ ⟨by rw [hl, hl2], fun i key v hr => ?_⟩ (by rw [hl2]; exact hz) fun h' tk hd' k => ?_
  · obtain ⟨b, kk, e1, e2, e3, e4⟩ := hpr i (key, v) hr
    exact ⟨kk, e3, e4⟩
  · have hm : (s.heap.objs.size == sysModules) = false := beq_eq_false_iff_ne.mpr (Nat.ne_of_gt I.big)
    have hlen : (mergeK [] kvs).length ≤ sizeLine := by
      refine Nat.le_trans (length_mergeK kvs []) ?_
      rw [List.length_nil, Nat.zero_add, rel.length, hl]
      exact hz
    exact ⟨.ref s.heap.objs.size, upd H s.heap.objs.size (.dK (mergeK [] kvs)), I.laid (t' := tk) (fun b o e => k b o (by simp) e) (Nat.le_refl _) (show ObjOk X.prog X.w _ _ _ (.dK (mergeK [] kvs)) from ⟨hlen, hm, merged [] prs, KV.merge rel .nil, hd'⟩), rfl, q _ (I.hok.fresh (Nat.le_refl _))⟩
end
def D.key : D → Option Key
  | .int i => some (.inl i)
  | .str x => some (.inr x)
  | _ => none
def pairsOf : List D → Option (List (Key × D))
  | [] => some []
  | .tup [k, v] :: r => k.key.bind fun q => (pairsOf r).map ((q, v) :: ·)
  | _ => none
def putD (kvs : List (Key × D)) (k : Key) (v : D) : List (Key × D) :=
  if (kvs.any fun kv => decide (kv.1 = k)) = true then kvs.map (fun kv => if kv.1 = k then (kv.1, v) else kv) else kvs ++ [(k, v)]
def mergeD (kvs more : List (Key × D)) : List (Key × D) := more.foldl (fun acc kv => putD acc kv.1 kv.2) kvs
def gDict : List D → Option D
  | [.tup xs] => (pairsOf xs).map fun kvs => .dct ((mergeD [] kvs).map (·.1)) ((mergeD [] kvs).map (·.2))
  | _ => none
section
variable {K : Fw} {W : Wd} {H : Hp}
abbrev RKV (K : Fw) (W : Wd) (H : Hp) : List (Key × V) → List (Key × D) → Prop := Paired fun p q => p.1 = q.1 ∧ Rp K W H p.2 q.2
theorem rkv_any {k : Key} : ∀ {ps : List (Key × V)} {qs : List (Key × D)}, RKV K W H ps qs → (ps.any fun kv => decide (kv.1 = k)) = (qs.any fun kv => decide (kv.1 = k))
  | _, _, .nil => rfl
  | _, _, .cons a b => by simp only [List.any_cons, a.1, rkv_any b]
theorem rkv_app : ∀ {ps : List (Key × V)} {qs : List (Key × D)} {ps' : List (Key × V)} {qs' : List (Key × D)}, RKV K W H ps qs → RKV K W H ps' qs' → RKV K W H (ps ++ ps') (qs ++ qs')
  | _, _, _, _, .nil, h => h
  | _, _, _, _, .cons a b, h => .cons a (rkv_app b h)
theorem rkv_map {k : Key} {v : V} {d : D} (r : Rp K W H v d) : ∀ {ps : List (Key × V)} {qs : List (Key × D)}, RKV K W H ps qs → RKV K W H (ps.map fun kv => if kv.1 = k then (kv.1, v) else kv) (qs.map fun kv => if kv.1 = k then (kv.1, d) else kv)
  | _, _, .nil => .nil
  | _, _, .cons (a := p) (b := q) a b => by
    refine .cons ?_ (rkv_map r b)
    by_cases e : q.1 = k
    · simp only [a.1, e, if_pos]; exact ⟨trivial, r⟩
    · simp only [a.1, if_neg e]; exact ⟨trivial, a.2⟩
theorem rkv_put {k : Key} {v : V} {d : D} {ps : List (Key × V)} {qs : List (Key × D)} (h : RKV K W H ps qs) (r : Rp K W H v d) : RKV K W H (putK ps k v) (putD qs k d) := by
  unfold putK putD
  rw [rkv_any h]
  split
  · exact rkv_map r h
  · exact rkv_app h (.cons ⟨rfl, r⟩ .nil)
theorem rkv_merge : ∀ {ps : List (Key × V)} {qs : List (Key × D)} {acc : List (Key × V)} {acc' : List (Key × D)}, RKV K W H ps qs → RKV K W H acc acc' → RKV K W H (mergeK acc ps) (mergeD acc' qs)
  | _, _, _, _, .nil, h => h
  | _, _, acc, acc', .cons (a := p) (b := q) a b, h => by
    have : RKV K W H (putK acc p.1 p.2) (putD acc' q.1 q.2) := by rw [a.1]; exact rkv_put h a.2
    show RKV K W H (mergeK (putK acc p.1 p.2) _) (mergeD (putD acc' q.1 q.2) _)
    exact rkv_merge b this
theorem rkv_rps : ∀ {ps : List (Key × V)} {qs : List (Key × D)}, RKV K W H ps qs → ps = (qs.map (·.1)).zip (ps.map (·.2)) ∧ Rps K W H (ps.map (·.2)) (qs.map (·.2))
  | _, _, .nil => ⟨rfl, .nil⟩
  | _, _, .cons (a := p) (b := q) a b => by
    obtain ⟨h1, h2⟩ := rkv_rps b
    refine ⟨?_, .cons a.2 h2⟩
    rw [List.map_cons, List.map_cons, List.zip_cons_cons, ← h1, ← a.1]
theorem key_v {v : V} {d : D} {k : Key} (r : Rp K W H v d) (h : d.key = some k) : v = kV k := by
  cases d with
  | int i => cases h; exact rp_int r
  | str x => cases h; exact rq_str (.of r)
  | _ => cases h
theorem pairs_rps : ∀ {ds : List D} {vs : List V} {kvs : List (Key × D)}, pairsOf ds = some kvs → Rps K W H vs ds →
    ∃ (ps : List Addr) (kvs' : List (Key × V)), vs = ps.map V.ref ∧ Paired (fun p kv => SqT K H p [kV kv.1, kv.2]) ps kvs' ∧ RKV K W H kvs' kvs
  | [], _, _, h, r => by cases h; cases r; exact ⟨[], [], rfl, .nil, .nil⟩
  | .tup [k, v] :: ds, _, kvs, h, r => by
    simp only [pairsOf] at h
    obtain ⟨q, e1, h⟩ := Option.bind_eq_some_iff.mp h
    obtain ⟨kvs1, e2, rfl⟩ := Option.map_eq_some_iff.mp h
    cases r with
    | cons a b =>
      obtain ⟨ps, kvs', rfl, p1, p2⟩ := pairs_rps e2 b
      obtain ⟨t, ws, rfl, ht, _, rs⟩ := rq_tup (.of a)
      cases rs with
      | cons ra rb =>
        cases rb with
        | cons rb rc =>
          cases rc
          cases key_v ra e1
          exact ⟨t :: ps, (q, _) :: kvs', rfl, .cons ht.sqt p1, .cons ⟨rfl, rb⟩ p2⟩
  | .tup [] :: _, _, _, h, _ => by simp [pairsOf] at h
  | .tup [_] :: _, _, _, h, _ => by simp [pairsOf] at h
  | .tup (_ :: _ :: _ :: _) :: _, _, _, h, _ => by simp [pairsOf] at h
  | .int _ :: _, _, _, h, _ => by simp [pairsOf] at h
  | .non :: _, _, _, h, _ => by simp [pairsOf] at h
  | .bl _ :: _, _, _, h, _ => by simp [pairsOf] at h
  | .str _ :: _, _, _, h, _ => by simp [pairsOf] at h
  | .ty _ :: _, _, _, h, _ => by simp [pairsOf] at h
  | .lst _ :: _, _, _, h, _ => by simp [pairsOf] at h
  | .ref _ :: _, _, _, h, _ => by simp [pairsOf] at h
  | .scr _ :: _, _, _, h, _ => by simp [pairsOf] at h
  | .dct _ _ :: _, _, _, h, _ => by simp [pairsOf] at h
theorem dict_f : CallF K (rDictZ K) gDict := fun W H vs ds d Q wf r h k => by
  unfold gDict at h
  split at h
  · obtain ⟨kvs, e1, rfl⟩ := Option.map_eq_some_iff.mp h
    obtain ⟨v, rfl, r1⟩ := rqs1 r
    obtain ⟨a, ws, rfl, q, z, rs⟩ := rq_tup r1
    obtain ⟨ps, kvs', rfl, p1, p2⟩ := pairs_rps e1 rs
    refine ⟨a, ps, kvs', rfl, q, p1, by simpa using z, fun p hp => ?_⟩
    obtain ⟨m1, m2⟩ := rkv_rps (rkv_merge p2 .nil)
    rw [m1]
    exact k p _ hp (by rw [List.length_map, List.length_map]; have := m2.length; simpa using this.symm) m2
  · cases h

/-! ### d.get(k, x) -/
def dFind (ks : List Key) (ds : List D) (k : Key) : Option D := ((ks.zip ds).find? fun kv => decide (kv.1 = k)).map (·.2)
theorem find_rps {k : Key} : ∀ {ks : List Key} {vs : List V} {ds : List D}, Rps K W H vs ds →
    (valV (ks.zip vs) k = none ∧ dFind ks ds k = none) ∨ ∃ v d, valV (ks.zip vs) k = some v ∧ dFind ks ds k = some d ∧ Rp K W H v d
  | [], _, _, _ => .inl ⟨by simp [valV], by simp [dFind]⟩
  | _ :: _, _, _, .nil => .inl ⟨by simp [valV], by simp [dFind]⟩
  | k' :: ks, _, _, .cons (v := v) (d := d) a b => by
    by_cases e : k' = k
    · exact .inr ⟨v, d, by simp [valV, e], by simp [dFind, e], a⟩
    · rcases find_rps (k := k) (ks := ks) b with ⟨h1, h2⟩ | ⟨v', d', h1, h2, h3⟩
      · exact .inl ⟨by simpa [valV, e] using h1, by simpa [dFind, e] using h2⟩
      · exact .inr ⟨v', d', by simpa [valV, e] using h1, by simpa [dFind, e] using h2, h3⟩
end
def eGet2 (fo fe ff : Ex) : Ex := fun ρ S => (fo ρ S).bind fun p => (fe ρ p.2).bind fun q => (ff ρ q.2).bind fun r => match p.1 with
  | .dct ks ds => q.1.key.map fun k => ((dFind ks ds k).getD r.1, r.2)
  | _ => none
theorem rq_dct {K : Fw} {W : Wd} {H : Hp} {v : V} {ks : List Key} {ds : List D} (r : Rq K W H v (.dct ks ds)) : ∃ a vs, v = .ref a ∧ H a = some (.dK (ks.zip vs)) ∧ ks.length = vs.length ∧ Rps K W H vs ds := by
  cases r with
  | of r => cases r with
    | dct n h z rs => exact ⟨_, _, rfl, h, z, rs⟩
  | dct n h z rs => exact ⟨_, _, rfl, h, z, rs⟩
section
variable {X : Cx} {o e f : Expr} {fo fe ff : Ex} {apos cpos : Pos}
theorem e_get2 (hu : X.A.units + 1 < cLine) (ho : B X o fo) (he : E X e fe) (hf : E X f ff) (m : M2 X o "get" apos e f cpos) : E X (.Call (.Attribute o "get" apos) [e, f] [] cpos) (eGet2 fo fe ff) := pe_imp (pe_dget2 hu ho he hf m) fun σ H Q ⟨W, ρ, S, d, S', rl, hf, k⟩ => by
  unfold eGet2 at hf
  obtain ⟨⟨pd, S1⟩, e1, hf⟩ := Option.bind_eq_some_iff.mp hf
  obtain ⟨⟨qd, S2⟩, e2, hf⟩ := Option.bind_eq_some_iff.mp hf
  obtain ⟨⟨rd, S3⟩, e3, hf⟩ := Option.bind_eq_some_iff.mp hf
  cases pd with
  | dct ks ds =>
    obtain ⟨kk, e4, hf⟩ := Option.map_eq_some_iff.mp hf
    cases hf
    refine ⟨W, ρ, S, _, S1, rl, e1, fun v1 H1 s1 st1 r1 => ?_⟩
    have rl1 := rl.stepE s1 st1
    obtain ⟨a, vs, rfl, _, _, _⟩ := rq_dct r1
    refine ⟨a, rfl, ?_, W, ρ, S1, qd, S2, rl1, e2, fun v2 H2 s2 st2 r2 => ?_⟩
    · obtain ⟨a', vs, e, h, _, _⟩ := rq_dct r1
      cases e
      exact .inl ⟨_, .inl h⟩
    have rl2 := rl1.stepE s2 st2
    refine ⟨W, ρ, S2, rd, S3, rl2, e3, fun v3 H3 s3 st3 r3 => ?_⟩
    cases key_v r2 e4
    obtain ⟨a', vs, e, h, hl, rs⟩ := rq_dct (r1.stepE (s2.trans s3))
    cases e
    refine ⟨valV (ks.zip vs) kk, .k h, k _ _ ((s1.trans s2).trans s3) st3 ?_⟩
    rcases find_rps (k := kk) (ks := ks) rs with ⟨h1, h2⟩ | ⟨v', d', h1, h2, h3⟩
    · rw [h1, h2]; exact r3
    · rw [h1, h2]; exact h3
  | _ => cases hf
end

/-! ## 15. x.insert(i, y) -/
def gInsert : Cell → List D → Option (Cell × D)
  | .lst xs, [.int i, y] => if xs.length < sizeLine ∧ 0 ≤ i ∧ i < 2 ^ 63 then some (.lst (xs.take i.toNat ++ [y] ++ xs.drop i.toNat), .non) else none
  | _, _ => none
theorem insert_d {K : Fw} : MutD K (fun x vs H Q => ∃ (l : Addr) (xs : List V) (i : Int) (y : V), x = .ref l ∧ vs = [.int i, y] ∧ H l = some (.lst xs) ∧ xs.length < sizeLine ∧ 0 ≤ i ∧ i < 2 ^ 63 ∧
    Q .non (upd H l (.lst (xs.take i.toNat ++ [y] ++ xs.drop i.toNat)))) gInsert := fun W H a vs ds c c' d Q m cc rs h k => by
  unfold gInsert at h
  split at h
  · rename_i xs i y
    by_cases z : xs.length < sizeLine ∧ 0 ≤ i ∧ i < 2 ^ 63
    · rw [if_pos z] at h
      cases h
      obtain ⟨ws, e, hz, rw'⟩ := cc
      cases rs with
      | @cons y1 _ _ _ r1 r2 =>
        cases r2 with
        | @cons y2 _ _ _ r2 r3 =>
          cases r3
          cases rp_int r1
          have kp : Kps K W H W (upd H a (.lst (ws.take i.toNat ++ [y2] ++ ws.drop i.toNat))) := kps_cell e trivial m
          refine ⟨a, ws, i, y2, rfl, rfl, e, by rw [rw'.length]; exact z.1, z.2.1, z.2.2, k _ _ ⟨_, upd_same, ?_, (((rw'.take i.toNat).append (.cons r2 .nil)).append (rw'.drop i.toNat)).keeps kp⟩ .non⟩
          have := rw'.length
          rw [List.length_append, List.length_append, List.length_take, List.length_drop, List.length_singleton]
          omega
    · rw [if_neg z] at h; cases h
  · cases h
theorem insert_l : ∀ c ds z, gInsert c ds = some z → isLst c = true := fun c ds z h => by
  cases c with
  | lst xs => rfl
  | dct ks vs => cases h
  | dn b ks vs => cases h

/-! ## 16. a new list goes into the store -/
def sPub (i : Nat) (g : Stm) : Stm := fun ρ S => match ρ[i]? with
  | some (.ow c) => g (ρ.set i (.sh (.ref S.length))) (S ++ [c])
  | _ => none
def Wd.pub (W : Wd) (i : Nat) (a : Addr) : Wd := { W with θ := W.θ ++ [a], α := fun j => if j = i then none else W.α j }
theorem pub_rel {K : Fw} {W : Wd} {H : Hp} {σ : L2.St} {ρ : Rho} {S : Sto} {i : Nat} {c : Cell} (rl : Rel K W H σ ρ S) (hi : ρ[i]? = some (.ow c)) : ∃ a, StepS W H (W.pub i a) H ∧ Rel K (W.pub i a) H σ (ρ.set i (.sh (.ref S.length))) (S ++ [c]) := by
  have wf := rl.wf
  obtain ⟨a, h1, h2, h3⟩ := rl.sl i _ hi
  have al : ∀ {j b}, (W.pub i a).α j = some b → j ≠ i ∧ W.α j = some b := fun {j b} h => by
    unfold Wd.pub at h
    by_cases e : j = i
    · simp only [e, if_pos] at h; cases h
    · simp only [if_neg e] at h; exact ⟨e, h⟩
  have tm : ∀ b, b ∈ (W.pub i a).θ → b ∈ W.θ ∨ b = a := fun b h => by simpa [Wd.pub] using h
  have mt : ∀ b, Mt (W.pub i a) b → Mt W b := fun b m => m.elim (fun z => (tm b z).elim .inl fun e => .inr ⟨i, by rw [e]; exact h2⟩) fun ⟨j, h⟩ => .inr ⟨j, (al h).2⟩
  have st : StepS W H (W.pub i a) H := ⟨rfl, ⟨[a], rfl⟩, fun b h n => (tm b h).elim (fun z => absurd z n) fun e => .inl ⟨i, by rw [e]; exact h2⟩, fun b o h n => ⟨h, fun m => n (mt b m)⟩, fun _ _ h => h, fun _ _ _ h => h, fun _ o h => ⟨o, h⟩⟩
  have ha := wf.dis i a h2
  refine ⟨a, st, by rw [List.length_set]; exact rl.len, fun j x e => ?_, ⟨by show (W.θ ++ [a]).length = _; rw [List.length_append, List.length_append, rl.st.1]; rfl, fun l b cc e1 e2 => ?_⟩, ⟨?_, fun j l b h1 h2 => wf.inj j l b (al h1).2 (al h2).2, fun j b h => ⟨fun m => ?_, (wf.dis j b (al h).2).2⟩, fun b m => wf.dom b (m.elim .inl fun z => .inr (mt b z))⟩⟩
  · by_cases hj : i = j
    · subst hj
      rw [List.getElem?_set_self (List.getElem?_eq_some_iff.mp hi).1] at e
      cases e
      refine ⟨.ref a, h1, .ref ?_⟩
      show (W.θ ++ [a])[S.length]? = some a
      rw [← rl.st.1, List.getElem?_append_right (Nat.le_refl _), Nat.sub_self]
      rfl
    · rw [List.getElem?_set_ne hj] at e
      have q := rl.sl j x e
      cases x with
      | un => trivial
      | sh d => obtain ⟨v, q1, q2⟩ := q; exact ⟨v, q1, q2.step st⟩
      | ow cc =>
        obtain ⟨b, q1, q2, q3⟩ := q
        exact ⟨b, q1, by show (if j = i then none else W.α j) = some b; rw [if_neg (Ne.symm hj)]; exact q2, q3.keeps st.keeps rfl⟩
  · have e1' : (W.θ ++ [a])[l]? = some b := e1
    rcases Nat.lt_or_ge l W.θ.length with z | z
    · rw [List.getElem?_append_left z] at e1'
      rw [List.getElem?_append_left (by rw [← rl.st.1]; exact z)] at e2
      exact (rl.st.2 l b cc e1' e2).keeps st.keeps rfl
    · rw [List.getElem?_append_right z] at e1'
      rw [List.getElem?_append_right (by rw [← rl.st.1]; exact z)] at e2
      have hz : l - W.θ.length = 0 := by
        cases hq : l - W.θ.length with
        | zero => rfl
        | succ n => rw [hq] at e1'; simp at e1'
      rw [hz] at e1'
      rw [← rl.st.1, hz] at e2
      cases e1'
      cases e2
      exact h3.keeps st.keeps rfl
  · show (W.θ ++ [a]).Nodup
    rw [List.nodup_append]
    refine ⟨wf.nd, by simp, fun x hx y hy => ?_⟩
    simp at hy
    subst hy
    exact fun e => ha.1 (e ▸ hx)
  · rcases tm b m with z | z
    · exact (wf.dis j b (al h).2).1 z
    · subst z
      exact (al h).1 (wf.inj j i b (al h).2 h2)
section
variable {X : Cx} {rest : List Stmt} {a : Stm}
theorem pub_d {K : Fw} {g : Stm} {i : Nat} {Z : Ends} {σ : L2.St} {H : Hp} (h : tS K (sPub i g) Z σ H) : tS K g Z σ H := by
  obtain ⟨W, ρ, S, o, rl, hf, k⟩ := h
  unfold sPub at hf
  split at hf
  · rename_i c e
    obtain ⟨b, s1, r1⟩ := pub_rel rl e
    exact ⟨_, _, _, o, r1, hf, k.before s1⟩
  · cases hf
theorem ss_pub (i : Nat) (h : SS X rest a) : SS X rest (sPub i a) := pss_imp h fun _ _ _ h => pub_d h
end

/-! ## 17. a def that gives a new list -/
def spN (K : Fw) (n : Nat) (F : Fn) : Sp := fun vs H Q _ => ∃ (W : Wd) (ds : List D) (S : Sto) (d : D) (S' : Sto), ds.length = n ∧ Rps K W H vs ds ∧ StOk K W H S ∧ WfW W H ∧ F ds S = some (d, S') ∧
  ∀ v H', StepE W.θ H H' → Rf K W H H' S' v d → Q v H'
def fnE (n : Nat) (f : Ex) : Fn := fun ds S => f (rho0 n ds) S
section
variable {P : Program} {w : World} {K : PySem.W.Frag} {mg : Str → Option Value} {base : Heap}
theorem fnN_ok {x qual : Str} {st : Stmt} {f : Addr} {fd : FuncData} {N ps : List Str} {k : Nat} {g : Ex} (F : Fun K x qual st f fd) (Sc : FnScope N ps (defScope st)) (hl : ps.length ≤ N.length)
    (hb : ∀ (cdv : Value) (A : Around) (outer : List Env) (s : Shared) (H : Hp) (E : XK), Room k (A.deeper (envOfC qual (defScope st) s.heap.objs.size f cdv)) → PSs (cxOf CX0 P w K mg base N qual (defScope st) f cdv A outer s H E).nox (defBody st) fun Z σ H => tF ⟨K, w, P⟩ g σ H Z.rt) :
    FnOk P w K mg base CX0 (k + 1) f fd ps (spN ⟨K, w, P⟩ ps.length (fnE N.length g)) := by
  refine F.ok Sc (fun vs H Q E h => ?_) (fun cdv A outer s H vs Q E hr h => ?_)
  · obtain ⟨W, ds, S, d, S', hn, rs, _⟩ := h
    rw [rs.length]; exact hn
  · obtain ⟨W, ds, S, d, S', hn, rs, st0, wf, hf, k0⟩ := h
    refine ⟨_, hb cdv A outer s H E hr, ?_⟩
    have m0 : ∀ b, Mu (⟨W.θ, Mu W, fun _ => none⟩ : Wd) b ↔ Mu W b := fun b => by
      constructor
      · rintro (m | m | ⟨j, m⟩)
        · exact m
        · exact .inr (.inl m)
        · cases m
      · exact .inl
    have kp0 : Kps ⟨K, w, P⟩ W H (⟨W.θ, Mu W, fun _ => none⟩ : Wd) H := Kps.less rfl fun b m => (m0 b).mp m
    have wf0 : WfW (⟨W.θ, Mu W, fun _ => none⟩ : Wd) H := ⟨wf.nd, (fun i j a h => (by cases h)), (fun i a h => (by cases h)), fun a m => wf.dom a ((m0 a).mp m)⟩
    have rs0 := rs.keeps kp0
    have rl0 : Rel ⟨K, w, P⟩ (⟨W.θ, Mu W, fun _ => none⟩ : Wd) H (L2.start N vs) (rho0 N.length ds) S := by
      refine ⟨?_, rho0_slot rs0, st0.keeps rfl kp0 fun _ _ => rfl, wf0⟩
      rw [rho0_length (by rw [hn]; exact hl)]
      unfold L2.start
      rw [List.length_append, List.length_map, List.length_replicate, rs.length]
      omega
    refine ⟨_, _, S, d, S', rl0, hf, fun v H' s r => k0 v H' s ?_⟩
    have kl : ∀ a, Kps ⟨K, w, P⟩ ((⟨W.θ, Mu W, fun _ => none⟩ : Wd).plus a) H' (W.plus a) H' := fun a => Kps.less rfl fun b m => mu_plus.mpr ((mu_plus.mp m).imp (m0 b).mpr id)
    cases r with
    | lst n e z st r => exact .lst n e z (st.keeps rfl (kl _) fun _ _ => rfl) (r.keeps (kl _))
    | dct n e z st r => exact .dct n e z (st.keeps rfl (kl _) fun _ _ => rfl) (r.keeps (kl _))
end
section
variable {X : Cx} {e : Expr} {fs : Ars}
theorem n_call {F : Fn} {n : Nat} (h : PE X e (tCall (spN (FX X) n F) [] E0 (tA (FX X) fs))) (hn : ∀ (ρ : Rho) (S S' : Sto) (ds : List D), fs ρ S = some (ds, S') → ds.length = n) : N X e (eCall F fs) := pe_imp h fun σ H Q ⟨W, ρ, S, d, S', rl, hf, k⟩ => by
  unfold eCall at hf
  cases e1 : fs ρ S with
  | none => rw [e1] at hf; cases hf
  | some p =>
    rw [e1, Option.bind_some] at hf
    refine ⟨W, ρ, S, p.1, p.2, rl, e1, fun vs H1 s1 st1 r1 => ?_⟩
    show spN (FX X) n F (vs ++ []) H1 Q E0
    rw [List.append_nil]
    exact ⟨W, p.1, p.2, d, S', hn _ _ _ _ e1, r1, st1, rl.wf.stepE s1, hf, fun v H2 s2 r2 => k v H2 (s1.trans s2) (r2.before s1)⟩
theorem ret_n {pos : Pos} {f : Ex} (h : N X e f) : PSs X [.Return (some e) pos] fun Z σ H => tF (FX X) f σ H Z.rt := by
  exact pss_imp (pss_one (ps_ret h)) fun Z σ H q => q
end
end DL

set_option Elab.async false
set_option linter.all false
set_option maxRecDepth 100000
namespace DL
open PySem PySem.Spec PyProof.Rows L2

/-! ## 18. a, b = x, y -/
def sPar (i j : Nat) (fs : Ars) : Stm := fun ρ S => (fs ρ S).bind fun p => match p.1 with
  | [x, y] => some (.nx ((ρ.set i (.sh x)).set j (.sh y)) p.2)
  | _ => none
def sPar3 (i j l : Nat) (fs : Ars) : Stm := fun ρ S => (fs ρ S).bind fun p => match p.1 with
  | [x, y, z] => some (.nx (((ρ.set i (.sh x)).set j (.sh y)).set l (.sh z)) p.2)
  | _ => none
section
variable {X : Cx} {st : Stmt} {fs : Ars}
theorem st_par {i j : Nat} (h : PS X st (tPar i j (tA (FX X) fs))) : ST X st (sPar i j fs) := ps_imp h fun Z σ H ⟨W, ρ, S, o, rl, hf, k⟩ => by
  unfold sPar at hf
  obtain ⟨⟨ds, S1⟩, e1, hf⟩ := Option.bind_eq_some_iff.mp hf
  refine ⟨W, ρ, S, ds, S1, rl, e1, fun vs H1 s1 st1 r1 => ?_⟩
  have rl1 := rl.stepE s1 st1
  match ds, hf with
  | [x, y], hf =>
    cases hf
    cases r1 with
    | @cons v _ _ _ r1 r2 =>
      cases r2 with
      | @cons v2 _ _ _ r2 r3 =>
        cases r3
        exact ⟨v, v2, rfl, k W _ H1 s1.toS ((rl1.setSh r1).setSh r2)⟩
theorem st_par3 {i j l : Nat} (h : PS X st (tPar3 i j l (tA (FX X) fs))) : ST X st (sPar3 i j l fs) := ps_imp h fun Z σ H ⟨W, ρ, S, o, rl, hf, k⟩ => by
  unfold sPar3 at hf
  obtain ⟨⟨ds, S1⟩, e1, hf⟩ := Option.bind_eq_some_iff.mp hf
  refine ⟨W, ρ, S, ds, S1, rl, e1, fun vs H1 s1 st1 r1 => ?_⟩
  have rl1 := rl.stepE s1 st1
  match ds, hf with
  | [x, y, z], hf =>
    cases hf
    cases r1 with
    | @cons v _ _ _ r1 r2 =>
      cases r2 with
      | @cons v2 _ _ _ r2 r3 =>
        cases r3 with
        | @cons v3 _ _ _ r3 r4 =>
          cases r4
          exact ⟨v, v2, v3, rfl, k W _ H1 s1.toS (((rl1.setSh r1).setSh r2).setSh r3)⟩
end
theorem tF_D {K : Fw} {f : Ex} {σ : L2.St} {H : Hp} {Q : VK} (h : tD K f σ H Q) : tF K f σ H Q := by
  obtain ⟨W, ρ, S, d, S', r, hf, k⟩ := h
  exact ⟨W, ρ, S, d, S', r, hf, fun v H' s rp => k v H' s rp.st (rp.rp r.wf)⟩
/-! ## 19. how many arguments -/
def AL (fs : Ars) (n : Nat) : Prop := ∀ (ρ : Rho) (S S' : Sto) (ds : List D), fs ρ S = some (ds, S') → ds.length = n
theorem al0 : AL aNil 0 := aNil_len
theorem alS {f : Ex} {fs : Ars} {n : Nat} (h : AL fs n) : AL (aCons f fs) (n + 1) := aCons_len h
/-! ## 20. what the names of builtins give -/
theorem bt_len : bootBuiltins "len" = some (.builtin "len") := by decide +kernel
theorem bt_sum : bootBuiltins "sum" = some (.builtin "sum") := by decide +kernel
theorem bt_all : bootBuiltins "all" = some (.builtin "all") := by decide +kernel
theorem bt_any : bootBuiltins "any" = some (.builtin "any") := by decide +kernel
theorem bt_abs : bootBuiltins "abs" = some (.builtin "abs") := by decide +kernel
theorem bt_max : bootBuiltins "max" = some (.builtin "max") := by decide +kernel
theorem bt_min : bootBuiltins "min" = some (.builtin "min") := by decide +kernel
theorem bt_sorted : bootBuiltins "sorted" = some (.builtin "sorted") := by decide +kernel
theorem bt_isinstance : bootBuiltins "isinstance" = some (.builtin "isinstance") := by decide +kernel
theorem bt_repr : bootBuiltins "repr" = some (.builtin "repr") := by decide +kernel
theorem bt_int : bootBuiltins "int" = some (.type "int") := by decide +kernel
theorem bt_tuple : bootBuiltins "tuple" = some (.type "tuple") := by decide +kernel
theorem bt_list : bootBuiltins "list" = some (.type "list") := by decide +kernel
theorem bt_dict : bootBuiltins "dict" = some (.type "dict") := by decide +kernel
theorem bt_set : bootBuiltins "set" = some (.type "set") := by decide +kernel
theorem bt_bool : bootBuiltins "bool" = some (.type "bool") := by decide +kernel
theorem bt_str : bootBuiltins "str" = some (.type "str") := by decide +kernel
end DL
namespace DL
open PySem PySem.Spec PyProof.Rows L2
/-! ## 21. a def of the top, as the walk finds it -/
structure DefAt (K : PySem.W.Frag) (mg : Str → Option Value) (x q : Str) (st : Stmt) (ps : List Str) where
  f : Addr
  d : FuncData
  F : Fun K x q st f d
  m : mg x = some (.ref f)
  k : PySem.W.keepIn K (.ref f) = true
  b : Binds K d ps []
end DL

set_option Elab.async false
set_option linter.all false
set_option maxRecDepth 100000
namespace DL
open PySem PySem.Spec PyProof.Rows L2

/-! ## 22. the law's def, and the top -/
def spLaw (K : PySem.W.Frag) : Sp := fun vs H Q _ => ∃ (a : Addr) (ns : List Int), vs = [.ref a] ∧ ScrAt K H a ns ∧ ns.length ≤ 63 ∧ ∀ H', Q (.bl true) H'
theorem scr_of {K : PySem.W.Frag} {H : Hp} {a : Addr} {ns : List Int} (o : Only H) (h : SqL K H a (ns.map V.int)) : ScrAt K H a ns := by
  rcases h with (h | ⟨ob, h⟩) | h
  · rcases o a with e | ⟨ob, xs, e⟩
    · rw [h] at e; cases e
    · rw [h] at e; cases e
  · exact .inl ⟨ob, h⟩
  · exact .inr h
section
variable {P : Program} {w : World} {K : PySem.W.Frag} {mg : Str → Option Value} {base : Heap}
theorem fnL_ok {x qual : Str} {st : Stmt} {f : Addr} {fd : FuncData} {N ps : List Str} {k : Nat} {b : Stm} (F : Fun K x qual st f fd) (Sc : FnScope N ps (defScope st)) (hl : ps.length ≤ N.length) (h1 : ps.length = 1)
    (hb : ∀ (cdv : Value) (A : Around) (outer : List Env) (s : Shared) (H : Hp) (E : XK), Room k (A.deeper (envOfC qual (defScope st) s.heap.objs.size f cdv)) → SS (cxOf CX0 P w K mg base N qual (defScope st) f cdv A outer s H E).nox (defBody st) b)
    (math : ∀ ns : List Int, ns.length ≤ 63 → ∃ S', b (rho0 N.length [.scr ns]) [] = some (.rt (.bl true) S')) :
    FnOk P w K mg base CX0 (k + 1) f fd ps (spLaw K) := by
  refine F.ok Sc (fun vs H Q E h => ?_) (fun cdv A outer s H vs Q E hr h => ?_)
  · obtain ⟨a, ns, rfl, _⟩ := h
    exact h1.symm
  · obtain ⟨a, ns, rfl, hs, hn, k0⟩ := h
    refine ⟨_, hb cdv A outer s H E hr, ?_⟩
    obtain ⟨S', e⟩ := math ns hn
    have hm : ∀ b, ¬ Mu (⟨[], fun _ => False, fun _ => none⟩ : Wd) b := fun b m => by
      rcases m with m | m | ⟨j, m⟩
      · exact m
      · cases m
      · cases m
    have wf0 : WfW (⟨[], fun _ => False, fun _ => none⟩ : Wd) H := ⟨List.nodup_nil, (fun i j a h => (by cases h)), (fun i a h => (by cases h)), fun a m => absurd m (hm a)⟩
    have hz : ns.length ≤ sizeLine := Nat.le_trans hn (by decide)
    have rs0 : Rps ⟨K, w, P⟩ (⟨[], fun _ => False, fun _ => none⟩ : Wd) H [.ref a] [.scr ns] := .cons (.scr hz hs) .nil
    have rl0 : Rel ⟨K, w, P⟩ (⟨[], fun _ => False, fun _ => none⟩ : Wd) H (L2.start N [.ref a]) (rho0 N.length [.scr ns]) [] := by
      refine ⟨?_, rho0_slot rs0, ⟨rfl, fun l a c e => by simp at e⟩, wf0⟩
      rw [rho0_length (by show 1 ≤ N.length; omega)]
      unfold L2.start
      rw [List.length_append, List.length_map, List.length_replicate]
      show 1 + (N.length - 1) = N.length
      omega
    exact ⟨_, _, _, _, rl0, e, fun W' v H' _ _ _ r => by cases r; exact k0 H'⟩
theorem defAt_mk {h : Heap} {x q : Str} {st : Stmt} {ps : List Str} {f : Addr} {oc : Value} {od an : Option Addr} {osl : Array (Option Value)} {kV doc pm cdv ct : Value} (X : K.In h) (G : h.Ns mainGlobals mg)
    (a : PySem.W.nsIn K mainGlobals x = some (some (.ref f))) (l : K.lookup f = some ⟨oc, od, .func (PySem.W.fnOf x q (defArgs st) (defBody st) (defScope st) .none kV doc pm an cdv ct), osl⟩)
    (c : PySem.W.codeIn K cdv q = true) (k : PySem.W.keepIn K (.ref f) = true)
    (b : ∀ (kV doc pm : Value) (an : Option Addr) (cdv ct : Value) (us : List Value), us.length = ps.length → bindArgs (PySem.W.fnOf x q (defArgs st) (defBody st) (defScope st) .none kV doc pm an cdv ct) ⟨us, []⟩ = pure (ps.zip us)) :
    mg x = some (.ref f) ∧ Fun K x q st f (PySem.W.fnOf x q (defArgs st) (defBody st) (defScope st) .none kV doc pm an cdv ct) ∧ Binds K (PySem.W.fnOf x q (defArgs st) (defBody st) (defScope st) .none kV doc pm an cdv ct) ps [] :=
  ⟨PySem.W.mg_of X G a, fun_mk (st := st) l c k, (fun_mk (st := st) l c k).binds b⟩
theorem walkD {l : PySem.W.OpenLaw} {k : Nat} {q : Program} {loose : List Str} {XP : (Str → Option Value) → Heap → Prop} {YP : World → Heap → Prop} {d : DefRec} {K : Params → PySem.W.Frag} (hr : Room k callerA) (hn : l.most = some 63) (hdf : d.params.defaults = [])
    (hY : ∀ (w : World) (h : Heap), YP w h → (K w.params).In h)
    (F : ∀ (w : World) (mg : Str → Option Value) (fa : Addr) (h : Heap), (K w.params).In h → h.Ns mainGlobals mg → mg d.name = some (.ref fa) →
      ∃ fd : FuncData, (∀ (s : Shared) (u : Value), BindsTo s fd ⟨[u], []⟩ [("script", u)]) ∧ ∀ base : Heap, (K w.params).In base → base.Ns mainGlobals mg → FnOk l.prog w (K w.params) mg base CX0 k fa fd ["script"] (spLaw (K w.params))) :
    PySem.W.WalkO q loose XP YP l.row.toRowW d [] (fun f vs => PySem.call f vs) :=
  L2.walk_of (n := 63) (k := k) (x := "script") (CX := fun _ => CX0) (sp := fun w => spLaw (K w.params)) hn (by decide) hdf hr hY F (fun _ _ a ns hl ho hS => ⟨a, ns, rfl, scr_of ho hS, hl, fun _ => rfl⟩) fun _ _ _ _ _ z => z
end
end DL

set_option Elab.async false
set_option linter.all false
set_option maxRecDepth 100000
namespace DL
open PySem PySem.Spec PyProof.Rows L2

/-! ## 23. defs that are run where no guard is under way (repr asks that) -/
/-- the promise of a def, where the stack holds no guard -/
structure FnG (P : Program) (w : World) (K : PySem.W.Frag) (mg : Str → Option Value) (base : Heap) (k : Nat) (f : Addr) (fd : FuncData) (ps : List Str) (sp : Sp) : Prop where
  len : ∀ vs H Q E, sp vs H Q E → vs.length = ps.length
  go : ∀ (A : Around) (outer : List Env) (s : Shared) (H : Hp) (args : Args) (us : List Value) (vs : List V) (Q : VK) (E : XK), A.guards = some [] → Room k A → Env0 P w K mg base A outer s H → BindsTo s fd args (ps.zip us) → Vals vs us → sp vs H Q E →
    codeAny (model P w) A (.call (.ref f) args) (CR CX0 outer P w H s Q E) s
section
variable {P : Program} {w : World} {K : PySem.W.Frag} {mg : Str → Option Value} {base : Heap} {j k : Nat} {f : Addr} {fd : FuncData} {N ps : List Str} {sp : Sp}
theorem FnG.of (F : FnOk P w K mg base CX0 k f fd ps sp) : FnG P w K mg base k f fd ps sp := ⟨F.len, fun A outer s H args us vs Q E _ => F.run A outer s H args us vs Q E⟩
theorem funG_ok {x qual : Str} {st : Stmt} (F : Fun K x qual st f fd) (S : FnScope N ps (defScope st)) (len : ∀ vs H Q E, sp vs H Q E → vs.length = ps.length)
    (hb : ∀ (cdv : Value) (A : Around) (outer : List Env) (s : Shared) (H : Hp) (vs : List V) (Q : VK) (E : XK), A.guards = some [] → Room k (A.deeper (envOfC qual (defScope st) s.heap.objs.size f cdv)) → sp vs H Q E →
      ∃ t, PSs (cxOf CX0 P w K mg base N qual (defScope st) f cdv A outer s H E).nox (defBody st) t ∧ t { nx := fun _ H' => Q .non H', rt := Q } (start N vs) H) : FnG P w K mg base (k + 1) f fd ps sp := by
  obtain ⟨oc, od, kV, doc, pm, an, cdv, ct, osl, efd, lk, hcd⟩ := F.ex
  subst efd
  constructor
  · exact len
  · intro A outer s H args us vs Q E hG hr e0 hbind rel hsp
    have cnt := len _ _ _ _ hsp
    have up : ∀ b o, base.get? b = some o → s.heap.get? b = some o := fun b o e => (e0.bs b o e).1
    have KX : K.In s.heap := e0.mod.kin.keeps up
    have kinds : ∀ y ∈ ps.zip us, (defScope st).names.lookup y.1 = some .local ∨ ((defScope st).names.lookup y.1 = some .cell ∧ ((cellsFrom (s.heap.objs.size + 1) (defScope st).names []).lookup y.1).isSome = true) := by
      rintro ⟨n, v⟩ hy
      cases S.par n (List.of_mem_zip hy).1 with
      | inl q => exact .inl q
      | inr q => exact .inr ⟨q, PySem.W.cellsFrom_some _ _ _ (.inl q)⟩
    have rec_ := PySem.W.codeRec_of KX hcd
    refine codeAny_call_function hr.depth (KX _ _ lk) rfl S.co S.gen rfl rec_ (hbind _ _ _ _ (wpAny_newFunctionEnv_cells S.kind kinds fun env eEnv s1 moved => ?_))
    subst eEnv
    obtain ⟨t, ht, hq⟩ := hb cdv A outer s H vs Q E hG (hr.deeper _) hsp
    have start_inv : Inv (cxOf CX0 P w K mg base N qual (defScope st) f cdv A outer s H E) [] (start N vs) H s1 := inv_start S hr.hd e0 cnt rel moved
    refine ⟨(e0.mod.nolimit.keeps up).keeps moved.toInCall.keep, codeAny_func (wpAny_mono (ht.nox.run [] s1 (start N vs) H _ start_inv hq) (fun fl s' hs => ?_) fun _ _ hs => hs)⟩
    cases fl with
    | ret u => obtain ⟨v, σ', H', J, rv, q⟩ := hs; exact ⟨v, H', J.os, J.bare, J.base, J.hok, rv, q⟩
    | next => obtain ⟨σ', H', J, q⟩ := hs; exact ⟨V.non, H', J.os, J.bare, J.base, J.hok, rfl, q⟩
    | brk => obtain ⟨_, _, _, q⟩ := hs; exact q.elim
    | cont => obtain ⟨_, _, _, q⟩ := hs; exact q.elim
end
section
variable {X : Cx} {k : Nat} {f : Addr} {fd : FuncData} {ps : List Str} {sp : Sp} {x : Str} {p pos : Pos} {e : Expr} {es : List Expr} {t : TA}
theorem pe_callG (hG : X.A.guards = some []) (F : FnG X.prog X.w X.K X.mg X.base k f fd ps sp) (hr : Room k X.A) (hg : Gl X x) (hm : X.mg x = some (.ref f)) (hk : PySem.W.keepIn X.K (.ref f) = true) (hb : Binds X.K fd ps []) (ha : PA X (e :: es) t)
    (hdb : (x == ("__debug__" : Str)) = false := by decide) (he : starEach (e :: es) X.env = (false, eval e X.env) :: starEach es X.env := by rfl) (hpl : (backTo pos (starEach es X.env)).any (·.1) = false := by rfl) : PE X (.Call (.Name x p) (e :: es) [] pos) (tCall sp [] E0 t) := by
  refine ⟨fun pins s σ H Q I h => wpAny_Call_Name_kw (ld_glob I hg hm ?_ hdb)⟩
  refine PySem.W.callWith_K (h₀ := X.base) I.ok.mod.kin hk (thn (ha.run pos pins s σ H _ I h) fun us s1 ⟨vs, H1, I1, rel, q⟩ => ⟨I1.kIn, ?_⟩) he hpl
  have q' : sp vs H1 Q E0 := by
    have : sp (vs ++ []) H1 Q E0 := q
    rwa [List.append_nil] at this
  have cnt : us.length = ps.length := by rw [← rel.length]; exact F.len _ _ _ _ q'
  have bd : BindsTo s1 fd ⟨us, []⟩ (ps.zip us) := by
    have := hb s1 us I1.kIn (by rw [List.append_nil]; exact cnt)
    rwa [List.append_nil] at this
  refine wpAny_call (codeAny_mono (F.go X.A X.stack s1 H1 ⟨us, []⟩ us vs Q E0 hG hr I1.env0 bd rel q') fun r s' hq => ?_)
  match r, hq with
  | .ok (.ret u), hq => exact I1.after hq
  | .error e, hq => exact hq.elim
end
end DL

set_option Elab.async false
set_option linter.all false
set_option maxRecDepth 100000
namespace DL
open PySem PySem.Spec PyProof.Rows L2
/-! ## 24. the law's call, where no guard is under way -/
section
variable {P : Program} {w : World} {K : PySem.W.Frag} {mg mb : Str → Option Value} {k : Nat} {fa a : Addr} {fd : FuncData} {x : Str} {s₁ : Shared} {vs : List Value} {ns : List Int}
/-- the call over a ghost heap that knows the script at most -/
theorem law_core (KX : K.In s₁.heap) (hns : s₁.heap.Ns mainGlobals mg) (hb : s₁.heap.Ns builtinsNs mb) (hbb : ∀ x : Str, x ≠ "__name__" → mb x = bootBuiltins x) (hlim : s₁.heap.NoLimit) (hg : s₁.gens = #[])
    (ha : s₁.heap.get? a = some { cls := .type "list", data := .seq vs.toArray }) (hr : Room k callerA)
    (F : ∀ base : Heap, K.In base → base.Ns mainGlobals mg → FnG P w K mg base k fa fd [x] (spLaw K)) (hbind : ∀ (s : Shared) (u : Value), BindsTo s fd ⟨[u], []⟩ [(x, u)])
    {H : Hp} (hO : Only H) (hS : SqL K H a (ns.map V.int)) (hz : ns.length ≤ 63) (hok : HOk P w H s₁.heap) (hA : ∀ b, H b ≠ none → b = a) (hK : H a ≠ none → K.lookup a = none) :
    codeAny (model P w) callerA (.call (.ref fa) ⟨[.ref a], []⟩) (fun r s' => r = .ok (.ret (.bool true)) ∧ OldK s₁.heap s'.heap ∧ s'.os = s₁.os ∧ AllBare s'.gens) s₁ := by
  have old : ∀ {b : Addr} {o : Obj}, s₁.heap.get? b = some o → H b = none → (hidT s₁.heap H).get? b = some o := fun e n => hidT_get e n
  have off : ∀ {b : Addr} {o : Obj} {es : Array DictEntry} {ep : Nat}, s₁.heap.get? b = some o → o.data = .dict es ep → H b = none := by
    intro b o es ep e d
    by_cases q : H b = none
    · exact q
    · rw [hA b q, ha] at e
      cases e
      exact nomatch (show Data.seq vs.toArray _ = Data.dict es ep from d)
  have keepNs : ∀ {b : Addr} {m : Str → Option Value}, s₁.heap.Ns b m → (hidT s₁.heap H).Ns b m := fun {b m} h => by
    obtain ⟨o, es, ep, e, d, r⟩ := h
    exact ⟨o, es, ep, old e (off e d), d, r⟩
  have hKb : K.In (hidT s₁.heap H) := fun b o e => old (KX b o e) (by
    by_cases q : H b = none
    · exact q
    · have eb := hA b q
      rw [eb] at q e
      rw [hK q] at e
      cases e)
  obtain ⟨mc, c1, c2⟩ := hlim
  have M : Mod K mg (hidT s₁.heap H) := ⟨hKb, keepNs hns, ⟨mb, keepNs hb, hbb⟩, ⟨mc, keepNs c1, c2⟩⟩
  have e0 : Env0 P w K mg (hidT s₁.heap H) callerA [] s₁ H := ⟨rfl, M, fun b o e => of_hidT e, Nat.le_of_eq (hidT_size _ _), trivial, fun b hb => (List.not_mem_nil hb).elim, hok, .of_eq hg⟩
  have sp0 : spLaw K [.ref a] H (fun v _ => v = .bl true) E0 := ⟨a, ns, rfl, scr_of hO hS, hz, fun _ => rfl⟩
  refine codeAny_mono ((F _ hKb (keepNs hns)).go callerA [] s₁ H ⟨[.ref a], []⟩ [.ref a] [.ref a] _ _ rfl hr e0 (hbind s₁ (.ref a)) (.cons rfl .nil) sp0) fun r s' h => ?_
  match r, h with
  | .error e, h => exact h.elim
  | .ok (.ret u), h =>
    obtain ⟨v, H', os, bare, un, hok', rv, q⟩ := h
    cases (show v = .bl true from q)
    obtain rfl : u = Value.bool true := rv
    refine ⟨rfl, OldK.of_keep fun b o e => ?_, os, bare⟩
    rcases hO b with z | ⟨ob, xs, z⟩
    · exact un.keep b o e z (List.not_mem_nil (a := b)) (by simp)
    · obtain ⟨e1, _⟩ := hok b _ z
      obtain ⟨e2, _⟩ := hok' b _ (un.frzs b ob _ z)
      rw [e] at e1
      cases e1
      exact e2
theorem law_callG (KX : K.In s₁.heap) (hns : s₁.heap.Ns mainGlobals mg) (hb : s₁.heap.Ns builtinsNs mb) (hbb : ∀ x : Str, x ≠ "__name__" → mb x = bootBuiltins x) (hlim : s₁.heap.NoLimit) (hg : s₁.gens = #[])
    (ha : s₁.heap.get? a = some { cls := .type "list", data := .seq vs.toArray }) (hi : IntsAre vs ns) (hz : ns.length ≤ 63) (hr : Room k callerA)
    (F : ∀ base : Heap, K.In base → base.Ns mainGlobals mg → FnG P w K mg base k fa fd [x] (spLaw K)) (hbind : ∀ (s : Shared) (u : Value), BindsTo s fd ⟨[u], []⟩ [(x, u)]) :
    codeAny (model P w) callerA (.call (.ref fa) ⟨[.ref a], []⟩) (fun r s' => r = .ok (.ret (.bool true)) ∧ OldK s₁.heap s'.heap ∧ s'.os = s₁.os ∧ AllBare s'.gens) s₁ := by
  have rv := vals_ints hi
  have lenV := hi.length
  have hl : ns.length ≤ sizeLine := Nat.le_trans hz (by decide)
  cases hk : K.lookup a with
  | some o =>
    have e := KX a o hk
    rw [ha] at e
    cases e
    have h0 : ∀ b, (fun _ => none : Hp) b ≠ none → b = a := fun b z => (z rfl).elim
    exact law_core KX hns hb hbb hlim hg ha hr F hbind (H := fun _ => none) (fun _ => .inl rfl) (.inr ⟨_, vs.toArray, _, hk, rfl, rfl, rfl, by rw [List.size_toArray, lenV]; exact hl, by simpa using rv⟩) hz (fun b u z => nomatch z) h0 fun z => (z rfl).elim
  | none =>
    let o : Obj := { cls := .type "list", data := .seq vs.toArray }
    let H : Hp := upd (fun _ => none) a (.frz o (.lst (ns.map V.int)))
    have at_a : H a = some (.frz o (.lst (ns.map V.int))) := upd_same
    have at_b : ∀ b, b ≠ a → H b = none := fun b hb => upd_ne hb
    refine law_core KX hns hb hbb hlim hg ha hr F hbind (H := H) (fun b => ?_) (.inl (.inr ⟨o, at_a⟩)) hz (fun b u z => ?_) (fun b z => ?_) fun _ => hk
    · by_cases e : b = a
      · exact .inr ⟨o, _, e ▸ at_a⟩
      · exact .inl (at_b b e)
    · by_cases e : b = a
      · subst e
        rw [at_a] at z
        cases z
        exact ⟨ha, by rw [List.length_map]; exact hl, vs, _, rv, ha⟩
      · rw [at_b b e] at z; cases z
    · by_cases e : b = a
      · exact e
      · exact (z (at_b b e)).elim
end
theorem walkG {l : PySem.W.OpenLaw} {k : Nat} {q : Program} {loose : List Str} {XP : (Str → Option Value) → Heap → Prop} {YP : World → Heap → Prop} {d : DefRec} {K : Params → PySem.W.Frag} (hr : Room k callerA) (hn : l.most = some 63) (hdf : d.params.defaults = [])
    (hY : ∀ (w : World) (h : Heap), YP w h → (K w.params).In h)
    (F : ∀ (w : World) (mg : Str → Option Value) (fa : Addr) (h : Heap), (K w.params).In h → h.Ns mainGlobals mg → mg d.name = some (.ref fa) →
      ∃ fd : FuncData, (∀ (s : Shared) (u : Value), BindsTo s fd ⟨[u], []⟩ [("script", u)]) ∧ ∀ base : Heap, (K w.params).In base → base.Ns mainGlobals mg → FnG l.prog w (K w.params) mg base k fa fd ["script"] (spLaw (K w.params))) :
    PySem.W.WalkO q loose XP YP l.row.toRowW d [] (fun f vs => PySem.call f vs) := by
  refine Att.attach_call hn hdf fun w s₀ s₁ mg mb fa o pm cd doc a vs ns G Y ho hd hcd hmg hobj hints hlen hg => ?_
  obtain ⟨fd, hb, hF⟩ := F w mg fa _ (hY w _ Y) G.T.g hmg
  exact law_callG (hY w _ Y) G.T.g G.T.b G.T.builtins G.T.nolimit hg hobj hints hlen hr hF hb
end DL

set_option Elab.async false
set_option linter.all false
set_option maxRecDepth 100000
namespace DL
open PySem PySem.Spec PyProof.Rows L2

/-! ## 25. chained comparisons -/
def eChain (g g' : D → D → Option D) (f1 f2 f3 : Ex) : Ex := fun ρ S => (f1 ρ S).bind fun p => (f2 ρ p.2).bind fun q => (g p.1 q.1).bind fun z => match z with
  | .bl true => (f3 ρ q.2).bind fun r => (g' q.1 r.1).map fun z' => (z', r.2)
  | .bl false => some (.bl false, q.2)
  | _ => none
section
variable {X : Cx} {a b c : Expr} {f1 f2 f3 : Ex} {pos : Pos} {op op' : CmpOp} {r r' : R2} {g g' : D → D → Option D}
theorem chain_d {K : Fw} (hd : OpD K r g) (hd' : OpD K r' g') {σ : L2.St} {H : Hp} {Q : VK} (h : tD K (eChain g g' f1 f2 f3) σ H Q) : tChain r r' (tQ K f1) (tQ K f2) (tQ K f3) σ H Q := by
  obtain ⟨W, ρ, S, d, S', rl, hf, k⟩ := h
  unfold eChain at hf
  obtain ⟨⟨d1, S1⟩, e1, hf⟩ := Option.bind_eq_some_iff.mp hf
  obtain ⟨⟨d2, S2⟩, e2, hf⟩ := Option.bind_eq_some_iff.mp hf
  obtain ⟨z, e3, hf⟩ := Option.bind_eq_some_iff.mp hf
  refine ⟨W, ρ, S, d1, S1, rl, e1, fun v1 H1 s1 st1 r1 => ?_⟩
  have rl1 := rl.stepE s1 st1
  refine ⟨W, ρ, S1, d2, S2, rl1, e2, fun v2 H2 s2 st2 r2 => ?_⟩
  have rl2 := rl1.stepE s2 st2
  refine hd W H2 v1 v2 d1 d2 z _ rl2.wf (r1.stepE s2) r2 e3 fun v H3 s3 r3 => ?_
  have rl3 := rl2.same s3
  match z, hf with
  | .bl true, hf =>
    obtain ⟨⟨d3, S3⟩, e4, hf⟩ := Option.bind_eq_some_iff.mp hf
    obtain ⟨z', e5, hf⟩ := Option.map_eq_some_iff.mp hf
    cases hf
    cases r3
    refine ⟨true, rfl, ?_⟩
    rw [if_pos rfl]
    refine ⟨W, ρ, S2, d3, S3, rl3, e4, fun v3 H4 s4 st4 r4 => ?_⟩
    exact hd' W H4 v2 v3 d2 d3 d _ (rl3.stepE s4 st4).wf ((r2.same s3).stepE s4) r4 e5 fun v' H5 s5 r5 => k v' H5 ((((s1.trans s2).trans (.same s3)).trans s4).trans (.same s5)) (st4.same s5) r5
  | .bl false, hf =>
    cases hf
    cases r3
    refine ⟨false, rfl, ?_⟩
    rw [if_neg Bool.false_ne_true]
    exact k _ H3 ((s1.trans s2).trans (.same s3)) (st2.same s3) (.bl false)
theorem e_chain (ho : OpR X (compareOp op) r) (hd : OpD (FX X) r g) (ho' : OpR X (compareOp op') r') (hd' : OpD (FX X) r' g') (ha : B X a f1) (hb : B X b f2) (hc : B X c f3) (hm : lastMarks [op, op'] [b, c] = false := by with_unfolding_all rfl) :
    E X (.Compare a [op, op'] [b, c] pos) (eChain g g' f1 f2 f3) := pe_imp (pe_chain ho ho' ha hb hc hm) fun _ _ _ h => chain_d hd hd' h
theorem t_chain (ho : OpR X (compareOp op) r) (hd : OpD (FX X) r g) (ho' : OpR X (compareOp op') r') (hd' : OpD (FX X) r' g') (ha : B X a f1) (hb : B X b f2) (hc : B X c f3) (hm : lastMarks [op, op'] [b, c] = false := by with_unfolding_all rfl) :
    T X (.Compare a [op, op'] [b, c] pos) (tBl (eChain g g' f1 f2 f3)) := pt_imp (pt_chain ho ho' ha hb hc hm) fun σ H Q ⟨W, ρ, S, d, S', rl, hf, k⟩ => by
  have hf' : ∃ p, eChain g g' f1 f2 f3 ρ S = some p ∧ p.1 = .bl d ∧ p.2 = S' := by
    unfold tBl at hf
    obtain ⟨p, e1, hf⟩ := Option.bind_eq_some_iff.mp hf
    refine ⟨p, e1, ?_⟩
    split at hf
    · rename_i bb eb
      cases hf
      exact ⟨eb, rfl⟩
    · cases hf
  obtain ⟨⟨p1, p2⟩, e1, rfl, rfl⟩ := hf'
  exact chain_d hd hd' ⟨W, ρ, S, _, _, rl, e1, fun v H' s st rp => by
    cases rp
    exact ⟨d, rfl, k H' s st⟩⟩
end

/-! ## 26. repr -/
/-- repr(x), x plain data -/
def rRepr (K : PySem.W.Frag) : List V → Hp → VK → Prop := fun xs H Q => ∃ (v : V) (p : PyData), xs = [v] ∧ Dp K H v p ∧ p.showable = true ∧ p.hasDict = false ∧ p.depth ≤ 60 ∧ p.shown.length ≤ sizeLine ∧ Q (.str p.shown) H
theorem call_repr {X : Cx} (hg : X.A.guards = some []) (hu : X.A.units + 64 < cLine) : CallR X (.builtin "repr") (rRepr X.K) := by
  intro pins s σ H xs us Q I r h
  obtain ⟨v, p, rfl, hd, hs, hn, hdep, hz, q⟩ := h
  obtain ⟨u, rfl, ru⟩ := vals1 r
  obtain ⟨as, rd⟩ := Dp.reads I p v u hd ru
  cases hd with
  | non =>
    cases ru
    refine PySem.P.repr_of_none ⟨.str _, H, I.tok _, ⟨_, rfl⟩, ?_⟩
    rwa [PySem.PyData.shown_none] at q
  | bl b =>
    cases ru
    refine PySem.P.repr_of_bool ⟨.str _, H, I.tok _, ⟨_, rfl⟩, ?_⟩
    rw [PySem.PyData.shown_bool] at q
    cases b <;> exact q
  | int i =>
    obtain ⟨t, rfl⟩ := ru
    have hb : i.natAbs.log2 < 1920 := by simpa [PySem.PyData.showable] using hs
    refine PySem.P.repr_of_int hb ⟨.str _, H, I.tok _, ⟨_, rfl⟩, ?_⟩
    rwa [PySem.PyData.shown_int] at q
  | str x =>
    obtain ⟨t, rfl⟩ := ru
    rw [PySem.PyData.shown_str] at hz q
    exact PySem.P.repr_of_str ⟨.str _, H, I.tok _, ⟨_, rfl⟩, q⟩ hz
  | lst h1 h2 =>
    cases ru
    exact PySem.repr_of_reads' rd hs (fun z => by rw [hn] at z; cases z) hg (by omega) (fun b o e => e) (fun h' u tk hk => ⟨.str _, H, I.kept (t' := tk) hk, ⟨_, rfl⟩, q⟩) hz
  | tup h1 h2 =>
    cases ru
    exact PySem.repr_of_reads' rd hs (fun z => by rw [hn] at z; cases z) hg (by omega) (fun b o e => e) (fun h' u tk hk => ⟨.str _, H, I.kept (t' := tk) hk, ⟨_, rfl⟩, q⟩) hz
def gRepr : List D → Option D
  | [d] => if (d.fit 60 && d.toP.showable && !d.toP.hasDict && decide (d.toP.shown.length ≤ sizeLine)) = true then some (.str d.toP.shown) else none
  | _ => none
theorem repr_d {K : Fw} : CallD K (rRepr K) gRepr := fun W H vs ds d Q wf r h k => by
  unfold gRepr at h
  split at h
  · rename_i x
    by_cases c : (x.fit 60 && x.toP.showable && !x.toP.hasDict && decide (x.toP.shown.length ≤ sizeLine)) = true
    · rw [if_pos c] at h
      cases h
      simp only [Bool.and_eq_true, Bool.not_eq_true', decide_eq_true_eq] at c
      obtain ⟨⟨⟨c1, c2⟩, c3⟩, c4⟩ := c
      obtain ⟨v, rfl, r1⟩ := rqs1 r
      exact ⟨v, _, rfl, fit_dq c1 r1, c2, c3, fit_depth c1, c4, k _ H (.refl _) (.str _)⟩
    · rw [if_neg c] at h; cases h
  · cases h
end DL

set_option Elab.async false
set_option linter.all false
set_option maxRecDepth 100000
namespace DL
open PySem PySem.Spec PyProof.Rows L2

/-! ## 27. x += y, x *= y -/
theorem noIadd_tuple : typeLookup (.type "tuple") (dunderI "add") = pure none := by rw [typeLookup_type, builtinLookup_eq_fast]; kernel_rfl
theorem itup_cat {prog : Program} {w : World} {A : Around} {E : Value → Shared → Prop} {s : Shared} {t b : Addr} {vs ws : List Value} {Q : Value → Shared → Prop} (ht : IsTup s.heap t vs.toArray) (hb : IsTup s.heap b ws.toArray)
    (h0 : vs = [] → Q (.ref b) s) (h1 : vs ≠ [] → ws = [] → Q (.ref t) s) (h2 : vs ≠ [] → ws ≠ [] → Q (.ref s.heap.objs.size) { s with heap := s.heap.push { cls := .type "tuple", data := .seq (vs ++ ws).toArray } })
    (hsz : vs.length + ws.length ≤ sizeLine) : wpAny (model prog w) A (inplaceOp .Add (.ref t) (.ref b)) Q E s := by
  obtain ⟨⟨c1, d1, data1, sl1⟩, ho, hc, n, hd⟩ := id ht
  obtain ⟨⟨c2, d2, data2, sl2⟩, ho2, hc2, n2, hd2⟩ := id hb
  simp only at hc hd hc2 hd2
  subst hc hd hc2 hd2
  have road : ∀ {S : PySem.Spec} (g : Meets (Builtin.«tuple.__add__» ⟨[.ref t, .ref b], []⟩) S) (h : S A (wants Q E) s), wpAny (model prog w) A (inplaceOp .Add (.ref t) (.ref b)) Q E s := fun g h =>
    wpAny_inplaceOp_concat ⟨_, ho, rfl⟩ ⟨_, ho2, rfl⟩ noIadd_tuple noFill_tuple_add seq_tuple_add (call_meets PySem.F.slot_tuple_add ⟨_, ho, rfl⟩ PySem.F.entry_tuple_add (PySem.F.args_tuple_add_2 _ _) g h)
  by_cases hv : vs = []
  · exact road (tuple_addW0 t b vs.toArray ws.toArray n n2 d1 d2 sl1 sl2 (by simp [hv])) ⟨ho, ho2, h0 hv⟩
  · by_cases hw : ws = []
    · exact road (tuple_addW1 t b vs.toArray ws.toArray n n2 d1 d2 sl1 sl2 (by simpa using hv) (by simp [hw])) ⟨ho, ho2, h1 hv hw⟩
    · refine road (tuple_addW2 t b vs.toArray ws.toArray n n2 d1 d2 sl1 sl2 (by simpa using hv) (by simpa using hw) (by rw [List.size_toArray, List.size_toArray]; exact hsz)) ⟨ho, ho2, ?_⟩
      rw [show vs.toArray ++ ws.toArray = (vs ++ ws).toArray by simp]
      exact h2 hv hw
theorem iop_catZ {X : Cx} : OpR X (inplaceOp .Add) (rCatZ X.K) := by
  intro pins s σ H x y v u Q I rx ry h
  obtain ⟨a, b, xs, ys, rfl, rfl, ha, hb, hz, q0, q1, q2⟩ := h
  cases rx
  cases ry
  obtain ⟨its, r1, p1, _⟩ := I.tuple ha
  obtain ⟨its2, r2, p2, _⟩ := I.tuple hb
  refine itup_cat p1 p2 (fun e => ⟨.ref b, H, I, rfl, q0 (r1.nil_iff.mp e)⟩) (fun e e2 => ⟨.ref a, H, I, rfl, q1 (fun z => e (r1.nil_iff.mpr z)) (r2.nil_iff.mp e2)⟩) (fun e e2 => ?_) (by rw [← r1.length, ← r2.length]; exact hz)
  refine ⟨.ref s.heap.objs.size, _, I.laid (t' := s.toks) (o := .frz { cls := .type "tuple", data := .seq (its ++ its2).toArray } (.tup (xs ++ ys))) (fun b ob q => Heap.get?_push_of_some _ q) (Nat.le_refl _) ?_, rfl, q2 (fun z => e (r1.nil_iff.mpr z)) (fun z => e2 (r2.nil_iff.mpr z)) _ _ (I.hok.fresh (Nat.le_refl _)) rfl⟩
  exact frz_new (Heap.get?_push_size _ rfl) (by rw [List.length_append]; exact hz) (r1.append r2)
/-- += of two ints or two tuples -/
def D.iadd : D → D → Option D
  | .int i, .int j => some (.int (i + j))
  | .tup xs, .tup ys => if xs.length + ys.length ≤ sizeLine then some (.tup (xs ++ ys)) else none
  | _, _ => none
def rIadd (K : PySem.W.Frag) : R2 := fun x y H Q => rI0 (fun i j => .int (i + j)) x y H Q ∨ rCatZ K x y H Q
theorem iop_addD {X : Cx} : OpR X (inplaceOp .Add) (rIadd X.K) := iop_add.or iop_catZ
theorem iadd_d {K : Fw} : OpD K (rIadd K) D.iadd := fun W H v1 v2 d1 d2 d Q wf r1 r2 h k => by
  unfold D.iadd at h
  split at h
  · cases h
    exact .inl ⟨_, _, rq_int r1, rq_int r2, k _ H (.refl _) (.int _)⟩
  · rename_i xs ys
    by_cases c : xs.length + ys.length ≤ sizeLine
    · rw [if_pos c] at h
      cases h
      obtain ⟨a, ws, rfl, q, z, rs⟩ := rq_tup r1
      obtain ⟨b, us, rfl, q', z', rs'⟩ := rq_tup r2
      have l1 := rs.length
      have l2 := rs'.length
      refine .inr ⟨a, b, ws, us, rfl, rfl, q.sqt, q'.sqt, by omega, fun e => ?_, fun e e2 => ?_, fun e e2 p o hp ho => ?_⟩
      · subst e
        cases rs
        exact k _ H (.refl _) (.tup q' z' rs')
      · subst e2
        cases rs'
        exact k _ H (.refl _) (by rw [List.append_nil]; exact .tup q z rs)
      · have sm : Same H (upd H p (.frz o (.tup (ws ++ us)))) := upd_Same hp
        exact k _ _ sm (.tup (.new ho) (by rw [List.length_append]; omega) ((rs.append rs').stepE (.same sm)))
    · rw [if_neg c] at h; cases h
  · cases h
/-- x op= e, x a slot of data -/
def sAug (g : D → D → Option D) (i : Nat) (f : Ex) : Stm := fun ρ S => match ρ[i]? with
  | some (.sh d1) => (f ρ S).bind fun p => (g d1 p.1).map fun z => .nx (ρ.set i (.sh z)) p.2
  | _ => none
section
variable {X : Cx} {st : Stmt} {f : Ex} {g : D → D → Option D} {r : R2}
theorem st_aug {i : Nat} (h : PS X st (tAug i (tQ (FX X) f) r)) (hd : OpD (FX X) r g) : ST X st (sAug g i f) := ps_imp h fun Z σ H ⟨W, ρ, S, o, rl, hf, k⟩ => by
  unfold sAug at hf
  split at hf
  · rename_i d1 hi
    obtain ⟨⟨d2, S1⟩, e1, hf⟩ := Option.bind_eq_some_iff.mp hf
    obtain ⟨z, e2, hf⟩ := Option.map_eq_some_iff.mp hf
    cases hf
    obtain ⟨v1, q1, r1⟩ := rl.sl i _ hi
    refine ⟨v1, q1, W, ρ, S, d2, S1, rl, e1, fun v2 H2 s2 st2 r2 => ?_⟩
    have rl2 := rl.stepE s2 st2
    exact hd W H2 v1 v2 d1 d2 z _ rl2.wf (.of (r1.stepE s2)) r2 e2 fun v H3 s3 r3 => k W _ H3 (s2.trans (.same s3)).toS ((rl2.same s3).setSh r3)
  · cases hf
end

/-! ## 28. names of the top that hold data -/
structure GlobAt (K : PySem.W.Frag) (w : World) (P : Program) (mg : Str → Option Value) (x : Str) (d : D) : Prop where
  ex : ∃ (v : V) (u : Value), mg x = some u ∧ RelV v u ∧ ∀ (W : Wd) (H : Hp), Rp ⟨K, w, P⟩ W H v d
theorem e_glob {X : Cx} {x : Str} {d : D} {pos : Pos} (h : GlobAt X.K X.w X.prog X.mg x d) (hg : Gl X x) (hd : (x == ("__debug__" : Str)) = false := by decide) : E X (.Name x pos) (eC d) := by
  obtain ⟨v, u, hm, r, hr⟩ := h.ex
  exact e_c (pe_glob hg hm r hd) hr
theorem glob_int {K : PySem.W.Frag} {w : World} {P : Program} {mg : Str → Option Value} {x : Str} {i : Int} {t : Tok} (h : mg x = some (.int i t)) : GlobAt K w P mg x (.int i) := ⟨.int i, _, h, ⟨t, rfl⟩, fun _ _ => .int i⟩
/-- a tuple of two ints that stands at the top -/
theorem glob_pair {K : PySem.W.Frag} {w : World} {P : Program} {mg : Str → Option Value} {x : Str} {a : Addr} {i j : Int} {t u : Tok} {n : Nat} {sl : Array (Option Value)} (h : mg x = some (.ref a)) (l : K.lookup a = some { cls := .type "tuple", dict := none, data := .seq #[.int i t, .int j u] n, slots := sl }) :
    GlobAt K w P mg x (.tup [.int i, .int j]) :=
  ⟨.ref a, _, h, rfl, fun _ _ => .tup (vs := [.int i, .int j]) (.inr ⟨_, _, _, l, rfl, rfl, rfl, by show 2 ≤ sizeLine; decide, .cons ⟨t, rfl⟩ (.cons ⟨u, rfl⟩ .nil)⟩) (by show 2 ≤ sizeLine; decide) (.cons (.int i) (.cons (.int j) .nil))⟩
end DL

set_option Elab.async false
set_option linter.all false
set_option maxRecDepth 100000
namespace DL
open PySem PySem.Spec PyProof.Rows L2
/-! ## 29. defs by their bodies, where no guard is under way -/
section
variable {P : Program} {w : World} {K : PySem.W.Frag} {mg : Str → Option Value} {base : Heap}
theorem fnG_ok {x qual : Str} {st : Stmt} {f : Addr} {fd : FuncData} {N ps : List Str} {k : Nat} {b : Stm} (F : Fun K x qual st f fd) (Sc : FnScope N ps (defScope st)) (hl : ps.length ≤ N.length)
    (hb : ∀ (cdv : Value) (A : Around) (outer : List Env) (s : Shared) (H : Hp) (E : XK), A.guards = some [] → Room k (A.deeper (envOfC qual (defScope st) s.heap.objs.size f cdv)) → SS (cxOf CX0 P w K mg base N qual (defScope st) f cdv A outer s H E).nox (defBody st) b) :
    FnG P w K mg base (k + 1) f fd ps (spD ⟨K, w, P⟩ ps.length (fnD N.length b)) := by
  refine funG_ok F Sc (fun vs H Q E h => ?_) (fun cdv A outer s H vs Q E hG hr h => ?_)
  · obtain ⟨W, ds, S, d, S', hn, rs, _⟩ := h
    rw [rs.length]; exact hn
  · obtain ⟨W, ds, S, d, S', hn, rs, st0, wf, hf, k0⟩ := h
    refine ⟨_, hb cdv A outer s H E hG hr, ?_⟩
    have m0 : ∀ b, Mu (⟨W.θ, Mu W, fun _ => none⟩ : Wd) b ↔ Mu W b := fun b => by
      constructor
      · rintro (m | m | ⟨j, m⟩)
        · exact m
        · exact .inr (.inl m)
        · cases m
      · exact .inl
    have kp0 : Kps ⟨K, w, P⟩ W H (⟨W.θ, Mu W, fun _ => none⟩ : Wd) H := Kps.less rfl fun b m => (m0 b).mp m
    have wf0 : WfW (⟨W.θ, Mu W, fun _ => none⟩ : Wd) H := ⟨wf.nd, (fun i j a h => (by cases h)), (fun i a h => (by cases h)), fun a m => wf.dom a ((m0 a).mp m)⟩
    have rs0 := rs.keeps kp0
    have rl0 : Rel ⟨K, w, P⟩ (⟨W.θ, Mu W, fun _ => none⟩ : Wd) H (L2.start N vs) (rho0 N.length ds) S := by
      refine ⟨?_, rho0_slot rs0, st0.keeps rfl kp0 fun _ _ => rfl, wf0⟩
      rw [rho0_length (by rw [hn]; exact hl)]
      unfold L2.start
      rw [List.length_append, List.length_map, List.length_replicate, rs.length]
      omega
    unfold fnD at hf
    cases e1 : b (rho0 N.length ds) S with
    | none => rw [e1] at hf; cases hf
    | some o =>
      rw [e1] at hf
      refine ⟨_, _, S, o, rl0, e1, ?_⟩
      have fin : ∀ {W' : Wd} {H' : Hp} {S1 : Sto} {v : V} {d : D}, StepS (⟨W.θ, Mu W, fun _ => none⟩ : Wd) H W' H' → StOk ⟨K, w, P⟩ W' H' S1 → Rp ⟨K, w, P⟩ W' H' v d → S1.length = S.length → StepE W.θ H H' ∧ StOk ⟨K, w, P⟩ W H' S1 ∧ Rp ⟨K, w, P⟩ W H' v d := fun {W' H' S1 v d} s st r hlen => by
        obtain ⟨t, ht⟩ := s.th
        have e : W'.θ = W.θ := by
          have h1 := st.1
          have h2 := st0.1
          have h3 := congrArg List.length ht
          rw [List.length_append] at h3
          have h4 : (⟨W.θ, Mu W, fun _ => none⟩ : Wd).θ.length = W.θ.length := rfl
          have : t.length = 0 := by omega
          rw [List.length_eq_zero_iff.mp this, List.append_nil] at ht
          exact ht
        have kl : Kps ⟨K, w, P⟩ W' H' W H' := Kps.less e.symm fun b m => .inl (by rw [s.m0]; exact m)
        refine ⟨⟨fun b u h n => (s.keep b u h fun z => ?_).1, s.tups, s.frzs, s.dom⟩, st.keeps e.symm kl fun _ _ => rfl, r.keeps kl⟩
        rcases z with z | ⟨j, z⟩
        · exact n z
        · cases z
      cases o with
      | nx ρ' S1 =>
        unfold fnOut at hf
        by_cases hlen : S1.length = S.length
        · simp only [if_pos hlen] at hf
          cases hf
          intro W' σ' H' s r
          obtain ⟨q1, q2, q3⟩ := fin (v := .non) (d := .non) s r.st .non hlen
          exact k0 .non H' q1 q2 q3
        · simp only [if_neg hlen] at hf; cases hf
      | rt d' S1 =>
        unfold fnOut at hf
        by_cases hlen : S1.length = S.length
        · simp only [if_pos hlen] at hf
          cases hf
          intro W' v H' s st wf' r
          obtain ⟨q1, q2, q3⟩ := fin s st r hlen
          exact k0 v H' q1 q2 q3
        · simp only [if_neg hlen] at hf; cases hf
      | bk _ _ => cases hf
      | ct _ _ => cases hf
theorem fnGN_ok {x qual : Str} {st : Stmt} {f : Addr} {fd : FuncData} {N ps : List Str} {k : Nat} {g : Ex} (F : Fun K x qual st f fd) (Sc : FnScope N ps (defScope st)) (hl : ps.length ≤ N.length)
    (hb : ∀ (cdv : Value) (A : Around) (outer : List Env) (s : Shared) (H : Hp) (E : XK), A.guards = some [] → Room k (A.deeper (envOfC qual (defScope st) s.heap.objs.size f cdv)) → PSs (cxOf CX0 P w K mg base N qual (defScope st) f cdv A outer s H E).nox (defBody st) fun Z σ H => tF ⟨K, w, P⟩ g σ H Z.rt) :
    FnG P w K mg base (k + 1) f fd ps (spN ⟨K, w, P⟩ ps.length (fnE N.length g)) := by
  refine funG_ok F Sc (fun vs H Q E h => ?_) (fun cdv A outer s H vs Q E hG hr h => ?_)
  · obtain ⟨W, ds, S, d, S', hn, rs, _⟩ := h
    rw [rs.length]; exact hn
  · obtain ⟨W, ds, S, d, S', hn, rs, st0, wf, hf, k0⟩ := h
    refine ⟨_, hb cdv A outer s H E hG hr, ?_⟩
    have m0 : ∀ b, Mu (⟨W.θ, Mu W, fun _ => none⟩ : Wd) b ↔ Mu W b := fun b => by
      constructor
      · rintro (m | m | ⟨j, m⟩)
        · exact m
        · exact .inr (.inl m)
        · cases m
      · exact .inl
    have kp0 : Kps ⟨K, w, P⟩ W H (⟨W.θ, Mu W, fun _ => none⟩ : Wd) H := Kps.less rfl fun b m => (m0 b).mp m
    have wf0 : WfW (⟨W.θ, Mu W, fun _ => none⟩ : Wd) H := ⟨wf.nd, (fun i j a h => (by cases h)), (fun i a h => (by cases h)), fun a m => wf.dom a ((m0 a).mp m)⟩
    have rs0 := rs.keeps kp0
    have rl0 : Rel ⟨K, w, P⟩ (⟨W.θ, Mu W, fun _ => none⟩ : Wd) H (L2.start N vs) (rho0 N.length ds) S := by
      refine ⟨?_, rho0_slot rs0, st0.keeps rfl kp0 fun _ _ => rfl, wf0⟩
      rw [rho0_length (by rw [hn]; exact hl)]
      unfold L2.start
      rw [List.length_append, List.length_map, List.length_replicate, rs.length]
      omega
    refine ⟨_, _, S, d, S', rl0, hf, fun v H' s r => k0 v H' s ?_⟩
    have kl : ∀ a, Kps ⟨K, w, P⟩ ((⟨W.θ, Mu W, fun _ => none⟩ : Wd).plus a) H' (W.plus a) H' := fun a => Kps.less rfl fun b m => mu_plus.mpr ((mu_plus.mp m).imp (m0 b).mpr id)
    cases r with
    | lst n e z st r => exact .lst n e z (st.keeps rfl (kl _) fun _ _ => rfl) (r.keeps (kl _))
    | dct n e z st r => exact .dct n e z (st.keeps rfl (kl _) fun _ _ => rfl) (r.keeps (kl _))
theorem fnGL_ok {x qual : Str} {st : Stmt} {f : Addr} {fd : FuncData} {N ps : List Str} {k : Nat} {b : Stm} (F : Fun K x qual st f fd) (Sc : FnScope N ps (defScope st)) (hl : ps.length ≤ N.length) (h1 : ps.length = 1)
    (hb : ∀ (cdv : Value) (A : Around) (outer : List Env) (s : Shared) (H : Hp) (E : XK), A.guards = some [] → Room k (A.deeper (envOfC qual (defScope st) s.heap.objs.size f cdv)) → SS (cxOf CX0 P w K mg base N qual (defScope st) f cdv A outer s H E).nox (defBody st) b)
    (math : ∀ ns : List Int, ns.length ≤ 63 → ∃ S', b (rho0 N.length [.scr ns]) [] = some (.rt (.bl true) S')) :
    FnG P w K mg base (k + 1) f fd ps (spLaw K) := by
  refine funG_ok F Sc (fun vs H Q E h => ?_) (fun cdv A outer s H vs Q E hG hr h => ?_)
  · obtain ⟨a, ns, rfl, _⟩ := h
    exact h1.symm
  · obtain ⟨a, ns, rfl, hs, hn, k0⟩ := h
    refine ⟨_, hb cdv A outer s H E hG hr, ?_⟩
    obtain ⟨S', e⟩ := math ns hn
    have hm : ∀ b, ¬ Mu (⟨[], fun _ => False, fun _ => none⟩ : Wd) b := fun b m => by
      rcases m with m | m | ⟨j, m⟩
      · exact m
      · cases m
      · cases m
    have wf0 : WfW (⟨[], fun _ => False, fun _ => none⟩ : Wd) H := ⟨List.nodup_nil, (fun i j a h => (by cases h)), (fun i a h => (by cases h)), fun a m => absurd m (hm a)⟩
    have hz : ns.length ≤ sizeLine := Nat.le_trans hn (by decide)
    have rs0 : Rps ⟨K, w, P⟩ (⟨[], fun _ => False, fun _ => none⟩ : Wd) H [.ref a] [.scr ns] := .cons (.scr hz hs) .nil
    have rl0 : Rel ⟨K, w, P⟩ (⟨[], fun _ => False, fun _ => none⟩ : Wd) H (L2.start N [.ref a]) (rho0 N.length [.scr ns]) [] := by
      refine ⟨?_, rho0_slot rs0, ⟨rfl, fun l a c e => by simp at e⟩, wf0⟩
      rw [rho0_length (by show 1 ≤ N.length; omega)]
      unfold L2.start
      rw [List.length_append, List.length_map, List.length_replicate]
      show 1 + (N.length - 1) = N.length
      omega
    exact ⟨_, _, _, _, rl0, e, fun W' v H' _ _ _ r => by cases r; exact k0 H'⟩
end
end DL

set_option Elab.async false
set_option linter.all false
set_option maxRecDepth 100000
set_option maxHeartbeats 1000000
namespace DL
open PySem
/-! ## 30. enumerate of a tuple -/
theorem meets_enumT (l : Addr) (items : Array Value) (n : Nat) (dct : Option Addr) (sl : Array (Option Value)) :
    Meets (Builtin.«enumerate.__new__» ⟨[.type "enumerate", .ref l], []⟩) (fun _ R s => s.heap.get? l = some { cls := .type "tuple", dict := dct, data := .seq items n, slots := sl } ∧
      R (.ok (.ret (.ref (s.heap.push { cls := .type "tuple_iterator", data := .fields #[.ref l, .int 0 0] }).objs.size)))
        { s with heap := (s.heap.push { cls := .type "tuple_iterator", data := .fields #[.ref l, .int 0 0] }).push { cls := .type "enumerate", data := .fields #[.none, .bool false, .ref s.heap.objs.size, rawInt 0, .none, .none] } }) :=
  .of_wp fun prog w A R s h => by
    obtain ⟨hp, gs, dr, tk, os⟩ := s
    obtain ⟨hl, h⟩ := h
    have sub := sub_enumerate
    have hT : Heap.IsTuple (Shared.heap ⟨hp, gs, dr, tk, os⟩) l items := ⟨_, hl, rfl, n, rfl⟩
    wp_walk using AutoSeq1.wpAny_loadPart' hl
    refine wpAny_stack_any fun st => wpAny_pure ?_
    split
    · rename_i c _ _ _ _ _
      cases (c == Value.type "enumerate") <;> (wp_walk using AutoSeq1.wpAny_loadPart' hl, wpAny_pyIter_tuple hT; exact ⟨_, rfl, h⟩)
    · wp_walk using AutoSeq1.wpAny_loadPart' hl, wpAny_pyIter_tuple hT
      exact ⟨_, rfl, h⟩
section
variable {prog : Program} {w : World} {A : Around} {E : Value → Shared → Prop} {s : Shared}
theorem call_enumT {l : Addr} {items : Array Value} {Q : Value → Shared → Prop} (hL : s.heap.IsTuple l items)
    (h : ∀ h', IsEnum h' (s.heap.objs.size + 1) s.heap.objs.size 0 .none → h'.IsTupleIter s.heap.objs.size l 0 → h'.objs.size = s.heap.objs.size + 2 →
      (∀ b o, s.heap.get? b = some o → h'.get? b = some o) → Q (.ref (s.heap.objs.size + 1)) { s with heap := h' }) : wpAny (model prog w) A (call (.type "enumerate") [.ref l]) Q E s := by
  obtain ⟨⟨c, dct, dt, sl⟩, hl, hc, n, hd⟩ := hL
  simp only at hc hd
  subst hc hd
  have sz : (s.heap.push { cls := .type "tuple_iterator", data := .fields #[.ref l, .int 0 0] }).objs.size = s.heap.objs.size + 1 := Heap.size_push ..
  have he : IsEnum ((s.heap.push { cls := .type "tuple_iterator", data := .fields #[.ref l, .int 0 0] }).push { cls := .type "enumerate", data := .fields #[.none, .bool false, .ref s.heap.objs.size, rawInt 0, .none, .none] }) (s.heap.objs.size + 1) s.heap.objs.size 0 .none := by
    rw [← sz]
    exact Heap.get?_push_size _ rfl
  refine callType_new F.called_enumerate (by decide) (F.typeCall_enumerate_1 _) (F.newCall_enumerate_1 _) (fun obj => F.args_object_init_2 obj _) F.entry_enumerate_new (meets_enumT l items n dct sl) ⟨hl, ?_⟩
  show _ ∧ _
  rw [sz]
  exact ⟨⟨_, he, rfl⟩, h _ he ⟨_, Heap.get?_push_of_some _ (Heap.get?_push_size _ rfl), rfl, rfl⟩ (by rw [Heap.size_push, sz]) fun b o x => Heap.get?_push_of_some _ (Heap.get?_push_of_some _ x)⟩
end
end DL
namespace DL
open PySem PySem.Spec PyProof.Rows L2
abbrev IteTZ (K : PySem.W.Frag) (a : Addr) : It := IteK .t K a
end DL

set_option Elab.async false
set_option linter.all false
set_option maxRecDepth 100000
set_option maxHeartbeats 1000000
namespace DL
open PySem PySem.Spec PyProof.Rows L2
def iEnumTZ (K : PySem.W.Frag) (ta : TA) : TI := fun σ H R => ta σ H fun vs H1 => ∃ a xs, vs = [.ref a] ∧ SqT K H1 a xs ∧ R (IteTZ K a) H1
theorem pi_enumTZ {X : Cx} {e : Expr} {ta : TA} {p pos tpos : Pos} {elts : List Expr} {kk : Nat} (hg : Gl X "enumerate") (hm : X.mg "enumerate" = none) (ha : PA X [e] ta) (hs : starEach [e] X.env = [(false, eval e X.env)] := by rfl) :
    PI X (.Tuple elts kk tpos) (.Call (.Name "enumerate" p) [e] [] pos) (iEnumTZ X.K ta) := by
  refine ⟨fun pins s σ H R I w => Call_ (ld_blt I hg hm boot_enumerate (PyProof.Rows.callWith_type1 (thn (ha.run pos pins s σ H _ I w) ?_) hs rfl))⟩
  rintro us s1 ⟨_, H1, J, r, a, xs, rfl, qx, q⟩
  obtain ⟨_, rfl, e⟩ := vals1 r
  cases e
  obtain ⟨its, _, p, _⟩ := J.tuple qx
  exact call_enumT p fun h' en wk _ old => wpAny_pyIter_enum en (enum_begun .t J old (Nat.le_refl _) (Kd.t.has_lt p) en wk q)
def enumD (xs : List D) : List D := xs.mapIdx fun i x => .tup [.int (i : Nat), x]
theorem enumD_length (xs : List D) : (enumD xs).length = xs.length := by simp [enumD]
theorem enumD_some {xs : List D} {i : Nat} {d : D} (h : (enumD xs)[i]? = some d) : ∃ x, xs[i]? = some x ∧ d = .tup [.int (i : Nat), x] := by
  unfold enumD at h
  rw [List.getElem?_mapIdx] at h
  obtain ⟨x, hx, e⟩ := Option.map_eq_some_iff.mp h
  exact ⟨x, hx, e.symm⟩
theorem walk_enumT {K : Fw} {W : Wd} {H : Hp} {fl : Bool} {a : Addr} {vs : List V} {xs : List D} (ha : TupAt K H a vs) (ra : Rps K W H vs xs) : Walk K W fl H (IteTZ K a) (enumD xs) := fun W2 H2 l => by
  have ea : SqT K H2 a vs := (TupAt.step l.kps.frzs ha).sqt
  refine ⟨fun i d hd => ?_, ⟨vs, ea, ?_⟩⟩
  · obtain ⟨x, hx, rfl⟩ := enumD_some hd
    obtain ⟨v, hv, rv⟩ := ra.get hx
    refine ⟨⟨vs, v, ea, hv⟩, fun z H3 yy => ?_⟩
    obtain ⟨T, oo, x', rfl, hT, hoo, rfl, q1⟩ := yy
    have q1 := q1 vs ea
    rw [hv] at q1
    cases q1
    have sm : Same H2 (upd H2 T (.frz oo (.tup [.int (i : Nat), v]))) := upd_Same hT
    have k2 : Kps K W2 H2 W2 (upd H2 T (.frz oo (.tup [.int (i : Nat), v]))) := (StepE.same (θ := W2.θ) sm).keeps
    exact ⟨sm, .tup (.new hoo) (by show 2 ≤ sizeLine; decide) (.cons (.int _) (.cons ((rv.keeps l.kps).keeps k2) .nil))⟩
  · rw [enumD_length, ra.length]
    exact Nat.le_refl _
def enumOf : List D → Option (List D)
  | [.tup xs] => some (enumD xs)
  | _ => none
def iEn (fs : Ars) : Ars := fun ρ S => (fs ρ S).bind fun p => (enumOf p.1).map fun xs => (xs, p.2)
section
variable {X : Cx} {tg e : Expr} {fs : Ars}
theorem iEn_split {ρ : Rho} {S S' : Sto} {xs : List D} (h : iEn fs ρ S = some (xs, S')) : ∃ ds, fs ρ S = some (ds, S') ∧ enumOf ds = some xs := by
  unfold iEn at h
  cases e1 : fs ρ S with
  | none => rw [e1] at h; cases h
  | some p =>
    rw [e1, Option.bind_some] at h
    obtain ⟨z, hz, he⟩ := Option.map_eq_some_iff.mp h
    cases he
    exact ⟨p.1, rfl, hz⟩
theorem it_enum {fl : Bool} (h : PI X tg e (iEnumTZ X.K (tA (FX X) fs))) : IT fl X tg e (iEn fs) := pi_imp h fun σ H R ⟨W, ρ, S, xs, S', rl, hf, k⟩ => by
  obtain ⟨ds, e1, e2⟩ := iEn_split hf
  refine ⟨W, ρ, S, ds, S', rl, e1, fun vs H1 s1 st1 r1 => ?_⟩
  unfold enumOf at e2
  split at e2
  · cases e2
    cases r1 with
    | cons a b =>
      cases b
      obtain ⟨a1, v1, rfl, q1, z1, r1⟩ := rp_tup a
      refine ⟨a1, v1, rfl, q1.sqt, k _ H1 s1 st1 ?_ (walk_enumT q1 r1)⟩
      rw [enumD_length, ← r1.length]
      exact z1
  · cases e2
end
end DL

set_option Elab.async false
set_option linter.all false
set_option maxRecDepth 100000
set_option maxHeartbeats 1000000
namespace DL
open PySem PySem.Spec PyProof.Rows L2
/-! ## 31. reading a dict: k in d, d[k] -/
theorem key_q {K : Fw} {W : Wd} {H : Hp} {v : V} {d : D} {k : Key} (r : Rq K W H v d) (h : d.key = some k) : v = kV k := by
  cases r with
  | of r => exact key_v r h
  | _ => cases h
def D.isInA (x y : D) : Option D := match y with
  | .dct ks ds => x.key.map fun k => .bl (dFind ks ds k).isSome
  | y => D.isIn x y
def D.notInA (x y : D) : Option D := match y with
  | .dct ks ds => x.key.map fun k => .bl (!(dFind ks ds k).isSome)
  | y => D.notIn x y
def rInA (K : PySem.W.Frag) (neg : Bool) : R2 := fun x y H Q => rInP K neg x y H Q ∨ ∃ a o, y = .ref a ∧ DGet H a x o ∧ Q (.bl (xor neg o.isSome)) H
theorem op_inA {X : Cx} (hu : X.A.units + 64 < cLine) : OpR X (compareOp .In) (rInA X.K false) := by
  intro pins s σ H x y v u Q I rx ry h
  rcases h with h | ⟨a, ov, ey, g, q⟩
  · exact op_inP hu pins s σ H x y v u Q I rx ry h
  · subst ey
    obtain rfl : u = Value.ref a := ry
    exact d_in (by omega) I g rx fun s3 I3 => ⟨.bl ov.isSome, H, I3, rfl, by simpa using q⟩
theorem op_notInA {X : Cx} (hu : X.A.units + 64 < cLine) : OpR X (compareOp .NotIn) (rInA X.K true) := by
  intro pins s σ H x y v u Q I rx ry h
  rcases h with h | ⟨a, ov, ey, g, q⟩
  · exact op_notInP hu pins s σ H x y v u Q I rx ry h
  · subst ey
    obtain rfl : u = Value.ref a := ry
    exact d_notIn (by omega) I g rx fun s3 I3 => ⟨.bl (!ov.isSome), H, I3, rfl, by simpa using q⟩
theorem find_some {K : Fw} {W : Wd} {H : Hp} {k : Key} {ks : List Key} {vs : List V} {ds : List D} (rs : Rps K W H vs ds) : (valV (ks.zip vs) k).isSome = (dFind ks ds k).isSome := by
  rcases find_rps (k := k) (ks := ks) rs with ⟨h1, h2⟩ | ⟨v', d', h1, h2, h3⟩ <;> rw [h1, h2] <;> rfl
theorem isInA_d {K : Fw} : OpD K (rInA K false) D.isInA := fun W H v1 v2 d1 d2 d Q wf r1 r2 h k => by
  cases d2 with
  | dct ks ds =>
    obtain ⟨kk, e4, hf⟩ := Option.map_eq_some_iff.mp h
    subst hf
    cases key_q r1 e4
    obtain ⟨a, vs, rfl, e, hl, rs⟩ := rq_dct r2
    refine .inr ⟨a, _, rfl, .k e, k _ H (.refl _) ?_⟩
    rw [find_some rs, Bool.false_xor]
    exact .bl _
  | _ => exact .inl (isIn_d W H _ _ _ _ _ Q wf r1 r2 h k)
theorem notInA_d {K : Fw} : OpD K (rInA K true) D.notInA := fun W H v1 v2 d1 d2 d Q wf r1 r2 h k => by
  cases d2 with
  | dct ks ds =>
    obtain ⟨kk, e4, hf⟩ := Option.map_eq_some_iff.mp h
    subst hf
    cases key_q r1 e4
    obtain ⟨a, vs, rfl, e, hl, rs⟩ := rq_dct r2
    refine .inr ⟨a, _, rfl, .k e, k _ H (.refl _) ?_⟩
    rw [find_some rs, Bool.true_xor]
    exact .bl _
  | _ => exact .inl (notIn_d W H _ _ _ _ _ Q wf r1 r2 h k)
def D.dix : D → D → Option D
  | .dct ks ds, x => x.key.bind (dFind ks ds)
  | _, _ => none
def rDGet : R2 := fun x y H Q => ∃ a v, x = .ref a ∧ DGet H a y (some v) ∧ Q v H
theorem dix_d {K : Fw} : OpD K rDGet D.dix := fun W H v1 v2 d1 d2 d Q wf r1 r2 h k => by
  cases d1 with
  | dct ks ds =>
    obtain ⟨kk, e4, hf⟩ := Option.bind_eq_some_iff.mp h
    cases key_q r2 e4
    obtain ⟨a, vs, rfl, e, hl, rs⟩ := rq_dct r1
    rcases find_rps (k := kk) (ks := ks) rs with ⟨h1, h2⟩ | ⟨v', d', h1, h2, h3⟩
    · rw [hf] at h2; cases h2
    · rw [hf] at h2
      cases h2
      exact ⟨a, v', rfl, by rw [← h1]; exact .k e, k _ H (.refl _) h3⟩
  | _ => cases h
theorem e_dix {X : Cx} {a b : Expr} {f1 f2 : Ex} {pos : Pos} (hu : X.A.units + 64 < cLine) (ha : B X a f1) (hb : B X b f2) (hs : NoSl b := by intro _ _; rfl) : E X (.Subscript a b pos) (eBin D.dix f1 f2) :=
  pe_imp (pe_dget (by omega) ha hb hs) fun σ H Q h => bin_d dix_d h
end DL

set_option Elab.async false
set_option linter.all false
set_option maxRecDepth 100000
set_option maxHeartbeats 1000000
namespace DL
open PySem PySem.Spec PyProof.Rows L2
/-! ## 32. data as a key of a dict: nested tuples -/
section
variable {X : Cx} {pins : List (Addr × Obj)} {σ : L2.St} {H : Hp} {s : Shared} {W : Wd}
mutual
theorem nk_is (I : Inv X pins σ H s) : ∀ {d : D} {v : V} {u : Value} {k : NestedKey}, Rp (FX X) W H v d → d.nk = some k → RelV v u → NestedIs s.heap k u
  | .non, _, u, _, r, h, rv => by
    cases r
    simp only [D.nk] at h
    cases h
    obtain rfl : u = Value.none := rv
    exact .none
  | .bl b, _, u, _, r, h, rv => by
    cases r
    simp only [D.nk] at h
    cases h
    obtain rfl : u = Value.bool b := rv
    exact .bool rfl
  | .int i, _, u, _, r, h, rv => by
    cases r
    simp only [D.nk] at h
    cases h
    obtain ⟨t, rfl⟩ := (show ∃ t, u = Value.int i t from rv)
    exact .int _ _
  | .str x, _, u, _, r, h, rv => by
    cases r
    simp only [D.nk] at h
    cases h
    obtain ⟨t, rfl⟩ := (show ∃ t, u = Value.str x t from rv)
    exact .text _ _
  | .tup xs, _, u, k, r, h, rv => by
    cases r with
    | @tup a vs _ q z rs =>
      simp only [D.nk] at h
      obtain ⟨ks, hk, rfl⟩ := Option.map_eq_some_iff.mp h
      obtain rfl : u = Value.ref a := rv
      obtain ⟨its, rvs, p, _⟩ := I.tuple q.sqt
      obtain ⟨o, ho, hc, n, hd⟩ := p
      exact .tup ho hc hd (nks_is I rs hk (by simpa using rvs))
  | .lst _, _, _, _, _, h, _ => by simp [D.nk] at h
  | .ty _, _, _, _, _, h, _ => by simp [D.nk] at h
  | .ref _, _, _, _, _, h, _ => by simp [D.nk] at h
  | .scr _, _, _, _, _, h, _ => by simp [D.nk] at h
  | .dct _ _, _, _, _, _, h, _ => by simp [D.nk] at h
theorem nks_is (I : Inv X pins σ H s) : ∀ {ds : List D} {vs : List V} {us : List Value} {ks : List NestedKey}, Rps (FX X) W H vs ds → D.nks ds = some ks → Vals vs us → NestedAll s.heap ks us
  | [], _, _, _, r, h, rv => by
    cases r
    simp only [D.nks] at h
    cases h
    cases rv
    exact .nil
  | d :: ds, _, _, _, r, h, rv => by
    simp only [D.nks] at h
    obtain ⟨k, h1, h2⟩ := Option.bind_eq_some_iff.mp h
    obtain ⟨ks, h3, rfl⟩ := Option.map_eq_some_iff.mp h2
    cases r with
    | cons a b =>
      cases rv with
      | cons c e => exact .cons (nk_is I a h1 c) (nks_is I b h3 e)
end
end
end DL

set_option Elab.async false
set_option linter.all false
set_option maxRecDepth 100000
set_option maxHeartbeats 1000000
namespace DL
open PySem PySem.Spec PyProof.Rows L2
/-! ## 34. its rules -/
def DnIs (X : Cx) (H : Hp) (a : Addr) (xs : DnX) : Prop := (∃ o, H a = some (DnAt X.prog X.w a xs o)) ∧ ∀ (pins : List (Addr × Obj)) (σ : L2.St) (s : Shared), Inv X pins σ H s → KeysAt s.heap xs
def NkIs (X : Cx) (H : Hp) (b : Addr) (k : NestedKey) : Prop := ∀ (pins : List (Addr × Obj)) (σ : L2.St) (s : Shared), Inv X pins σ H s → NestedIs s.heap k (.ref b) ∧ k.depth ≤ 8
def tDnNew (X : Cx) : TE := fun _ H Q => ∀ p, H p = none → Q (.ref p) (upd H p (DnAt X.prog X.w p [] dictNew))
def tDiNew (X : Cx) : TE := fun _ H Q => ∀ p, H p = none → Q (.ref p) (upd H p (DiAt X.prog X.w p [] dictNew))
def tDnGet2 (X : Cx) (td ty tx : TE) : TE := fun σ H Q => td σ H fun x H1 => ∃ a, x = .ref a ∧ (∃ xs o, H1 a = some (DnAt X.prog X.w a xs o)) ∧ ty σ H1 fun y H2 => tx σ H2 fun z H3 =>
  ∃ xs b k, y = .ref b ∧ DnIs X H3 a xs ∧ NkIs X H3 b k ∧ Q ((findN xs k).getD z) H3
def sDnPutT (X : Cx) (td ty tv : TE) : TS := fun D σ H => tv σ H fun v H1 => td σ H1 fun x H2 => ty σ H2 fun y H3 =>
  ∃ a xs b k, x = .ref a ∧ y = .ref b ∧ DnIs X H3 a xs ∧ NkIs X H3 b k ∧ xs.length < sizeLine ∧ ∀ o, D.nx σ (upd H3 a (DnAt X.prog X.w a (putN xs k b v) o))
def sDiPutT (X : Cx) (td ty tv : TE) : TS := fun D σ H => tv σ H fun v H1 => td σ H1 fun x H2 => ty σ H2 fun y H3 =>
  ∃ a kvs j o, x = .ref a ∧ y = kV j ∧ H3 a = some (DiAt X.prog X.w a kvs o) ∧ kvs.length < sizeLine ∧ ∀ o, D.nx σ (upd H3 a (DiAt X.prog X.w a (putK kvs j v) o))
def tDnGet (X : Cx) (td ty : TE) : TE := fun σ H Q => td σ H fun x H1 => ty σ H1 fun y H2 => ∃ a xs b k v, x = .ref a ∧ y = .ref b ∧ DnIs X H2 a xs ∧ NkIs X H2 b k ∧ findN xs k = some v ∧ Q v H2
def tDiGet (X : Cx) (td ty : TE) : TE := fun σ H Q => td σ H fun x H1 => ty σ H1 fun y H2 => ∃ a kvs j o v, x = .ref a ∧ y = kV j ∧ H2 a = some (DiAt X.prog X.w a kvs o) ∧ valV kvs j = some v ∧ Q v H2
section
variable {X : Cx} {A : Around} {E : Value → Shared → Prop} {pins : List (Addr × Obj)} {σ : L2.St} {H : Hp} {s : Shared} {a b : Addr} {xs : DnX} {k : NestedKey} {o i e f value : Expr} {pos pos' apos cpos : Pos} {td ty tx tv : TE}
theorem dn_at {ob : Obj} (I : Inv X pins σ H s) (e : H a = some (DnAt X.prog X.w a xs ob)) : s.TypeIs (.ref a) "dict" ∧ ∀ b, Value.ref a = .ref b → ∃ ob, s.heap.get? b = some ob ∧ ob.dict = none := by
  obtain ⟨⟨p1, p2, h1, ys, p3, es, ep, h2, _⟩, _, _⟩ := (I.hok a _ e : ObjOk X.prog X.w H s.heap a (.ext (DnP X.prog X.w a xs ob)))
  refine ⟨⟨ob, h1, h2.1⟩, fun b q => ?_⟩
  cases q
  exact ⟨ob, h1, h2.2.1⟩
theorem di_type {ob : Obj} {kvs : List (Key × V)} (I : Inv X pins σ H s) (e : H a = some (DiAt X.prog X.w a kvs ob)) : s.TypeIs (.ref a) "dict" := by
  obtain ⟨⟨p1, p2, h1, vs, p3, es, ep, h2, _⟩, _, _⟩ := (I.hok a _ e : ObjOk X.prog X.w H s.heap a (.ext (DiP X.prog X.w a kvs ob)))
  exact ⟨ob, h1, h2.1⟩
theorem dn_item {ob : Obj} {Q : Value → Shared → Prop} {v : V} (hu : A.units + 16 < cLine) (I : Inv X pins σ H s) (e : H a = some (DnAt X.prog X.w a xs ob)) (ky : KeysAt s.heap xs) (hk : NestedIs s.heap k (.ref b) ∧ k.depth ≤ 8) (hv : findN xs k = some v)
    (h : ∀ w' s', Inv X pins σ H s' → RelV v w' → Q w' s') : wpAny (model X.prog X.w) A (getItem (.ref a) (.ref b)) Q E s := by
  obtain ⟨hd, z, ys, p3, dd⟩ := dn_of I e ky
  rcases rd_find (k := k) p3 with ⟨h1, h2⟩ | ⟨v', p, h1, h2, h3⟩
  · rw [hv] at h1; cases h1
  · rw [hv] at h1; cases h1
    exact wpAny_getItem_heap (knd := nestedKind X.prog X.w) (by show A.units + 1 + 8 < cLine; omega) hk dd h2 (h _ _ (I.tok _) h3)
theorem pe_dnnew : PE X (.Dict [] [] pos) (tDnNew X) := ⟨fun pins s σ H Q I h =>
  wpAny_Dict_empty ⟨.ref s.heap.objs.size, _, I.laid (a := s.heap.objs.size) (o := DnAt X.prog X.w s.heap.objs.size [] dictNew) (t' := s.toks) (fun _ _ q => Heap.get?_push_of_some _ q) (Nat.le_refl _) (dn_empty s.heap I.big), rfl, h _ (I.hok.fresh (Nat.le_refl _))⟩⟩
theorem pe_dinew : PE X (.Dict [] [] pos) (tDiNew X) := ⟨fun pins s σ H Q I h =>
  wpAny_Dict_empty ⟨.ref s.heap.objs.size, _, I.laid (a := s.heap.objs.size) (o := DiAt X.prog X.w s.heap.objs.size [] dictNew) (t' := s.toks) (fun _ _ q => Heap.get?_push_of_some _ q) (Nat.le_refl _) (di_empty s.heap I.big), rfl, h _ (I.hok.fresh (Nat.le_refl _))⟩⟩
theorem pe_dnget2 (hu : X.A.units + 16 < cLine) (ho : PE X o td) (he : PE X e ty) (hf : PE X f tx) (m : M2 X o "get" apos e f cpos) : PE X (.Call (.Attribute o "get" apos) [e, f] [] cpos) (tDnGet2 X td ty tx) := by
  refine ⟨fun pins s σ H Q I h => ?_⟩
  refine wpAny_Call_method m.base m.few m.line PySem.F.plainAttrs_dict PySem.F.slot_dict_get PySem.F.type_dict_get (thn (ho.run pins s σ H _ I h) fun u s1 ⟨x, H1, I1, rx, a, ex, ⟨xs0, o0, d⟩, q1⟩ => ?_)
  subst ex
  obtain rfl : u = Value.ref a := rx
  obtain ⟨t1, t2⟩ := dn_at I1 d
  refine ⟨t1, t2, ?_⟩
  rw [m.trees]
  refine Calls.callWith_builtin rfl (Calls.evalArgs_plain (Calls.spliced_cons (thn (he.run pins s1 σ H1 _ I1 q1) fun iv s2 ⟨y, H2, I2, ry, q2⟩ =>
    Calls.spliced_cons (thn (hf.run pins s2 σ H2 _ I2 q2) fun fv s3 ⟨z, H3, I3, rz, xs, b, k, ey, ⟨⟨ob, g1⟩, g2⟩, nk, q3⟩ => Calls.spliced_nil ?_))))
  subst ey
  obtain rfl : iv = Value.ref b := ry
  exact dn_get2 hu I3 g1 (g2 _ _ _ I3) (nk _ _ _ I3) rz fun w' s4 I4 rw' => ⟨_, H3, I4, rw', q3⟩
theorem ps_dnput (hu : X.A.units + 16 < cLine) (ho : PE X o td) (hi : PE X i ty) (hv : PE X value tv) (hs : swapsWith value (some (.Subscript o i pos')) pos.line X.env = pure false := by rfl) :
    PS X (.Assign [.Subscript o i pos'] value pos) (sDnPutT X td ty tv) := by
  refine ⟨fun pins s σ H D I h => ?_⟩
  refine wpAny_Assign_Subscript (thn (hv.run pins s σ H _ I h) fun r s1 ⟨v, H1, I1, rv, q1⟩ => thn (ho.run pins s1 σ H1 _ I1 q1) fun u s2 ⟨x, H2, I2, rx, q2⟩ => thn (hi.run pins s2 σ H2 _ I2 q2) fun iv s3 ⟨y, H3, I3, ry, a, xs, b, k, ex, ey, ⟨⟨ob, g1⟩, g2⟩, nk, hz, q3⟩ => ?_) hs
  subst ex ey
  obtain rfl : u = Value.ref a := rx
  obtain rfl : iv = Value.ref b := ry
  exact dn_set hu I3 g1 (g2 _ _ _ I3) (nk _ _ _ I3) rv hz fun s4 o' I4 => ⟨σ, _, I4, q3 o'⟩
theorem ps_diput (ho : PE X o td) (hi : PE X i ty) (hv : PE X value tv) (hs : swapsWith value (some (.Subscript o i pos')) pos.line X.env = pure false := by rfl) :
    PS X (.Assign [.Subscript o i pos'] value pos) (sDiPutT X td ty tv) := by
  refine ⟨fun pins s σ H D I h => ?_⟩
  refine wpAny_Assign_Subscript (thn (hv.run pins s σ H _ I h) fun r s1 ⟨v, H1, I1, rv, q1⟩ => thn (ho.run pins s1 σ H1 _ I1 q1) fun u s2 ⟨x, H2, I2, rx, q2⟩ => thn (hi.run pins s2 σ H2 _ I2 q2) fun iv s3 ⟨y, H3, I3, ry, a, kvs, j, ob, ex, ey, g, hz, q3⟩ => ?_) hs
  subst ex ey
  obtain rfl : u = Value.ref a := rx
  exact di_set I3 g ry rv hz fun s4 o' I4 => ⟨σ, _, I4, q3 o'⟩
theorem pe_dnget (hu : X.A.units + 16 < cLine) (ho : PE X o td) (hi : PE X i ty) (hs : NoSl i) : PE X (.Subscript o i pos) (tDnGet X td ty) := by
  refine ⟨fun pins s σ H Q I h => ?_⟩
  refine subD_of PySem.F.slot_dict_getitem.lookup hs (thn (ho.run pins s σ H _ I h) fun u s1 ⟨x, H1, I1, rx, q1⟩ => thn (hi.run pins s1 σ H1 _ I1 q1) fun iv s2 ⟨y, H2, I2, ry, a, xs, b, k, v, ex, ey, ⟨⟨ob, g1⟩, g2⟩, nk, hv, q2⟩ => ?_)
  subst ex ey
  obtain rfl : u = Value.ref a := rx
  obtain rfl : iv = Value.ref b := ry
  exact ⟨(dn_at I2 g1).1, dn_item hu I2 g1 (g2 _ _ _ I2) (nk _ _ _ I2) hv fun w' s3 I3 rw' => ⟨v, H2, I3, rw', q2⟩⟩
theorem pe_diget (ho : PE X o td) (hi : PE X i ty) (hs : NoSl i) : PE X (.Subscript o i pos) (tDiGet X td ty) := by
  refine ⟨fun pins s σ H Q I h => ?_⟩
  refine subD_of PySem.F.slot_dict_getitem.lookup hs (thn (ho.run pins s σ H _ I h) fun u s1 ⟨x, H1, I1, rx, q1⟩ => thn (hi.run pins s1 σ H1 _ I1 q1) fun iv s2 ⟨y, H2, I2, ry, a, kvs, j, ob, v, ex, ey, g, hv, q2⟩ => ?_)
  subst ex ey
  obtain rfl : u = Value.ref a := rx
  exact ⟨di_type I2 g, di_item I2 g ry hv fun w' s3 I3 rw' => ⟨v, H2, I3, rw', q2⟩⟩
end
end DL

set_option Elab.async false
set_option linter.all false
set_option maxRecDepth 100000
namespace DL
open PySem PySem.Spec PyProof.Rows L2
/-! ## 35. x *= y of ints -/
def D.imul : D → D → Option D
  | .int i, .int j => if (-(2 ^ 64) < i ∧ i < 2 ^ 64) ∨ (-(2 ^ 64) < j ∧ j < 2 ^ 64) then some (.int (i * j)) else none
  | _, _ => none
theorem imul_d {K : Fw} : OpD K (rI CMul fun i j => .int (i * j)) D.imul := fun W H v1 v2 d1 d2 d Q wf r1 r2 h k => by
  unfold D.imul at h
  split at h
  · rename_i i j
    by_cases c : (-(2 ^ 64) < i ∧ i < 2 ^ 64) ∨ (-(2 ^ 64) < j ∧ j < 2 ^ 64)
    · rw [if_pos c] at h
      cases h
      exact ⟨_, _, rq_int r1, rq_int r2, c, k _ H (.refl _) (.int _)⟩
    · rw [if_neg c] at h; cases h
  · cases h
end DL

set_option Elab.async false
set_option linter.all false
set_option maxRecDepth 100000
set_option maxHeartbeats 1000000
namespace DL
open PySem PySem.Spec PyProof.Rows L2
/-! ## 36. the frame's own dict: data -/
/-- a key of a dict of that kind -/
def D.keyOk : Bool → D → Option NestedKey
  | true, .tup xs => (D.tup xs).nk.bind fun k => if k.depth ≤ 8 then some k else none
  | false, .int i => some (.num i)
  | false, .str x => some (.text x)
  | _, _ => none
def dnFind (ks ds : List D) (k : NestedKey) : Option D := ((ks.zip ds).find? fun kv => decide (kv.1.nk = some k)).map (·.2)
def dnRep (k : NestedKey) (v : D) : List D → List D → List D
  | y :: ks, d :: ds => (if y.nk = some k then v else d) :: dnRep k v ks ds
  | _, ds => ds
def dnPutK (ks ds : List D) (y : D) (k : NestedKey) : List D := if (dnFind ks ds k).isSome = true then ks else ks ++ [y]
def dnPutV (ks ds : List D) (k : NestedKey) (v : D) : List D := if (dnFind ks ds k).isSome = true then dnRep k v ks ds else ds ++ [v]
section
variable {X : Cx} {K : Fw} {W : Wd} {H : Hp} {pins : List (Addr × Obj)} {σ : L2.St} {s : Shared}
theorem keysAt_of (I : Inv X pins σ H s) : ∀ {xs : DnX} {ks : List D}, Rps (FX X) W H (xs.map fun x => V.ref x.2.1) ks → ks.map D.nk = xs.map (fun x => some x.1) → (∀ x ∈ xs, x.1.depth ≤ 8) → KeysAt s.heap xs
  | [], _, _, _, _, x, hx => by cases hx
  | x :: xs, _, r, e, d, y, hy => by
    cases r with
    | @cons _ dk _ dks r1 r2 =>
      rw [List.map_cons, List.map_cons] at e
      injection e with e1 e2
      cases hy with
      | head => exact ⟨nk_is I r1 e1 rfl, d _ (.head _)⟩
      | tail _ hy => exact keysAt_of I r2 e2 (fun z hz => d z (.tail _ hz)) y hy
theorem dn_find {k : NestedKey} : ∀ {xs : DnX} {ks ds : List D}, Rps K W H (xs.map (·.2.2)) ds → ks.map D.nk = xs.map (fun x => some x.1) → (findN xs k = none ∧ dnFind ks ds k = none) ∨ ∃ v d, findN xs k = some v ∧ dnFind ks ds k = some d ∧ Rp K W H v d
  | [], ks, _, _, e => by
    have : ks = [] := List.map_eq_nil_iff.mp e
    subst this
    exact .inl ⟨rfl, rfl⟩
  | x :: xs, [], _, _, e => by simp at e
  | x :: xs, y :: ks, _, r, e => by
    cases r with
    | @cons _ d _ ds r1 r2 =>
      rw [List.map_cons, List.map_cons] at e
      injection e with e1 e2
      by_cases q : x.1 = k
      · refine .inr ⟨x.2.2, d, by simp [findN, q], ?_, r1⟩
        simp [dnFind, e1, q]
      · rcases dn_find (k := k) r2 e2 with ⟨h1, h2⟩ | ⟨v', d', h1, h2, h3⟩
        · exact .inl ⟨by simpa [findN, q] using h1, by simpa [dnFind, e1, q] using h2⟩
        · exact .inr ⟨v', d', by simpa [findN, q] using h1, by simpa [dnFind, e1, q] using h2, h3⟩
theorem dn_rep {k : NestedKey} {v : V} {d : D} (rv : Rp K W H v d) : ∀ {xs : DnX} {ks ds : List D}, Rps K W H (xs.map (·.2.2)) ds → ks.map D.nk = xs.map (fun x => some x.1) → Rps K W H ((xs.map fun x => if x.1 = k then (x.1, x.2.1, v) else x).map (·.2.2)) (dnRep k d ks ds)
  | [], ks, _, r, e => by
    cases r
    have : ks = [] := List.map_eq_nil_iff.mp e
    subst this
    exact .nil
  | x :: xs, [], _, _, e => by simp at e
  | x :: xs, y :: ks, _, r, e => by
    cases r with
    | @cons _ dd _ ds r1 r2 =>
      rw [List.map_cons, List.map_cons] at e
      injection e with e1 e2
      have ih := dn_rep rv r2 e2 (k := k)
      rw [List.map_cons, List.map_cons, dnRep, e1]
      by_cases q : x.1 = k
      · rw [if_pos q, if_pos (congrArg some q)]; exact .cons rv ih
      · rw [if_neg q, if_neg (fun z => q (Option.some.inj z))]; exact .cons r1 ih
theorem map_rep {k : NestedKey} {v : V} (xs : DnX) : ((xs.map fun x => if x.1 = k then (x.1, x.2.1, v) else x).map fun x => V.ref x.2.1) = (xs.map fun x => V.ref x.2.1) ∧ ((xs.map fun x => if x.1 = k then (x.1, x.2.1, v) else x).map fun x => some x.1) = xs.map fun x => some x.1 := by
  constructor
  · rw [List.map_map]; refine List.map_congr_left fun x _ => ?_
    by_cases q : x.1 = k <;> simp [q]
  · rw [List.map_map]; refine List.map_congr_left fun x _ => ?_
    by_cases q : x.1 = k <;> simp [q]
/-- the dict behind d[y] = v -/
theorem dn_put_cell {a b : Addr} {xs : DnX} {ks ds : List D} {k : NestedKey} {y d : D} {v : V} {o : Obj} {H' : Hp} (e : H' a = some (DnAt K.pg K.wd a (putN xs k b v) o)) (r1 : Rps K W H' (xs.map fun x => V.ref x.2.1) ks) (r2 : Rps K W H' (xs.map (·.2.2)) ds) (en : ks.map D.nk = xs.map (fun x => some x.1)) (dp : ∀ x ∈ xs, x.1.depth ≤ 8)
    (ry : Rp K W H' (.ref b) y) (hk : y.nk = some k) (hd : k.depth ≤ 8) (rv : Rp K W H' v d) : CellOk K W H' a (.dn true (dnPutK ks ds y k) (dnPutV ks ds k d)) := by
  refine ⟨putN xs k b v, o, e, ?_⟩
  unfold dnPutK dnPutV
  rcases dn_find (k := k) r2 en with ⟨h1, h2⟩ | ⟨v', d', h1, h2, h3⟩
  · rw [putN, h1, h2]
    refine ⟨?_, ?_, ?_, fun x hx => ?_⟩
    · show Rps K W H' ((xs ++ [(k, b, v)]).map fun x => V.ref x.2.1) (ks ++ [y])
      rw [List.map_append]; exact r1.append (.cons ry .nil)
    · show Rps K W H' ((xs ++ [(k, b, v)]).map (·.2.2)) (ds ++ [d])
      rw [List.map_append]; exact r2.append (.cons rv .nil)
    · show (ks ++ [y]).map D.nk = (xs ++ [(k, b, v)]).map (fun x => some x.1)
      rw [List.map_append, List.map_append, en]
      simp [hk]
    · have hx : x ∈ xs ++ [(k, b, v)] := hx
      rcases List.mem_append.mp hx with hx | hx
      · exact dp x hx
      · rw [List.mem_singleton.mp hx]; exact hd
  · rw [putN, h1, h2]
    have m := map_rep (k := k) (v := v) xs
    refine ⟨?_, ?_, ?_, fun x hx => ?_⟩
    · show Rps K W H' ((xs.map fun x => if x.1 = k then (x.1, x.2.1, v) else x).map fun x => V.ref x.2.1) ks
      rw [m.1]; exact r1
    · exact dn_rep rv r2 en
    · show ks.map D.nk = (xs.map fun x => if x.1 = k then (x.1, x.2.1, v) else x).map (fun x => some x.1)
      rw [m.2]; exact en
    · have hx : x ∈ xs.map fun x => if x.1 = k then (x.1, x.2.1, v) else x := hx
      obtain ⟨z, hz, rfl⟩ := List.mem_map.mp hx
      by_cases q : z.1 = k
      · simp only [if_pos q]; exact dp z hz
      · simp only [if_neg q]; exact dp z hz
/-! ints and texts -/
def keyN : Key → NestedKey := Sum.elim .num .text
theorem keyD_nk (j : Key) : (keyD j).nk = some (keyN j) := by cases j <;> simp [keyD, keyN, D.nk]
theorem keyN_inj {i j : Key} (h : keyN i = keyN j) : i = j := by
  cases i <;> cases j <;> simp [keyN] at h <;> rw [h]
theorem di_find {j : Key} : ∀ {kvs : List (Key × V)} {ds : List D}, Rps K W H (kvs.map (·.2)) ds → (valV kvs j = none ∧ dnFind (kvs.map fun kv => keyD kv.1) ds (keyN j) = none) ∨ ∃ v d, valV kvs j = some v ∧ dnFind (kvs.map fun kv => keyD kv.1) ds (keyN j) = some d ∧ Rp K W H v d
  | [], _, _ => .inl ⟨rfl, rfl⟩
  | x :: kvs, _, r => by
    cases r with
    | @cons _ d _ ds r1 r2 =>
      by_cases q : x.1 = j
      · exact .inr ⟨x.2, d, by simp [valV, q], by simp [dnFind, keyD_nk, q], r1⟩
      · have q' : ¬ keyN x.1 = keyN j := fun z => q (keyN_inj z)
        rcases di_find (j := j) r2 with ⟨h1, h2⟩ | ⟨v', d', h1, h2, h3⟩
        · exact .inl ⟨by simpa [valV, q] using h1, by simpa [dnFind, keyD_nk, q'] using h2⟩
        · exact .inr ⟨v', d', by simpa [valV, q] using h1, by simpa [dnFind, keyD_nk, q'] using h2, h3⟩
theorem di_rep {j : Key} {v : V} {d : D} (rv : Rp K W H v d) : ∀ {kvs : List (Key × V)} {ds : List D}, Rps K W H (kvs.map (·.2)) ds → Rps K W H ((kvs.map fun kv => if kv.1 = j then (kv.1, v) else kv).map (·.2)) (dnRep (keyN j) d (kvs.map fun kv => keyD kv.1) ds)
  | [], _, r => by cases r; exact .nil
  | x :: kvs, _, r => by
    cases r with
    | @cons _ dd _ ds r1 r2 =>
      have ih := di_rep rv r2 (j := j)
      rw [List.map_cons, List.map_cons, List.map_cons, dnRep, keyD_nk]
      by_cases q : x.1 = j
      · rw [if_pos q, if_pos (congrArg (fun z => some (keyN z)) q)]; exact .cons rv ih
      · rw [if_neg q, if_neg (fun z => q (keyN_inj (Option.some.inj z)))]; exact .cons r1 ih
theorem di_put_cell {a : Addr} {kvs : List (Key × V)} {ds : List D} {j : Key} {d : D} {v : V} {o : Obj} {H' : Hp} (e : H' a = some (DiAt K.pg K.wd a (putK kvs j v) o)) (r2 : Rps K W H' (kvs.map (·.2)) ds) (rv : Rp K W H' v d) :
    CellOk K W H' a (.dn false (dnPutK (kvs.map fun kv => keyD kv.1) ds (keyD j) (keyN j)) (dnPutV (kvs.map fun kv => keyD kv.1) ds (keyN j) d)) := by
  refine ⟨putK kvs j v, o, e, ?_⟩
  unfold dnPutK dnPutV
  rcases di_find (j := j) r2 with ⟨h1, h2⟩ | ⟨v', d', h1, h2, h3⟩
  · rw [putK_new v h1, h2]
    refine ⟨?_, ?_⟩
    · rw [List.map_append]; exact r2.append (.cons rv .nil)
    · rw [List.map_append]; rfl
  · have ep : putK kvs j v = kvs.map fun kv => if kv.1 = j then (kv.1, v) else kv := by
      unfold putK
      rw [valV_any, h1]
      rfl
    rw [ep, h2]
    refine ⟨di_rep rv r2, ?_⟩
    rw [List.map_map]
    refine List.map_congr_left fun x _ => ?_
    by_cases q : x.1 = j <;> simp [q]
end
end DL

set_option Elab.async false
set_option linter.all false
set_option maxRecDepth 100000
set_option maxHeartbeats 1000000
namespace DL
open PySem PySem.Spec PyProof.Rows L2
/-! ## 37. the frame's own dict: rules -/
theorem pe_or {X : Cx} {e : Expr} {t t' : TE} (h : PE X e t) (h' : PE X e t') : PE X e (fun σ H Q => t σ H Q ∨ t' σ H Q) := ⟨fun pins s σ H Q I w => w.elim (fun w => h.run pins s σ H Q I w) fun w => h'.run pins s σ H Q I w⟩
theorem ps_or {X : Cx} {st : Stmt} {t t' : TS} (h : PS X st t) (h' : PS X st t') : PS X st (fun Z σ H => t Z σ H ∨ t' Z σ H) := ⟨fun pins s σ H Z I w => w.elim (fun w => h.run pins s σ H Z I w) fun w => h'.run pins s σ H Z I w⟩
def sDn (b : Bool) (i : Nat) : Stm := fun ρ S => some (.nx (ρ.set i (.ow (.dn b [] []))) S)
def eDnGet2 (i : Nat) (fe ff : Ex) : Ex := fun ρ S => match ρ[i]? with
  | some (.ow (.dn true ks ds)) => (fe ρ S).bind fun q => (ff ρ q.2).bind fun r => (q.1.keyOk true).map fun k => ((dnFind ks ds k).getD r.1, r.2)
  | _ => none
def eDnIx (i : Nat) (fe : Ex) : Ex := fun ρ S => match ρ[i]? with
  | some (.ow (.dn b ks ds)) => (fe ρ S).bind fun q => (q.1.keyOk b).bind fun k => (dnFind ks ds k).map fun d => (d, q.2)
  | _ => none
def sDnPut (i : Nat) (f fi : Ex) : Stm := fun ρ S => (f ρ S).bind fun p => match ρ[i]? with
  | some (.ow (.dn b ks ds)) => (fi ρ p.2).bind fun q => (q.1.keyOk b).bind fun k => if ks.length < sizeLine then some (.nx (ρ.set i (.ow (.dn b (dnPutK ks ds q.1 k) (dnPutV ks ds k p.1)))) q.2) else none
  | _ => none
def iDn (i : Nat) : Ars := fun ρ S => match ρ[i]? with
  | some (.ow (.dn b ks _)) => if ks.length ≤ sizeLine then some (ks, S) else none
  | _ => none
section
variable {X : Cx} {st : Stmt} {o e f : Expr} {fe ff fi g : Ex} {i : Nat} {pos pos' apos cpos : Pos} {value : Expr}
theorem st_dnew (h : PS X st (tAsg (tDnNew X) (gName i))) : ST X st (sDn true i) := ps_imp h fun Z σ H ⟨W, ρ, S, o, rl, hf, k⟩ => by
  cases hf
  intro p n
  have sm := upd_Same (o := DnAt X.prog X.w p [] dictNew) n
  exact k _ _ _ (step_own (.same sm) n) (own_new rl (.same sm) n (rl.st.new rl.wf n) (c := .dn true [] []) ⟨[], dictNew, upd_same, .nil, .nil, rfl, fun x hx => nomatch hx⟩)
theorem st_dinew (h : PS X st (tAsg (tDiNew X) (gName i))) : ST X st (sDn false i) := ps_imp h fun Z σ H ⟨W, ρ, S, o, rl, hf, k⟩ => by
  cases hf
  intro p n
  have sm := upd_Same (o := DiAt X.prog X.w p [] dictNew) n
  exact k _ _ _ (step_own (.same sm) n) (own_new rl (.same sm) n (rl.st.new rl.wf n) (c := .dn false [] []) ⟨[], dictNew, upd_same, .nil, rfl⟩)
theorem keyOk_ref {W : Wd} {H : Hp} {v : V} {d : D} {k : NestedKey} (r : Rp (FX X) W H v d) (h : d.keyOk true = some k) : ∃ b, v = .ref b ∧ NkIs X H b k ∧ d.nk = some k ∧ k.depth ≤ 8 := by
  cases d with
  | tup xs =>
    unfold D.keyOk at h
    obtain ⟨k', e1, e2⟩ := Option.bind_eq_some_iff.mp h
    by_cases z : k'.depth ≤ 8
    · rw [if_pos z] at e2
      cases e2
      cases hr : r with
      | @tup a vs _ q zz rs => exact ⟨a, rfl, fun pins σ s I => ⟨nk_is I r e1 rfl, z⟩, e1, z⟩
    · rw [if_neg z] at e2; cases e2
  | _ => cases h
theorem keyOk_int {W : Wd} {H : Hp} {v : V} {d : D} {k : NestedKey} (r : Rp (FX X) W H v d) (h : d.keyOk false = some k) : ∃ j, v = kV j ∧ k = keyN j ∧ d = keyD j := by
  cases d with
  | int i => cases r; cases h; exact ⟨.inl i, rfl, rfl, rfl⟩
  | str x => cases r; cases h; exact ⟨.inr x, rfl, rfl, rfl⟩
  | _ => cases h
theorem dnIs_of {W : Wd} {H : Hp} {a : Addr} {xs : DnX} {ks : List D} {ob : Obj} (g1 : H a = some (DnAt X.prog X.w a xs ob)) (g2 : Rps (FX X) W H (xs.map fun x => V.ref x.2.1) ks) (g4 : ks.map D.nk = xs.map (fun x => some x.1)) (g5 : ∀ x ∈ xs, x.1.depth ≤ 8) : DnIs X H a xs :=
  ⟨⟨ob, g1⟩, fun pins σ s I => keysAt_of I g2 g4 g5⟩
theorem e_dnget2 (hu : X.A.units + 64 < cLine) (ho : PE X o (tVar i)) (he : E X e fe) (hf : E X f ff) (m : M2 X o "get" apos e f cpos) : E X (.Call (.Attribute o "get" apos) [e, f] [] cpos) (eDnGet2 i fe ff) := pe_imp (pe_dnget2 (by omega) ho he hf m) fun σ H Q ⟨W, ρ, S, d, S', rl, hf, k⟩ => by
  unfold eDnGet2 at hf
  split at hf
  · rename_i ks ds hi
    obtain ⟨⟨qd, S1⟩, e1, hf⟩ := Option.bind_eq_some_iff.mp hf
    obtain ⟨⟨rd, S2⟩, e2, hf⟩ := Option.bind_eq_some_iff.mp hf
    obtain ⟨kk, e3, hf⟩ := Option.map_eq_some_iff.mp hf
    cases hf
    obtain ⟨a, h1, h2, xs, ob, g1, g2, g3, g4, g5⟩ := rl.sl i _ hi
    have nd := (rl.wf.dis i a h2).1
    refine ⟨.ref a, h1, a, rfl, ⟨xs, ob, g1⟩, W, ρ, S, qd, S1, rl, e1, fun v1 H1 s1 st1 r1 => ?_⟩
    have rl1 := rl.stepE s1 st1
    refine ⟨W, ρ, S1, rd, S2, rl1, e2, fun v2 H2 s2 st2 r2 => ?_⟩
    obtain ⟨b, q1, q2, _, _⟩ := keyOk_ref (r1.stepE s2) e3
    have s12 := s1.trans s2
    refine ⟨xs, b, kk, q1, dnIs_of (s12.keep a _ g1 nd) (g2.stepE s12) g4 g5, q2, k _ _ s12 st2 ?_⟩
    rcases dn_find (k := kk) (g3.stepE s12) g4 with ⟨z1, z2⟩ | ⟨v', d', z1, z2, z3⟩
    · rw [z1, z2]; exact r2
    · rw [z1, z2]; exact z3
  · cases hf
theorem e_dnix (hu : X.A.units + 64 < cLine) (ho : PE X o (tVar i)) (he : E X e fe) (hs : NoSl e := by intro _ _; rfl) : E X (.Subscript o e pos) (eDnIx i fe) := pe_imp (pe_or (pe_dnget (by omega) ho he hs) (pe_diget ho he hs)) fun σ H Q ⟨W, ρ, S, d, S', rl, hf, k⟩ => by
  unfold eDnIx at hf
  split at hf
  · rename_i bb ks ds hi
    obtain ⟨⟨qd, S1⟩, e1, hf⟩ := Option.bind_eq_some_iff.mp hf
    obtain ⟨kk, e3, hf⟩ := Option.bind_eq_some_iff.mp hf
    obtain ⟨dd, e4, hf⟩ := Option.map_eq_some_iff.mp hf
    cases hf
    cases bb with
    | true =>
      obtain ⟨a, h1, h2, xs, ob, g1, g2, g3, g4, g5⟩ := rl.sl i _ hi
      have nd := (rl.wf.dis i a h2).1
      refine .inl ⟨.ref a, h1, W, ρ, S, qd, S1, rl, e1, fun v1 H1 s1 st1 r1 => ?_⟩
      obtain ⟨b, q1, q2, _, _⟩ := keyOk_ref r1 e3
      rcases dn_find (k := kk) (g3.stepE s1) g4 with ⟨z1, z2⟩ | ⟨v', d', z1, z2, z3⟩
      · rw [z2] at e4; cases e4
      · rw [z2] at e4
        cases e4
        exact ⟨a, xs, b, kk, v', rfl, q1, dnIs_of (s1.keep a _ g1 nd) (g2.stepE s1) g4 g5, q2, z1, k _ _ s1 st1 z3⟩
    | false =>
      obtain ⟨a, h1, h2, kvs, ob, g1, g2, rfl⟩ := rl.sl i _ hi
      have nd := (rl.wf.dis i a h2).1
      refine .inr ⟨.ref a, h1, W, ρ, S, qd, S1, rl, e1, fun v1 H1 s1 st1 r1 => ?_⟩
      obtain ⟨j, q1, rfl, _⟩ := keyOk_int r1 e3
      rcases di_find (j := j) (g2.stepE s1) with ⟨z1, z2⟩ | ⟨v', d', z1, z2, z3⟩
      · rw [z2] at e4; cases e4
      · rw [z2] at e4
        cases e4
        exact ⟨a, kvs, j, ob, v', rfl, q1, s1.keep a _ g1 nd, z1, k _ _ s1 st1 z3⟩
  · cases hf
theorem st_dnput (hu : X.A.units + 64 < cLine) (ho : PE X o (tVar i)) (hi : E X e fi) (hv : E X value g) (hs : swapsWith value (some (.Subscript o e pos')) pos.line X.env = pure false := by rfl) : ST X (.Assign [.Subscript o e pos'] value pos) (sDnPut i g fi) :=
  ps_imp (ps_or (ps_dnput (by omega) ho hi hv hs) (ps_diput ho hi hv hs)) fun Z σ H ⟨W, ρ, S, oo, rl, hf, k⟩ => by
  unfold sDnPut at hf
  obtain ⟨⟨pd, S1⟩, e1, hf⟩ := Option.bind_eq_some_iff.mp hf
  split at hf
  · rename_i bb ks ds hi
    obtain ⟨⟨qd, S2⟩, e2, hf⟩ := Option.bind_eq_some_iff.mp hf
    obtain ⟨kk, e3, hf⟩ := Option.bind_eq_some_iff.mp hf
    by_cases hz : ks.length < sizeLine
    · rw [if_pos hz] at hf
      cases hf
      cases bb with
      | true =>
        obtain ⟨a, h1, h2, xs, ob, g1, g2, g3, g4, g5⟩ := rl.sl i _ hi
        have nd := (rl.wf.dis i a h2).1
        refine .inl ⟨W, ρ, S, pd, S1, rl, e1, fun v1 H1 s1 st1 r1 => ⟨.ref a, h1, W, ρ, S1, qd, S2, rl.stepE s1 st1, e2, fun v2 H2 s2 st2 r2 => ?_⟩⟩
        have s12 := s1.trans s2
        obtain ⟨b, rfl, q2, q3, q4⟩ := keyOk_ref r2 e3
        have g1' := s12.keep a _ g1 nd
        have hl : xs.length = ks.length := by have := g2.length; rwa [List.length_map] at this
        refine ⟨a, xs, b, kk, rfl, rfl, dnIs_of g1' (g2.stepE s12) g4 g5, q2, by rw [hl]; exact hz, fun o => ?_⟩
        have kp : Kps (FX X) W H2 W (upd H2 a (DnAt X.prog X.w a (putN xs kk b v1) o)) := kps_cell g1' trivial (.inr (.inr ⟨i, h2⟩))
        have cc : CellOk (FX X) W (upd H2 a (DnAt X.prog X.w a (putN xs kk b v1) o)) a (.dn true (dnPutK ks ds qd kk) (dnPutV ks ds kk pd)) :=
          dn_put_cell upd_same ((g2.stepE s12).keeps kp) ((g3.stepE s12).keeps kp) g4 g5 (r2.keeps kp) q3 q4 ((r1.stepE s2).keeps kp)
        obtain ⟨s3, rl3⟩ := own_put ((rl.stepE s1 st1).stepE s2 st2) hi h2 cc ⟨_, g1', trivial⟩
        exact k W σ _ (s12.toS.trans s3) rl3
      | false =>
        obtain ⟨a, h1, h2, kvs, ob, g1, g2, rfl⟩ := rl.sl i _ hi
        have nd := (rl.wf.dis i a h2).1
        refine .inr ⟨W, ρ, S, pd, S1, rl, e1, fun v1 H1 s1 st1 r1 => ⟨.ref a, h1, W, ρ, S1, qd, S2, rl.stepE s1 st1, e2, fun v2 H2 s2 st2 r2 => ?_⟩⟩
        have s12 := s1.trans s2
        obtain ⟨j, q1, rfl, rfl⟩ := keyOk_int r2 e3
        have g1' := s12.keep a _ g1 nd
        refine ⟨a, kvs, j, ob, rfl, q1, g1', by rwa [List.length_map] at hz, fun o => ?_⟩
        have kp : Kps (FX X) W H2 W (upd H2 a (DiAt X.prog X.w a (putK kvs j v1) o)) := kps_cell g1' trivial (.inr (.inr ⟨i, h2⟩))
        have cc := di_put_cell (K := FX X) (H' := upd H2 a (DiAt X.prog X.w a (putK kvs j v1) o)) upd_same ((g2.stepE s12).keeps kp) ((r1.stepE s2).keeps kp)
        obtain ⟨s3, rl3⟩ := own_put ((rl.stepE s1 st1).stepE s2 st2) hi h2 cc ⟨_, g1', trivial⟩
        exact k W σ _ (s12.toS.trans s3) rl3
    · rw [if_neg hz] at hf; cases hf
  · cases hf
end
/-! ### walked -/
def IteO (a : Addr) (u : HO) (ys : List V) : It := ⟨fun i H => H a = some u ∧ i < ys.length, fun i H x H' => H' = H ∧ ys[i]? = some x, fun i H => H a = some u ∧ ys.length ≤ i⟩
/-- u tells the dict object o with the keys ys -/
structure KeysU (P : Program) (w : World) (a : Addr) (u : HO) (o : Obj) (es : Array DictEntry) (ep : Nat) (ys : List V) : Prop where
  at' : ∀ H h, ObjOk P w H h a u → (a == sysModules) = false ∧ h.get? a = some o
  ex : o.ExactDict
  dt : o.data = .dict es ep
  len : ys.length = es.size
  key : ∀ i (hi : i < es.size) v, ys[i]? = some v → RelV v es[i].key
theorem turn_keysU {P : Program} {w : World} {K : PySem.W.Frag} {tg : Expr} {a : Addr} {u : HO} {o : Obj} {es : Array DictEntry} {ep : Nat} {ys : List V} (it : Addr) (U : KeysU P w a u o es ep ys) : Turn P w K tg (IteO a u ys) [it] it (fun i h => h.IsKeyIter it a i es.size ep) where
  mem := by simp
  obj := fun i h st b hb => by
    have e : b = it := by simpa using hb
    subst e
    obtain ⟨oi, e, c, dd⟩ := st
    exact ⟨oi, e, fun v z => by rw [dd] at z; cases z⟩
  keep := fun i h h' st k => st.at fun oi e => k it (by simp) oi e
  item := by
    intro X hP hw hK hc i pins s σ H E I hf st hg
    subst hP hw hK
    obtain ⟨hd, hi⟩ := hg
    obtain ⟨f0, f1, f2, f3, f4, f5⟩ := hf it (by simp)
    obtain ⟨v, hv⟩ : ∃ v, ys[i]? = some v := ⟨ys[i], List.getElem?_eq_getElem hi⟩
    have hi' : i < es.size := by rw [← U.len]; exact hi
    refine wpAny_pyNext_keys_item_raw st ⟨o, (U.at' _ _ (I.hok a _ hd)).2, U.ex, U.dt⟩ hi' fun h' st' sb => ?_
    have I1 : Inv X pins σ H { s with heap := h' } := I.turned (t' := s.toks) (fun b ob hb e => (sb.2 b hb).trans e) f0 f1 f3 f4 f5
    obtain ⟨oi, e, c, dd⟩ := id st'
    exact ⟨_, rfl, go_of (s := { s with heap := h' }) e c dd (by decide) ⟨v, H, I1, U.key i hi' v hv, ⟨rfl, hv⟩, st', fun b hb => (hf b hb).1⟩⟩
  done := by
    intro X hP hw hK hc i pins s σ H E I hf st hg
    subst hP hw hK
    obtain ⟨hd, hi⟩ := hg
    obtain ⟨f0, f1, f2, f3, f4, f5⟩ := hf it (by simp)
    refine wpAny_pyNext_keys_end_raw (I.ok.hd hc) st ⟨o, (U.at' _ _ (I.hok a _ hd)).2, U.ex, U.dt⟩ (by rw [← U.len]; exact hi) fun h' eb => ⟨rfl, I.turned (t' := s.toks) (fun b ob hb e => eb b ob hb e) f0 f1 f3 f4 f5⟩
  self := fun A i s Q E st h => by
    refine wpAny_pyIter_slot st.typeIs PySem.F.slot_dict_keyiterator_iter (wpAny_call_entry PySem.F.slot_dict_keyiterator_iter st.typeIs PySem.F.entry_dict_keyiterator_iter ?_ (PySem.F.args_dict_keyiterator_iter_1 _))
    show wpAny _ _ (ret (.ref it)) _ _ s
    exact wpAny_pure ⟨_, rfl, "dict_keyiterator", _, st.typeIs, PySem.F.slot_dict_keyiterator_next.lookup, h⟩
theorem dn_keysU {P : Program} {w : World} {a : Addr} {xs : DnX} {o : Obj} {H : Hp} {h : Heap} (ok : ObjOk P w H h a (DnAt P w a xs o)) : ∃ es ep, KeysU P w a (DnAt P w a xs o) o es ep (xs.map fun x => V.ref x.2.1) := by
  obtain ⟨⟨p1, p2, h1, ys, p3, es, ep, h2, h3, h4, h5⟩, _, _⟩ := (ok : ObjOk P w H h a (.ext (DnP P w a xs o)))
  have hs := size_of_entries h4
  have hl := rd_len p3
  refine ⟨es, ep, fun H' h' ok' => ?_, h2, h3, by rw [List.length_map, hl, hs], fun i hi v hv => ?_⟩
  · obtain ⟨⟨q1, q2, q3, _⟩, _, _⟩ := (ok' : ObjOk P w H' h' a (.ext (DnP P w a xs o)))
    exact ⟨q1, q3⟩
  · rw [List.getElem?_map] at hv
    obtain ⟨x, hx, rfl⟩ := Option.map_eq_some_iff.mp hv
    obtain ⟨y, hy, e1, e2, _⟩ := paired_get p3 hx
    have q := entry_at h4 i
    rw [hy, Array.getElem?_eq_getElem hi] at q
    have q' := Option.some.inj q
    rw [q', e2]
    rfl
theorem di_keysU {P : Program} {w : World} {a : Addr} {kvs : List (Key × V)} {o : Obj} {H : Hp} {h : Heap} (ok : ObjOk P w H h a (DiAt P w a kvs o)) : ∃ es ep, KeysU P w a (DiAt P w a kvs o) o es ep (kvs.map fun kv => kV kv.1) := by
  obtain ⟨⟨p1, p2, h1, vs, p3, es, ep, h2, h3, h4, h5, h6⟩, _, _⟩ := (ok : ObjOk P w H h a (.ext (DiP P w a kvs o)))
  have hs := h5.length
  rw [Array.length_toList] at hs
  have hl : kvs.length = vs.length := Paired.length p3
  refine ⟨es, ep, fun H' h' ok' => ?_, h2, h3, by rw [List.length_map, hl, hs], fun i hi v hv => ?_⟩
  · obtain ⟨⟨q1, q2, q3, _⟩, _, _⟩ := (ok' : ObjOk P w H' h' a (.ext (DiP P w a kvs o)))
    exact ⟨q1, q3⟩
  · rw [List.getElem?_map] at hv
    obtain ⟨x, hx, rfl⟩ := Option.map_eq_some_iff.mp hv
    obtain ⟨y, hy, e1, e2⟩ := paired_get p3 hx
    have q := h5.get? (i := i) (e := es[i]) (by simp [hi]) hy
    rw [show x.1 = y.1 from e1]
    exact relV_key q.1
end DL

set_option Elab.async false
set_option linter.all false
set_option maxRecDepth 100000
set_option maxHeartbeats 1000000
namespace DL
open PySem PySem.Spec PyProof.Rows L2
/-! ## 38. the frame's own dict: walked, sorted -/
def KUof (X : Cx) (a : Addr) (u : HO) (ys : List V) : Prop := (∃ xs o, u = DnAt X.prog X.w a xs o ∧ ys = xs.map fun x => V.ref x.2.1) ∨ ∃ kvs o, u = DiAt X.prog X.w a kvs o ∧ ys = kvs.map fun kv => kV kv.1
def iDnT (X : Cx) (td : TE) : TI := fun σ H R => td σ H fun x H1 => ∃ a u ys, x = .ref a ∧ H1 a = some u ∧ KUof X a u ys ∧ R (IteO a u ys) H1
section
variable {X : Cx} {tg e : Expr} {td : TE} {i : Nat}
theorem pi_dn (he : PE X e td) : PI X tg e (iDnT X td) := by
  refine ⟨fun pins s σ H R I h => ?_⟩
  refine thn (he.run pins s σ H _ I h) fun v s1 ⟨x, H1, I1, rx, a, u, ys, ex, hu, ku, q⟩ => ?_
  subst ex
  obtain rfl : v = Value.ref a := rx
  have ok := I1.hok a _ hu
  obtain ⟨o, es, ep, U⟩ : ∃ o es ep, KeysU X.prog X.w a u o es ep ys := by
    rcases ku with ⟨xs, o, rfl, rfl⟩ | ⟨kvs, o, rfl, rfl⟩
    · obtain ⟨es, ep, U⟩ := dn_keysU ok; exact ⟨o, es, ep, U⟩
    · obtain ⟨es, ep, U⟩ := di_keysU ok; exact ⟨o, es, ep, U⟩
  obtain ⟨hs, hg⟩ := U.at' _ _ ok
  exact iter_keys hs hg U.ex U.dt (pi_one (tk := s1.toks) I1 _ (turn_keysU _ U) ⟨_, Heap.get?_push_size _ rfl, rfl, rfl⟩ q)
theorem walk_ownD {K : Fw} {W : Wd} {H : Hp} {a : Addr} {u : HO} {vs : List V} {ds : List D} (h : H a = some u) (n : a ∉ W.θ ∧ ¬ W.M0 a) (r : Rps K W H vs ds) : Walk K W false H (IteO a u vs) ds := fun W2 H2 l => by
  have e2 : H2 a = some u := LaterE.keep l a _ h n.1 n.2
  refine ⟨fun i d hd => ?_, ⟨e2, by rw [r.length]; exact Nat.le_refl _⟩⟩
  obtain ⟨v, hv, rv⟩ := r.get hd
  refine ⟨⟨e2, (List.getElem?_eq_some_iff.mp hv).1⟩, fun x H3 y => ?_⟩
  obtain ⟨rfl, y⟩ := y
  rw [hv] at y
  cases y
  exact ⟨.refl _, rv.keeps l.kps⟩
theorem rps_keys {K : Fw} {W : Wd} {H : Hp} : ∀ kvs : List (Key × V), Rps K W H (kvs.map fun kv => kV kv.1) (kvs.map fun kv => keyD kv.1)
  | [] => .nil
  | ⟨.inl i, _⟩ :: r => .cons (.int i) (rps_keys r)
  | ⟨.inr x, _⟩ :: r => .cons (.str x) (rps_keys r)
theorem ib_dn (h : PE X e (tVar i)) : IT false X tg e (iDn i) := pi_imp (pi_dn h) fun σ H R ⟨W, ρ, S, xs, S', rl, hf, k⟩ => by
  unfold iDn at hf
  split at hf
  · rename_i bb ks ds hi
    by_cases hz : ks.length ≤ sizeLine
    · rw [if_pos hz] at hf
      cases hf
      cases bb with
      | true =>
        obtain ⟨a, h1, h2, xs, ob, g1, g2, g3, g4, g5⟩ := rl.sl i _ hi
        exact ⟨.ref a, h1, a, _, _, rfl, g1, .inl ⟨xs, ob, rfl, rfl⟩, k _ H (.refl _ _) rl.st hz (walk_ownD g1 (rl.wf.dis i a h2) g2)⟩
      | false =>
        obtain ⟨a, h1, h2, kvs, ob, g1, g2, rfl⟩ := rl.sl i _ hi
        exact ⟨.ref a, h1, a, _, _, rfl, g1, .inr ⟨kvs, ob, rfl, rfl⟩, k _ H (.refl _ _) rl.st hz (walk_ownD g1 (rl.wf.dis i a h2) (rps_keys kvs))⟩
    · rw [if_neg hz] at hf; cases hf
  · cases hf
theorem vals_of : ∀ {vs : List V} {us : List Value}, us.length = vs.length → (∀ (j : Nat) (v : V) (u : Value), vs[j]? = some v → us[j]? = some u → RelV v u) → Vals vs us
  | [], [], _, _ => .nil
  | v :: vs, u :: us, h, k => .cons (k 0 v u rfl rfl) (vals_of (by simpa using h) fun j v' d' e e' => k (j + 1) v' d' (by simpa using e) (by simpa using e'))
  | [], _ :: _, h, _ => by simp at h
  | _ :: _, [], h, _ => by simp at h
/-- sorted(d), d a dict keyed by nested tuples -/
def rSortedN (X : Cx) : List V → Hp → VK → Prop := fun xs H Q => ∃ (a : Addr) (dxs : DnX) (o : Obj) (ps : List PyData), xs = [.ref a] ∧ H a = some (DnAt X.prog X.w a dxs o) ∧ DpAll X.K H (dxs.map fun x => V.ref x.2.1) ps ∧ PySem.W.AllAlike ps ∧ PySem.W.Sortable ps ∧ (∀ p ∈ ps, p.depth ≤ 40) ∧
  ∀ p, H p = none → Q (.ref p) (upd H p (.lst ((((dxs.map fun x => V.ref x.2.1).zip ps).mergeSort (PySem.W.dataLe false (·.2))).map (·.1))))
theorem cr_sortedN (hcalm : X.calm = true) (hu : X.A.units + 64 < cLine) : CallR X (.builtin "sorted") (rSortedN X) := by
  intro pins s σ H xs us Q I r h
  obtain ⟨a, dxs, o, ps, rfl, ha, hd, hal, hk, hdep, q⟩ := h
  rw [Vals.ref1 r]
  have ok := I.hok a _ ha
  have hz : dxs.length ≤ sizeLine := (ok : ObjOk X.prog X.w H s.heap a (.ext (DnP X.prog X.w a dxs o))).1.2.1
  obtain ⟨es, ep, U⟩ := dn_keysU ok
  obtain ⟨lo, hg⟩ := U.at' _ _ ok
  have hes : es.size = dxs.length := by rw [← U.len, List.length_map]
  have hl := dpAll_length hd
  refine Calls.call_function_entry PyProof.Rows.kind_sorted PyProof.Rows.plain_sorted PyProof.Rows.entry_sorted (PyProof.Rows.args_sorted1 _) ?_
  unfold Builtin.«sorted»
  refine wpAny_bind (m := checkCount "sorted" 1 1 _) (wpAny_pure ?_)
  refine wpAny_bind (PySem.W.kdu_collect (A := X.A.in1) (PySem.KdlSrc.rawDict (es := es) (ep := ep) lo) (I.ok.hd hcalm) ⟨o, hg, U.ex, U.dt⟩ (by rw [hes]; exact hz) fun h' tk acc hkk hacc => ?_)
  have hal' : acc.toList.length = (dxs.map fun x => V.ref x.2.1).length := by rw [Array.length_toList, hacc.1, U.len]
  have rv : Vals (dxs.map fun x => V.ref x.2.1) acc.toList := vals_of hal' fun j v u e e' => by
    obtain ⟨hi, rfl⟩ := hacc.2 j u (by rw [← Array.getElem?_toList]; exact e')
    exact U.key j hi v e
  have I1 : Inv X pins σ H { s with heap := h', toks := tk } := I.kept hkk
  refine wpAny_bind (wpAny_newList ?_ (by rw [hal', List.length_map]; exact hz))
  have hoL : (h'.push (seqObj "list" acc.toList.toArray 0)).get? h'.objs.size = some (seqObj "list" acc.toList.toArray 0) := Heap.get?_push_size _ rfl
  show wpAny _ _ _ _ _ { s with heap := h'.push (seqObj "list" acc.toList.toArray 0), toks := tk }
  have ez := each_of rv hl
  have er := dp_each I rv hd
  have hsn : (((dxs.map fun x => V.ref x.2.1).zip ps).map (·.2)) = ps := zip_snd hl
  have er' : PySem.W.EachIs (fun u (b : V × PyData) => ∃ as, Reads (PySem.W.sortingHeap (h'.push (seqObj "list" acc.toList.toArray 0)) h'.objs.size acc.toList) u b.2 as) acc.toList ((dxs.map fun x => V.ref x.2.1).zip ps) :=
    er.mono fun _ _ ⟨as, r⟩ => ⟨as, PyProof.Rows.Reads.keeps (fun b ob z => by
      have z1 := hkk b ob z
      exact PySem.W.sortingHeap_old (Nat.ne_of_lt (Heap.lt_size z1)) (Heap.get?_push_of_some _ z1)) r⟩
  have hub : ∀ b, b ∈ (dxs.map fun x => V.ref x.2.1).zip ps → X.A.in1.units + 1 + (b : V × PyData).2.depth < cLine := fun b hb => by
    have := hdep b.2 (List.of_mem_zip hb).2
    show X.A.units + 1 + 1 + _ < _
    omega
  have hlz : ((dxs.map fun x => V.ref x.2.1).zip ps).length ≤ sizeLine := by rw [List.length_zip, List.length_map]; exact Nat.le_trans (Nat.min_le_left _ _) hz
  refine wpAny_bind (wpAny_holding (wpAny_call_entry PyProof.Rows.slot_list_sort ⟨_, hoL, rfl⟩ PyProof.Rows.entry_list_sort
    (PySem.W.list_sort_vals (κ := PySem.W.dataKind (PySem.W.sortingHeap (h'.push (seqObj "list" acc.toList.toArray 0)) h'.objs.size acc.toList) (((dxs.map fun x => V.ref x.2.1).zip ps).map (·.2))) hoL
      (PySem.W.SortsAt.data (s := { s with heap := PySem.W.sortingHeap (h'.push (seqObj "list" acc.toList.toArray 0)) h'.objs.size acc.toList, toks := tk }) (PySem.W.each_map (R := fun v d => ∃ as, Reads (PySem.W.sortingHeap (h'.push (seqObj "list" acc.toList.toArray 0)) h'.objs.size acc.toList) v d as) (fun b : V × PyData => b.2) er') (by rw [hsn]; exact hal) (by rw [hsn]; exact hk) (PySem.W.bound_map hub)) (by rw [ez.length]; exact hlz) ⟨.none, rfl, ?_⟩)
    (PyProof.Rows.args_list_sort _)))
  have sv := PySem.W.sortVals_data (R := fun u (b : V × PyData) => RelV b.1 u) (enc := (·.2)) false ez er' (by rw [hsn]; exact hal)
  obtain ⟨e', he'⟩ := PyProof.Rows.sortedHeap_at (vs := acc.toList) (out := PySem.W.sortVals (PySem.W.dataKind (PySem.W.sortingHeap (h'.push (seqObj "list" acc.toList.toArray 0)) h'.objs.size acc.toList) (((dxs.map fun x => V.ref x.2.1).zip ps).map (·.2))) false acc.toList acc.toList |>.toArray) hoL
  have hlen : ((((dxs.map fun x => V.ref x.2.1).zip ps).mergeSort (PySem.W.dataLe false (·.2))).map (·.1)).length ≤ sizeLine := by
    rw [List.length_map, List.length_mergeSort]
    exact hlz
  refine wpAny_pure ⟨_, rfl, .ref h'.objs.size, upd H h'.objs.size (.lst ((((dxs.map fun x => V.ref x.2.1).zip ps).mergeSort (PySem.W.dataLe false (·.2))).map (·.1))), I1.laid (t' := tk) (fun b u e => ?_) (Nat.le_refl _)
    (show ObjOk X.prog X.w _ _ _ (.lst _) from ⟨hlen, _, e', each_vals sv, he'⟩), rfl, q _ (I1.hok.fresh (Nat.le_refl _))⟩
  have hb : b < h'.objs.size := Heap.lt_size e
  rw [PyProof.Rows.sortedHeap_old (Nat.ne_of_lt hb) (by rw [size_push']; exact Nat.lt_succ_of_lt hb)]
  exact Heap.get?_push_of_some _ e
end
end DL

set_option Elab.async false
set_option linter.all false
set_option maxRecDepth 100000
set_option maxHeartbeats 1000000
namespace DL
open PySem PySem.Spec PyProof.Rows L2
/-! ## 39. sorted(d), a, b = x, [..] -/
def eDnSort (i : Nat) : Ex := fun ρ S => match ρ[i]? with
  | some (.ow (.dn true ks _)) => if canSort ks = true ∧ ks.length ≤ sizeLine then some (.lst (ks.mergeSort D.le'), S) else none
  | _ => none
section
variable {K : Fw} {W : Wd} {H : Hp}
theorem canSort_split {xs : List D} (c : canSort xs = true) : D.fits xs 40 = true ∧ PySem.W.AllAlike (D.toPs xs) ∧ PySem.W.Sortable (D.toPs xs) ∧ ∀ p ∈ D.toPs xs, p.depth ≤ 40 := by
  unfold canSort at c
  simp only [Bool.and_eq_true, List.all_eq_true] at c
  obtain ⟨⟨c1, c2⟩, c3⟩ := c
  have hfit : D.fits xs 40 = true := by
    have : ∀ ys : List D, (∀ x ∈ ys, x.fit 40 = true) → D.fits ys 40 = true := fun ys => by
      induction ys with
      | nil => intro _; rfl
      | cons y ys ih => intro h; simp only [D.fits, h y List.mem_cons_self, ih fun x hx => h x (List.mem_cons_of_mem _ hx), Bool.and_self]
    exact this xs c1
  refine ⟨hfit, ?_, ?_, ?_⟩
  · rw [toPs_map]
    intro d hd d' hd'
    obtain ⟨x, hx, rfl⟩ := List.mem_map.mp hd
    obtain ⟨y, hy, rfl⟩ := List.mem_map.mp hd'
    exact c2 x hx y hy
  · rw [toPs_map]
    rcases Bool.or_eq_true_iff.mp c3 with c3 | c3
    · refine .inl fun d hd => ?_
      obtain ⟨x, hx, rfl⟩ := List.mem_map.mp hd
      exact neTup_toP (List.all_eq_true.mp c3 x hx)
    · refine .inr fun d hd => ?_
      obtain ⟨x, hx, rfl⟩ := List.mem_map.mp hd
      exact plainKey_toP (List.all_eq_true.mp c3 x hx)
  · rw [toPs_map]
    intro d hd
    obtain ⟨x, hx, rfl⟩ := List.mem_map.mp hd
    exact fit_depth (c1 x hx)
end
section
variable {X : Cx} {st : Stmt} {e : Expr} {f1 f2 : Ex} {i j : Nat}
theorem n_dnsort (h : PE X e (tCB (rSortedN X) (tCons (tVar i) tNil))) : N X e (eDnSort i) := pe_imp h fun σ H Q ⟨W, ρ, S, d, S', rl, hf, k⟩ => by
  unfold eDnSort at hf
  split at hf
  · rename_i ks ds hi
    by_cases c : canSort ks = true ∧ ks.length ≤ sizeLine
    · rw [if_pos c] at hf
      cases hf
      obtain ⟨c, hz0⟩ := c
      obtain ⟨a, h1, h2, xs, ob, g1, g2, g3, g4, g5⟩ := rl.sl i _ hi
      obtain ⟨c1, c2, c3, c4⟩ := canSort_split c
      have hz : xs.length ≤ sizeLine := by have := g2.length; rw [List.length_map] at this; rw [this]; exact hz0
      have kk := newOk rl.wf rl.st (d := .lst (ks.mergeSort D.le')) fun v H' sm r => k v H' (.same sm) r
      obtain ⟨q1, q2⟩ := sort_pairs (xs.map fun x => V.ref x.2.1) ks g2.length
      refine ⟨.ref a, h1, a, xs, ob, D.toPs ks, rfl, g1, fits_dp c1 g2, c2, c3, c4, fun p hp => ?_⟩
      rw [toPs_map, q1]
      have rs' : Rps (FX X) W H ((((xs.map fun x => V.ref x.2.1).zip ks).mergeSort fun p q => D.le' p.2 q.2).map (·.1)) (ks.mergeSort D.le') := by
        rw [q2]
        exact rps_pairs fun p hp => rps_zip g2 p ((List.mergeSort_perm _ _).mem_iff.mp hp)
      refine kk p _ hp ?_ rs'
      rw [List.length_map, List.length_mergeSort, List.length_zip]
      exact Nat.le_trans (Nat.min_le_left _ _) (by rw [List.length_map]; exact hz)
    · rw [if_neg c] at hf; cases hf
  · cases hf
end
/-! ### a, b = x, y; one or both new objects of the frame's own -/
def cellOf : D → Option Cell
  | .lst xs => some (.lst xs)
  | .dct ks ds => some (.dct ks ds)
  | _ => none
def sParDF (i j : Nat) (f1 f2 : Ex) : Stm := fun ρ S => (f1 ρ S).bind fun p => (f2 ρ p.2).bind fun q => (cellOf q.1).map fun c => .nx ((ρ.set i (.sh p.1)).set j (.ow c)) q.2
def sParFF (i j : Nat) (f1 f2 : Ex) : Stm := fun ρ S => (f1 ρ S).bind fun p => (cellOf p.1).bind fun c1 => (f2 (ρ.set i .un) p.2).bind fun q => (cellOf q.1).map fun c2 => .nx ((ρ.set j (.ow c2)).set i (.ow c1)) q.2
section
variable {K : Fw} {W : Wd} {H H' : Hp} {σ : L2.St} {ρ : Rho} {S S' : Sto} {i j : Nat} {a : Addr} {f1 f2 : Ex} {Z : Ends}
theorem rf_cell {v : V} {d : D} {c : Cell} (r : Rf K W H H' S v d) (h : cellOf d = some c) : ∃ a, v = .ref a ∧ H a = none ∧ StOk K (W.plus a) H' S ∧ CellOk K (W.plus a) H' a c := by
  cases r with
  | lst n e z st r => cases h; exact ⟨_, rfl, n, st, _, e, z, r⟩
  | dct n e z st r => cases h; exact ⟨_, rfl, n, st, _, e, z, r⟩
theorem Rel.unset (rl : Rel K W H (σ.set i (some (.ref a))) (ρ.set i (.ow c)) S) : Rel K W H σ (ρ.set i .un) S := by
  refine ⟨by have := rl.len; simpa using this, fun j x e => ?_, rl.st, rl.wf⟩
  by_cases hj : i = j
  · subst hj
    by_cases hl : i < ρ.length
    · rw [List.getElem?_set_self hl] at e
      cases e
      trivial
    · rw [List.getElem?_eq_none (by rw [List.length_set]; omega)] at e
      cases e
  · rw [List.getElem?_set_ne hj] at e
    have q := rl.sl j x (by rw [List.getElem?_set_ne hj]; exact e)
    cases x with
    | un => trivial
    | sh d => obtain ⟨v, h1, h2⟩ := q; exact ⟨v, by rwa [List.getElem?_set_ne hj] at h1, h2⟩
    | ow c' => obtain ⟨b, h1, h2⟩ := q; exact ⟨b, by rwa [List.getElem?_set_ne hj] at h1, h2⟩
theorem Rel.setOw {c : Cell} (rl : Rel K W H σ ρ S) (ha : W.α i = some a) (cc : CellOk K W H a c) : Rel K W H (σ.set i (some (.ref a))) (ρ.set i (.ow c)) S := by
  refine ⟨by rw [List.length_set, List.length_set]; exact rl.len, fun j x e => ?_, rl.st, rl.wf⟩
  by_cases hj : i = j
  · subst hj
    by_cases hl : i < ρ.length
    · rw [List.getElem?_set_self hl] at e
      cases e
      exact ⟨a, by rw [List.getElem?_set_self (by rw [rl.len]; exact hl)], ha, cc⟩
    · rw [List.getElem?_eq_none (by rw [List.length_set]; omega)] at e
      cases e
  · rw [List.getElem?_set_ne hj] at e
    have q := rl.sl j x e
    cases x with
    | un => trivial
    | sh d => obtain ⟨v, h1, h2⟩ := q; exact ⟨v, by rw [List.getElem?_set_ne hj]; exact h1, h2⟩
    | ow c' => obtain ⟨b, h1, h2⟩ := q; exact ⟨b, by rw [List.getElem?_set_ne hj]; exact h1, h2⟩
theorem parDF_core (h : tS K (sParDF i j f1 f2) Z σ H) : tCons (tD K f1) (tCons (tF K f2) tNil) σ H fun vs H2 => ∃ v w, vs = [v, w] ∧ ∀ H3, Same H2 H3 → Z.nx ((σ.set i (some v)).set j (some w)) H3 := by
  obtain ⟨W, ρ, S, o, rl, hf, k⟩ := h
  unfold sParDF at hf
  obtain ⟨⟨d1, S1⟩, e1, hf⟩ := Option.bind_eq_some_iff.mp hf
  obtain ⟨⟨d2, S2⟩, e2, hf⟩ := Option.bind_eq_some_iff.mp hf
  obtain ⟨c, e3, hf⟩ := Option.map_eq_some_iff.mp hf
  cases hf
  refine ⟨W, ρ, S, d1, S1, rl, e1, fun v1 H1 s1 st1 r1 => ⟨W, ρ, S1, d2, S2, rl.stepE s1 st1, e2, fun v2 H2 s2 r2 => ⟨v1, v2, rfl, fun H3 sm => ?_⟩⟩⟩
  obtain ⟨a, rfl, n, st, cc⟩ := rf_cell r2 e3
  have rl2 := own_new (Rel.setSh (i := i) (rl.stepE s1 st1) r1) s2 n st cc (i := j)
  exact k _ _ H3 ((s1.toS.trans (step_own s2 n)).trans (StepE.same sm).toS) (rl2.same sm)
theorem parFF_core (hij : i ≠ j) (h : tS K (sParFF i j f1 f2) Z σ H) : tCons (tF K f1) (tCons (tF K f2) tNil) σ H fun vs H2 => ∃ v w, vs = [v, w] ∧ ∀ H3, Same H2 H3 → Z.nx ((σ.set i (some v)).set j (some w)) H3 := by
  obtain ⟨W, ρ, S, o, rl, hf, k⟩ := h
  unfold sParFF at hf
  obtain ⟨⟨d1, S1⟩, e1, hf⟩ := Option.bind_eq_some_iff.mp hf
  obtain ⟨c1, e2, hf⟩ := Option.bind_eq_some_iff.mp hf
  obtain ⟨⟨d2, S2⟩, e3, hf⟩ := Option.bind_eq_some_iff.mp hf
  obtain ⟨c2, e4, hf⟩ := Option.map_eq_some_iff.mp hf
  cases hf
  refine ⟨W, ρ, S, d1, S1, rl, e1, fun v1 H1 s1 r1 => ?_⟩
  obtain ⟨a1, rfl, n1, st1, cc1⟩ := rf_cell r1 e2
  have rlo := own_new rl s1 n1 st1 cc1 (i := i)
  have rlA : Rel K (W.own i a1) H1 σ (ρ.set i .un) S1 := Rel.unset rlo
  have k2 : Kps K (W.plus a1) H1 (W.own i a1) H1 := Kps.less rfl fun b m => mu_plus.mpr (mu_own m)
  have ai : (W.own i a1).α i = some a1 := by simp [Wd.own]
  refine ⟨W.own i a1, ρ.set i .un, S1, d2, S2, rlA, e3, fun v2 H2 s2 r2 => ⟨.ref a1, v2, rfl, fun H3 sm => ?_⟩⟩
  obtain ⟨a2, rfl, n2, st2, cc2⟩ := rf_cell r2 e4
  have rlB := own_new rlA s2 n2 st2 cc2 (i := j)
  have sB := step_own (i := j) s2 n2
  have n3 := rlA.wf.dis i a1 ai
  obtain ⟨oc, hoc⟩ := cc1.some
  have h2 : H2 a1 = H1 a1 := by rw [hoc]; exact s2.keep a1 oc hoc n3.1
  have cc1' : CellOk K ((W.own i a1).own j a2) H2 a1 c1 := (cc1.keeps k2 rfl).keeps sB.keeps h2
  have ai2 : ((W.own i a1).own j a2).α i = some a1 := by
    show (if i = j then some a2 else (W.own i a1).α i) = some a1
    rw [if_neg hij]; exact ai
  have rlC := rlB.setOw ai2 cc1'
  rw [List.set_comm _ _ (Ne.symm hij)] at rlC
  rw [List.set_comm _ _ (Ne.symm hij), List.set_set] at rlC
  exact k _ _ H3 (((step_own s1 n1).trans sB).trans (StepE.same sm).toS) (by rw [List.set_comm _ _ (Ne.symm hij)]; exact rlC.same sm)
end
section
variable {X : Cx} {st : Stmt} {i j : Nat} {f1 f2 : Ex}
theorem st_parDF (h : PS X st (tPar i j (tCons (tD (FX X) f1) (tCons (tF (FX X) f2) tNil)))) : ST X st (sParDF i j f1 f2) := ps_imp h fun Z σ H w => by
  have q := parDF_core w
  obtain ⟨W, ρ, S, d, S', rl, hf, k⟩ := q
  exact ⟨W, ρ, S, d, S', rl, hf, fun v H1 s1 st1 r1 => by
    obtain ⟨W2, ρ2, S2, d2, S2', rl2, hf2, k2⟩ := k v H1 s1 st1 r1
    exact ⟨W2, ρ2, S2, d2, S2', rl2, hf2, fun v2 H2 s2 r2 => by
      obtain ⟨x, y, e, z⟩ := k2 v2 H2 s2 r2
      exact ⟨x, y, e, z H2 (.refl _)⟩⟩⟩
theorem st_parFF (hij : i ≠ j) (h : PS X st (tPar i j (tCons (tF (FX X) f1) (tCons (tF (FX X) f2) tNil)))) : ST X st (sParFF i j f1 f2) := ps_imp h fun Z σ H w => by
  have q := parFF_core hij w
  obtain ⟨W, ρ, S, d, S', rl, hf, k⟩ := q
  exact ⟨W, ρ, S, d, S', rl, hf, fun v H1 s1 r1 => by
    obtain ⟨W2, ρ2, S2, d2, S2', rl2, hf2, k2⟩ := k v H1 s1 r1
    exact ⟨W2, ρ2, S2, d2, S2', rl2, hf2, fun v2 H2 s2 r2 => by
      obtain ⟨x, y, e, z⟩ := k2 v2 H2 s2 r2
      exact ⟨x, y, e, z H2 (.refl _)⟩⟩⟩
/-- the same where a name is a cell: by way of a tuple -/
theorem st_parDFc (h : PS X st (tAsg (tTupZ (tCons (tD (FX X) f1) (tCons (tF (FX X) f2) tNil))) (gTup X.K 2 (gCons (gName i) (gCons (gName j) gNil))))) : ST X st (sParDF i j f1 f2) := ps_imp h fun Z σ H w => by
  have q := parDF_core w
  obtain ⟨W, ρ, S, d, S', rl, hf, k⟩ := q
  exact ⟨W, ρ, S, d, S', rl, hf, fun v H1 s1 st1 r1 => by
    obtain ⟨W2, ρ2, S2, d2, S2', rl2, hf2, k2⟩ := k v H1 s1 st1 r1
    exact ⟨W2, ρ2, S2, d2, S2', rl2, hf2, fun v2 H2 s2 r2 => by
      obtain ⟨x, y, e, z⟩ := k2 v2 H2 s2 r2
      refine ⟨by show 2 ≤ sizeLine; decide, fun p o hp ho => ?_⟩
      refine ⟨p, [v, v2], rfl, (TupAt.new ho).sqt, rfl, v, [v2], rfl, v2, [], rfl, rfl, ?_⟩
      cases e
      exact z _ (upd_Same hp)⟩⟩
end
end DL

set_option Elab.async false
set_option linter.all false
set_option maxRecDepth 100000
set_option maxHeartbeats 1000000
namespace DL
open PySem PySem.Spec PyProof.Rows L2
/-! ## 39. zip of two sources as what dict() takes -/
theorem pairArgK (k1 k2 : Kd) {P : Program} {w : World} {z TI TO i1 i2 a b : Addr} (S : ZipSep2 z TI TO i1 i2 [i1, a] [i2, b]) (us vs : Array Value) :
    PairArg P w "zip" z [z, TI, TO, i1, i2, a, b] [z, TO, i1, i2] (min us.size vs.size) (fun i k v => us[i]? = some k ∧ vs[i]? = some v)
      (fun h => ZipAt k1 k2 z TI TO i1 i2 a b 0 h ∧ k1.Has h a us ∧ k2.Has h b vs) where
  type := fun s ok => ⟨_, ok.1.1, rfl⟩
  notDict := by decide
  keep := fun h h' ⟨⟨s1, s2, ⟨u, v, s3⟩, s4, s5⟩, p, q⟩ mv => ⟨⟨mv _ _ s1, mv _ _ s2, ⟨u, v, mv _ _ s3⟩, k1.wk_at s4 (mv _), k2.wk_at s5 (mv _)⟩, k1.has_at p (mv _), k2.has_at q (mv _)⟩
  there := fun h ⟨st, p, q⟩ c hc => by
    rcases List.mem_append.mp (show c ∈ [z, TI, TO, i1, i2] ++ [a, b] from hc) with m | m
    · exact (st.there c m).imp fun o x => x.1
    · simp only [List.mem_cons, List.not_mem_nil, or_false] at m
      rcases m with rfl | rfl
      · exact has_there k1 p
      · exact has_there k2 q
  sub := fun c hc => by
    simp only [List.mem_cons, List.not_mem_nil, or_false] at hc ⊢
    rcases hc with x | x | x | x <;> simp [x]
  noKeys := fun A s Q E hh ok none_ => getAttrOr_miss_zip ok.1.1 rfl rfl rfl zip_no_keys (by decide +kernel) hh none_
  iter := fun A s d Q E hh ⟨⟨s1, s2, s3, s4, s5⟩, p, q⟩ ld nd go => by
    simp only [List.mem_cons, List.not_mem_nil, or_false, not_or] at nd
    obtain ⟨dz, dI, dO, d1, d2, da, db⟩ := nd
    have D1 := fun (A' : Around) (h' : A'.handled = none) => k1.draws (P := P) (w := w) (A := A') h' (k1_apart k1 p s4) us 0
    have D2 := fun (A' : Around) (h' : A'.handled = none) => k2.draws (P := P) (w := w) (A := A') h' (k1_apart k2 q s5) vs 0
    simp only [Nat.zero_max] at D1 D2
    refine wpAny_pyIter_zip s1 (go z [z, TO, i1, i2] (ZipRun d z TI TO i1 i2 (SrcAt k1 i1 a us) (SrcAt k2 i2 b vs)) s.heap s.toks ⟨?_, ?_, ?_, ?_⟩ ⟨s2, ⟨Nat.le_refl _, s4, p⟩, ⟨Nat.le_refl _, s5, q⟩, .inl ⟨s1, s3⟩⟩ (fun _ _ e => e) fun c hc => .inl hc)
    · simp [dz, dO, d1, d2]
    · exact fun i h h' r mv => zipRun_move k1 k2 r (by simp [dz, dI, dO, d1, d2, da, db]) fun c o n => mv c o n
    · intro i s' Q' E' li st ld' next
      refine run_item S (D1 _ hh) (D2 _ hh) st ld' (Nat.lt_of_lt_of_le li (Nat.min_le_left _ _)) (Nat.lt_of_lt_of_le li (Nat.min_le_right _ _)) fun u v h' tk hu hv r e mv => next _ u v h' tk ⟨hu, hv⟩ (.inl ⟨_, e, rfl, _, rfl⟩) r mv
    · intro s' Q' E' st stop
      exact run_end S (D1 _ hh) (D2 _ hh) st (Nat.min_le_left _ _) (Nat.min_le_right _ _) (by omega) stop
end DL

set_option Elab.async false
set_option linter.all false
set_option maxRecDepth 100000
set_option maxHeartbeats 1000000
namespace DL
open PySem PySem.Spec PyProof.Rows L2
/-! ## 40. dict(zip(x, y)), x a list, y a tuple -/
def rDictZip (K : PySem.W.Frag) (vs : List V) (H : Hp) (Q : VK) : Prop := ∃ (a b : Addr) (kks : List Key) (ys : List V), vs = [.ref a, .ref b] ∧ SqL K H a (kks.map kV) ∧ SqT K H b ys ∧ kks.length ≤ sizeLine ∧
  ∀ p, H p = none → Q (.ref p) (upd H p (.dK (mergeK [] (kks.zip ys))))
theorem kv_zip : ∀ {ks : List Key} {ys : List V} {us : List Value}, Vals ys us → KV (ks.zip ys) (ks.zip us)
  | [], _, _, _ => .nil
  | _ :: _, _, _, .nil => .nil
  | _ :: _, _, _, .cons a b => .cons ⟨rfl, a⟩ (kv_zip b)
theorem pe_dictzip {X : Cx} {e e2 : Expr} {ta : TA} {p q pos qpos : Pos} (hcalm : X.calm = true) (hgT : Gl X "dict") (hmT : X.mg "dict" = none) (hg : Gl X "zip") (hm : X.mg "zip" = none) (ha : PA X [e, e2] ta)
    (hs : starEach [e, e2] X.env = (false, eval e X.env) :: starEach [e2] X.env := by rfl) (hpl : (backTo pos (starEach [e2] X.env)).any (·.1) = false := by rfl)
    (hsT : starEach [(.Call (.Name "zip" q) [e, e2] [] pos)] X.env = [(false, eval (.Call (.Name "zip" q) [e, e2] [] pos) X.env)] := by rfl) :
    PE X (.Call (.Name "dict" p) [.Call (.Name "zip" q) [e, e2] [] pos] [] qpos) (tCB (rDictZip X.K) ta) := by
  refine ⟨fun pins s σ H Q I h => ?_⟩
  refine wpAny_Call_Name_kw (ld_blt I hgT hmT (by rfl) ?_ (by decide) (by decide))
  refine PyProof.Rows.callWith_type1 ?_ hsT rfl
  rw [hsT]
  refine Calls.spliced_cons (Call_ (ld_blt I hg hm PyProof.Rows.boot_zip (PyProof.Rows.callWith_type1 (thn (ha.run pos pins s σ H _ I h) fun us s1 ⟨vs, H1, I1, r1, q1⟩ => ?_) hs hpl)))
  obtain ⟨a, b, kks, ys, rfl, hqx, hqy, hz, q1⟩ := q1
  cases r1 with
  | cons r rr =>
    cases rr with
    | cons r' rr =>
      cases rr
      cases r
      cases r'
      obtain ⟨its, rv, p1, _⟩ := I1.list hqx
      obtain ⟨its2, rv2, p2, _⟩ := I1.tuple hqy
      obtain ⟨o2, ho2, _⟩ := id p2
      refine zip_begins2 (Kd.l.begins a its.toArray) (Kd.t.begins b its2.toArray) p1.isList p2 fun h' hz' hTI hTO h1 h2 hsz hk => Calls.spliced_nil ?_
      have I2 : Inv X pins σ H1 { s1 with heap := h' } := I1.kept (t' := s1.toks) hk
      have D := zip_sep2 (N := s1.heap.objs.size) (fp1 := [a]) (fp2 := [b]) (fun c hc => List.mem_singleton.mp hc ▸ p1.lt) (fun c hc => List.mem_singleton.mp hc ▸ Heap.lt_size ho2)
      have hle : ∀ c, s1.heap.objs.size ≤ c → FpOk X pins H1 c := fun c hc => I1.fpOk hc (I1.hok.fresh hc)
      have l1 := rv.length
      rw [List.length_map] at l1
      have hn : min its.toArray.size its2.toArray.size ≤ sizeLine := by
        rw [List.size_toArray]; exact Nat.le_trans (Nat.min_le_left _ _) (by omega)
      refine PySem.call_dict_pairs (s := { s1 with heap := h' }) (knd := mixKind X.prog X.w) (kvs := kks.zip its2) (pairArgK .l .t (P := X.prog) (w := X.w) D its.toArray its2.toArray) (I2.ok.hd hcalm)
        ⟨⟨hz', hTI, ⟨_, _, hTO⟩, Kd.l.wk0 h1, Kd.t.wk0 h2⟩, Kd.l.has_at (vs := its.toArray) p1.isList (hk a), Kd.t.has_at (vs := its2.toArray) p2 (hk b)⟩ ⟨?_, fun i key v hr => ?_⟩ hn fun h'' tk hd k => ?_
      · rw [List.length_zip, List.size_toArray, List.size_toArray, l1]
      · obtain ⟨e1, e2⟩ := hr
        rw [List.getElem?_toArray] at e1 e2
        have hi : i < kks.length := by rw [l1]; exact (List.getElem?_eq_some_iff.mp e1).1
        refine ⟨kks[i], List.getElem?_zip_eq_some.mpr ⟨List.getElem?_eq_getElem hi, e2⟩, ?_⟩
        obtain ⟨u, hu, ru⟩ := paired_get rv (i := i) (a := kV kks[i]) (by rw [List.getElem?_map, List.getElem?_eq_getElem hi]; rfl)
        rw [hu] at e1
        cases e1
        exact kV_is ru
      · have hm : (h'.objs.size == sysModules) = false := beq_eq_false_iff_ne.mpr (Nat.ne_of_gt I2.big)
        have rel := kv_zip (ks := kks) rv2
        have hlen : (mergeK [] (kks.zip ys)).length ≤ sizeLine := by
          refine Nat.le_trans (length_mergeK (kks.zip ys) []) ?_
          rw [List.length_nil, Nat.zero_add, List.length_zip]
          exact Nat.le_trans (Nat.min_le_left _ _) hz
        refine ⟨.ref h'.objs.size, _, I2.turnedNew (t' := tk) (ch := [s1.heap.objs.size + 4, s1.heap.objs.size + 3, s1.heap.objs.size, s1.heap.objs.size + 1]) (fun b' o' hb e => k b' o' hb e) (fun c hc => hle c ?_) (Nat.le_refl _) (show ObjOk X.prog X.w _ _ _ (.dK (mergeK [] (kks.zip ys))) from ⟨hlen, hm, merged [] (kks.zip its2), KV.merge rel .nil, hd⟩), rfl, q1 _ (I2.hok.fresh (Nat.le_refl _))⟩
        have e' : c = s1.heap.objs.size + 4 ∨ c = s1.heap.objs.size + 3 ∨ c = s1.heap.objs.size ∨ c = s1.heap.objs.size + 1 := by simpa using hc
        rcases e' with e | e | e | e <;> rw [e] <;> omega
def keysOf : List D → Option (List Key)
  | [] => some []
  | d :: ds => d.key.bind fun k => (keysOf ds).map (k :: ·)
def gDictZip : List D → Option D
  | [.lst xs, .tup ys] => (keysOf xs).map fun kks => .dct ((mergeD [] (kks.zip ys)).map (·.1)) ((mergeD [] (kks.zip ys)).map (·.2))
  | _ => none
section
variable {K : Fw} {W : Wd} {H : Hp}
theorem keysOf_v : ∀ {ds : List D} {vs : List V} {kks : List Key}, Rps K W H vs ds → keysOf ds = some kks → vs = kks.map kV
  | [], _, _, r, h => by cases r; cases h; rfl
  | d :: ds, _, _, r, h => by
    cases r with
    | cons a b =>
      unfold keysOf at h
      obtain ⟨k, e1, h⟩ := Option.bind_eq_some_iff.mp h
      obtain ⟨ks, e2, rfl⟩ := Option.map_eq_some_iff.mp h
      rw [List.map_cons, key_v a e1, keysOf_v b e2]
theorem rkv_zip : ∀ {kks : List Key} {vs : List V} {ds : List D}, Rps K W H vs ds → RKV K W H (kks.zip vs) (kks.zip ds)
  | [], _, _, _ => .nil
  | _ :: _, _, _, .nil => .nil
  | _ :: _, _, _, .cons a b => .cons ⟨rfl, a⟩ (rkv_zip b)
theorem dictzip_f : CallF K (rDictZip K) gDictZip := fun W H vs ds d Q wf r h k => by
  unfold gDictZip at h
  split at h
  · rename_i xs ys
    obtain ⟨kks, e1, rfl⟩ := Option.map_eq_some_iff.mp h
    obtain ⟨v, v', rfl, r1, r2⟩ := rqs2 r
    obtain ⟨a, ws, rfl, q, z, rs⟩ := rq_lstH r1
    obtain ⟨b, ws', rfl, q', z', rs'⟩ := rq_tup r2
    have ew := keysOf_v rs e1
    subst ew
    refine ⟨a, b, kks, ws', rfl, .of q, q'.sqt, by simpa using z, fun p hp => ?_⟩
    obtain ⟨m1, m2⟩ := rkv_rps (rkv_merge (rkv_zip (kks := kks) rs') .nil)
    rw [m1]
    exact k p _ hp (by rw [List.length_map, List.length_map]; have := m2.length; simpa using this.symm) m2
  · cases h
end
end DL

set_option Elab.async false
set_option linter.all false
set_option maxRecDepth 100000
set_option maxHeartbeats 1000000
namespace DL
open PySem
section
variable {prog : Program} {w : World} {A : Around} {E : Value → Shared → Prop} {s : Shared} {l : Addr} {xs : Array (Int × Tok)} {its : List Value} {ns : List Int}
theorem iter_intTup {Q : Value → Shared → Prop} (hl : s.heap.IsTuple l (intItems xs))
    (h : ∀ s₂ : Shared, s₂ = { s with heap := s.heap.push { cls := .type "tuple_iterator", data := .fields #[.ref l, .int 0 0] } } →
      (s₂.heap.IsTupleIter s.heap.objs.size l 0 ∧ s₂.heap.IsTuple l (intItems xs)) → (∀ b ∈ [s.heap.objs.size, l], b < s₂.heap.objs.size) → l ≠ s.heap.objs.size → Q (.ref s.heap.objs.size) s₂) :
    wpAny (model prog w) A (pyIter (.ref l)) Q E s := by
  have hlt : l < s.heap.objs.size := by obtain ⟨_, e, _⟩ := hl; exact Heap.lt_size e
  refine wpAny_pyIter_tuple hl (h _ rfl ⟨⟨_, Heap.get?_push_size _ rfl, rfl, rfl⟩, hl.push _⟩ (fun b hb => ?_) (Nat.ne_of_lt hlt))
  show b < (s.heap.push _).objs.size
  rw [Heap.size_push]
  have hb' : b = s.heap.objs.size ∨ b = l := by simpa using hb
  rcases hb' with e | e
  · rw [e]; exact Nat.lt_succ_self _
  · rw [e]; exact Nat.lt_succ_of_lt hlt
theorem old_keptT {h' : Heap} {o : Obj} (hk : ∀ b o', b ∉ [s.heap.objs.size] → (s.heap.push o).get? b = some o' → h'.get? b = some o') : ∀ b o', s.heap.get? b = some o' → h'.get? b = some o' :=
  fun b o' e => hk b o' (fun hm => absurd (Heap.lt_size e) (by rw [List.mem_singleton.mp hm]; exact Nat.lt_irrefl _)) (Heap.get?_push_of_some _ e)
theorem sumT_raw {Q : Value → Shared → Prop} (hh : A.handled = none) (hl : s.heap.IsTuple l its.toArray) (hi : PyProof.Rows.IntsAre its ns)
    (h : ∀ h' tk t', (∀ b o, s.heap.get? b = some o → h'.get? b = some o) → Q (.int ns.sum t') { s with heap := h', toks := tk }) : wpAny (model prog w) A (call (.builtin "sum") [.ref l]) Q E s := by
  obtain ⟨xs, e⟩ := hi.allInts.items
  have hn : numsOf (intItems xs).toList = ns := by rw [← e]; exact hi.numsOf
  rw [PySem.nums_intItems] at hn
  rw [e] at hl
  refine call_sum_walkG (iter_intTup hl fun s₂ e st hfp hlI => ?_)
  subst e
  refine ⟨_, _, _, _, _, _, numAt xs, rfl, Walks.tuple (A := A.in1) hh _ l hlI (intItems xs), st, hfp, (fun _ _ => intItems_at), fun h' tk t' hk => ?_⟩
  have q := h h' tk t' (old_keptT hk)
  have e2 : preSum (numAt xs) (intItems xs).size = ns.sum := by
    have : (intItems xs).size = xs.size := by simp [intItems]
    rw [this, PySem.preSum_eq, List.take_of_length_le (by simp), hn]
  rw [e2]
  exact q
theorem maxT_raw {Q : Value → Shared → Prop} (hh : A.handled = none) (hl : s.heap.IsTuple l its.toArray) (hi : PyProof.Rows.IntsAre its ns) (hne : 0 < ns.length)
    (h : ∀ h' tk M t', (∀ b o, s.heap.get? b = some o → h'.get? b = some o) → M ∈ ns → (∀ a, a ∈ ns → a ≤ M) → Q (.int M t') { s with heap := h', toks := tk }) : wpAny (model prog w) A (call (.builtin "max") [.ref l]) Q E s := by
  obtain ⟨xs, e⟩ := hi.allInts.items
  have hn : numsOf (intItems xs).toList = ns := by rw [← e]; exact hi.numsOf
  rw [PySem.nums_intItems] at hn
  subst hn
  rw [e] at hl
  have hsz : 0 < xs.size := by simpa using hne
  refine call_max_walk (iter_intTup hl fun s₂ e st hfp hlI => ?_)
  subst e
  refine ⟨_, _, _, _, _, _, _, rfl, Walks.tuple (A := A.in1) hh _ l hlI (intItems xs), st, hfp, by simpa [intItems] using hsz, CmpOf.ints_gt (numAt xs) (fun _ _ => intItems_at), fun v h' tk hP hk => ?_⟩
  have hP' : (intItems xs)[argBest (fun i j => decide (numAt xs i > numAt xs j)) (xs.size - 1)]? = some v := by simpa [intItems] using hP
  obtain ⟨t, rfl⟩ := intItems_at hP'
  obtain ⟨h1, h2⟩ := PySem.argBest_gt (numAt xs) (xs.size - 1)
  refine h h' tk _ t (old_keptT hk) ?_ fun a ha => ?_
  · rw [PySem.numAt_eq]; exact PySem.getD_mem (by rw [List.length_map, Array.length_toList]; omega)
  · obtain ⟨j, hj, rfl⟩ := PySem.mem_getD ha
    rw [List.length_map, Array.length_toList] at hj
    rw [← PySem.numAt_eq]; exact h2 j (by omega)
end
end DL
namespace DL
open PySem PySem.Spec PyProof.Rows L2
section
variable {X : Cx}
theorem callR_or {f : Value} {r r' : List V → Hp → VK → Prop} (h : CallR X f r) (h' : CallR X f r') : CallR X f (fun vs H Q => r vs H Q ∨ r' vs H Q) :=
  fun pins s σ H vs us Q I rv w => w.elim (fun w => h pins s σ H vs us Q I rv w) fun w => h' pins s σ H vs us Q I rv w
/-- sum, max of a tuple of ints -/
def rSumT (K : PySem.W.Frag) : List V → Hp → VK → Prop := fun vs H Q => ∃ (a : Addr) (ns : List Int), vs = [V.ref a] ∧ SqT K H a (ns.map V.int) ∧ Q (.int ns.sum) H
def rMaxT (K : PySem.W.Frag) : List V → Hp → VK → Prop := fun vs H Q => ∃ (a : Addr) (ns : List Int), vs = [V.ref a] ∧ SqT K H a (ns.map V.int) ∧ 0 < ns.length ∧ ∀ m, m ∈ ns → (∀ y, y ∈ ns → y ≤ m) → Q (.int m) H
theorem cr_sumT (hc : X.calm = true) : CallR X (.builtin "sum") (rSumT X.K) := by
  intro pins s σ H vs us Q I r h
  obtain ⟨a, ns, rfl, hs, q⟩ := h
  obtain ⟨its, rv, hl, _⟩ := I.tuple hs
  rw [Vals.ref1 r]
  exact sumT_raw (I.ok.hd hc) (show s.heap.IsTuple a its.toArray from hl) rv.ints fun h' tk t' hk => ⟨.int _, H, I.kept hk, ⟨_, rfl⟩, q⟩
theorem cr_maxT (hc : X.calm = true) : CallR X (.builtin "max") (rMaxT X.K) := by
  intro pins s σ H vs us Q I r h
  obtain ⟨a, ns, rfl, hs, hne, q⟩ := h
  obtain ⟨its, rv, hl, _⟩ := I.tuple hs
  rw [Vals.ref1 r]
  exact maxT_raw (I.ok.hd hc) (show s.heap.IsTuple a its.toArray from hl) rv.ints hne fun h' tk m t' hk h1 h2 => ⟨.int _, H, I.kept hk, ⟨_, rfl⟩, q m h1 h2⟩
theorem cr_sumA (hc : X.calm = true) : CallR X (.builtin "sum") (fun vs H Q => rSum X.K vs H Q ∨ rSumT X.K vs H Q) := callR_or (cr_sum hc) (cr_sumT hc)
def rMax2 : List V → Hp → VK → Prop := fun xs H Q => ∃ i j, xs = [.int i, .int j] ∧ Q (.int (if j > i then j else i)) H
theorem cr_maxA (hc : X.calm = true) : CallR X (.builtin "max") (fun vs H Q => (rMax2 vs H Q ∨ rMax X.K vs H Q) ∨ rMaxT X.K vs H Q) := callR_or (callR_or (call_max2 hc) (cr_max hc)) (cr_maxT hc)
end
def gSumA : List D → Option D
  | [.lst xs] => (intsOf xs).map fun ns => .int ns.sum
  | [.tup xs] => (intsOf xs).map fun ns => .int ns.sum
  | _ => none
def maxL : List Int → Option Int
  | [] => none
  | n :: ns => some (ns.foldl max n)
theorem maxL_spec : ∀ {ns : List Int} {m : Int}, maxL ns = some m → m ∈ ns ∧ ∀ y ∈ ns, y ≤ m := by
  have key : ∀ (ns : List Int) (n : Int), (ns.foldl max n = n ∨ ns.foldl max n ∈ ns) ∧ n ≤ ns.foldl max n ∧ ∀ y ∈ ns, y ≤ ns.foldl max n := by
    intro ns
    induction ns with
    | nil => intro n; exact ⟨.inl rfl, Int.le_refl _, fun _ h => nomatch h⟩
    | cons k ns ih =>
      intro n
      obtain ⟨h1, h2, h3⟩ := ih (max n k)
      rw [List.foldl_cons]
      refine ⟨?_, by omega, fun y hy => ?_⟩
      · rcases h1 with h1 | h1
        · rw [h1]
          rcases Int.le_total n k with z | z
          · exact .inr (by rw [Int.max_eq_right z]; exact .head _)
          · exact .inl (Int.max_eq_left z)
        · exact .inr (.tail _ h1)
      · cases hy with
        | head => omega
        | tail _ hy => exact h3 y hy
  intro ns m h
  cases ns with
  | nil => cases h
  | cons n ns =>
    cases h
    obtain ⟨h1, h2, h3⟩ := key ns n
    refine ⟨?_, fun y hy => ?_⟩
    · rcases h1 with h1 | h1
      · rw [h1]; exact .head _
      · exact .tail _ h1
    · cases hy with
      | head => exact h2
      | tail _ hy => exact h3 y hy
def gMaxA : List D → Option D
  | [.int i, .int j] => some (.int (if j > i then j else i))
  | [.lst xs] => (intsOf xs).bind fun ns => (maxL ns).map .int
  | [.tup xs] => (intsOf xs).bind fun ns => (maxL ns).map .int
  | _ => none
def D.isB : D → D → Option D
  | .bl a, .bl b => some (.bl (decide (a = b)))
  | _, _ => none
def D.notB : D → D → Option D
  | .bl a, .bl b => some (.bl (!decide (a = b)))
  | _, _ => none
section
variable {K : Fw} {W : Wd} {H : Hp}
theorem sumA_d : CallD K (fun vs H Q => rSum K vs H Q ∨ rSumT K vs H Q) gSumA := fun W H vs ds d Q wf r h k => by
  unfold gSumA at h
  split at h
  · obtain ⟨ns, e1, rfl⟩ := Option.map_eq_some_iff.mp h
    obtain ⟨v, rfl, r1⟩ := rqs1 r
    obtain ⟨a, ws, rfl, q, z, rs⟩ := rq_lstH r1
    exact .inl ⟨a, ns, rfl, by rw [← intsOf_rps e1 rs]; exact .of q, k _ H (.refl _) (.int _)⟩
  · obtain ⟨ns, e1, rfl⟩ := Option.map_eq_some_iff.mp h
    obtain ⟨v, rfl, r1⟩ := rqs1 r
    obtain ⟨a, ws, rfl, q, z, rs⟩ := rq_tup r1
    exact .inr ⟨a, ns, rfl, by rw [← intsOf_rps e1 rs]; exact q.sqt, k _ H (.refl _) (.int _)⟩
  · cases h
theorem maxA_d : CallD K (fun vs H Q => (rMax2 vs H Q ∨ rMax K vs H Q) ∨ rMaxT K vs H Q) gMaxA := fun W H vs ds d Q wf r h k => by
  have one : ∀ {ns : List Int} {m m' : Int}, maxL ns = some m → m' ∈ ns → (∀ y ∈ ns, y ≤ m') → m' = m := fun e h1 h2 => by
    obtain ⟨q1, q2⟩ := maxL_spec e
    exact Int.le_antisymm (q2 _ h1) (h2 _ q1)
  have pos : ∀ {ns : List Int} {m : Int}, maxL ns = some m → 0 < ns.length := fun e => by
    cases hn : (‹List Int› : List Int) with
    | nil => rename_i ns m; rw [hn] at e; cases e
    | cons a b => simp
  unfold gMaxA at h
  split at h
  · cases h
    obtain ⟨v, v', rfl, r1, r2⟩ := rqs2 r
    rw [rq_int r1, rq_int r2]
    exact .inl (.inl ⟨_, _, rfl, k _ H (.refl _) (.int _)⟩)
  · obtain ⟨ns, e1, h⟩ := Option.bind_eq_some_iff.mp h
    obtain ⟨m, e2, rfl⟩ := Option.map_eq_some_iff.mp h
    obtain ⟨v, rfl, r1⟩ := rqs1 r
    obtain ⟨a, ws, rfl, q, z, rs⟩ := rq_lstH r1
    exact .inl (.inr ⟨a, ns, rfl, by rw [← intsOf_rps e1 rs]; exact .of q, pos e2, fun m' h1 h2 => by rw [one e2 h1 h2]; exact k _ H (.refl _) (.int _)⟩)
  · obtain ⟨ns, e1, h⟩ := Option.bind_eq_some_iff.mp h
    obtain ⟨m, e2, rfl⟩ := Option.map_eq_some_iff.mp h
    obtain ⟨v, rfl, r1⟩ := rqs1 r
    obtain ⟨a, ws, rfl, q, z, rs⟩ := rq_tup r1
    exact .inr ⟨a, ns, rfl, by rw [← intsOf_rps e1 rs]; exact q.sqt, pos e2, fun m' h1 h2 => by rw [one e2 h1 h2]; exact k _ H (.refl _) (.int _)⟩
  · cases h
theorem isB_d : OpD K (fun x y H Q => ∃ a b, x = .bl a ∧ y = .bl b ∧ Q (.bl (decide (a = b))) H) D.isB := fun W H v1 v2 d1 d2 d Q wf r1 r2 h k => by
  unfold D.isB at h
  split at h
  · cases h
    exact ⟨_, _, rp_bl r1, rp_bl r2, k _ H (.refl _) (.bl _)⟩
  · cases h
theorem notB_d : OpD K (fun x y H Q => ∃ a b, x = .bl a ∧ y = .bl b ∧ Q (.bl (!decide (a = b))) H) D.notB := fun W H v1 v2 d1 d2 d Q wf r1 r2 h k => by
  unfold D.notB at h
  split at h
  · cases h
    exact ⟨_, _, rp_bl r1, rp_bl r2, k _ H (.refl _) (.bl _)⟩
  · cases h
end
end DL

set_option Elab.async false
set_option linter.all false
set_option maxRecDepth 100000
set_option maxHeartbeats 1000000
/-! ## t[::-1] of a tuple; xs.extend(ys); a def that calls itself -/
namespace HT
open PySem PySem.Spec PyProof.Rows
section
variable {prog : Program} {w : World} {A : Around} {E : Value → Shared → Prop} {s : Shared}
theorem sliceApplied_rev {sl : Addr} {vl vu vs : Value} {n : Nat} {Q : Int × Int × Nat → Shared → Prop} (hs : s.heap.IsSliceOf sl vl vu vs) (pl : IsPart vl none) (pu : IsPart vu none) (ps : IsPart vs (some (-1)))
    (h : Q ((n : Int) - 1, -1, n) s) : wpAny (model prog w) A (Builtin.Slice.sliceApplied (.ref sl) (pure (n : Int))) Q E s := by
  obtain ⟨os, hos, hcs, hds⟩ := id hs
  unfold Builtin.Slice.sliceApplied Builtin.Slice.sliceFields
  refine wpAny_bind (wpAny_bind (wpAny_field hos hds (x := vl) rfl (wpAny_bind (wpAny_field hos hds (x := vu) rfl (wpAny_bind (wpAny_field hos hds (x := vs) rfl (wpAny_pure ?_)))))))
  refine wpAny_bind (slicePart_ ps ?_)
  show wpAny _ _ (if ((-1 : Int) == 0) = true then _ else _) _ _ s
  rw [if_neg (by decide)]
  refine wpAny_bind (slicePart_ pl (wpAny_bind (slicePart_ pu (wpAny_bind (wpAny_pure ?_)))))
  show wpAny _ _ (match Builtin.Slice.sliceAdjust none none (-1) (n : Int) with | (lo, hi) => pure (lo, (-1 : Int), Builtin.Slice.slicePlaces lo hi (-1))) _ _ s
  have e1 : Builtin.Slice.sliceAdjust none none (-1) (n : Int) = ((n : Int) - 1, -1) := rfl
  rw [e1]
  show wpAny _ _ (pure ((n : Int) - 1, (-1 : Int), Builtin.Slice.slicePlaces ((n : Int) - 1) (-1) (-1))) _ _ s
  have e2 : Builtin.Slice.slicePlaces ((n : Int) - 1) (-1) (-1) = n := by
    unfold Builtin.Slice.slicePlaces
    have h1 : ¬ ((-1 : Int) > 0) := by omega
    have h3 : (- -1 : Int) = 1 := by omega
    simp only [h1, if_false, h3, Int.ediv_one]
    split <;> omega
  rw [e2]
  exact wpAny_pure h
theorem pick_rev (xs : Array Value) : ((List.range xs.size).filterMap fun (m : Nat) => xs[(((xs.size : Int) - 1) + (m : Int) * (-1)).toNat]?).toArray = xs.toList.reverse.toArray := by
  have e : ∀ m ∈ List.range xs.size, xs[(((xs.size : Int) - 1) + (m : Int) * (-1)).toNat]? = xs.toList.reverse[m]? := fun m hm => by
    have h := List.mem_range.mp hm
    have e1 : (((xs.size : Int) - 1) + (m : Int) * (-1)).toNat = xs.size - 1 - m := by omega
    rw [e1, List.getElem?_reverse (by rw [Array.length_toList]; exact h), Array.length_toList, Array.getElem?_toList]
  have fc : ∀ (l : List Nat) (f g : Nat → Option Value), (∀ m ∈ l, f m = g m) → l.filterMap f = l.filterMap g := fun l f g h => by
    induction l with
    | nil => rfl
    | cons a l ih => rw [List.filterMap_cons, List.filterMap_cons, h a (.head _), ih fun m hm => h m (.tail _ hm)]
  rw [fc _ _ _ e]
  congr 1
  have := PySem.W.krv_all xs
  have g : ∀ l : List Value, (List.range l.length).filterMap (fun m => l[m]?) = l := fun l => by
    induction l with
    | nil => rfl
    | cons a l ih =>
      rw [List.length_cons, List.range_succ_eq_map, List.filterMap_cons]
      simp only [List.getElem?_cons_zero, List.filterMap_map]
      congr 1
  have z := g xs.toList.reverse
  rw [List.length_reverse, Array.length_toList] at z
  exact z
theorem getItem_tuple_rev {t sl : Addr} {items : Array Value} {vl vu vs : Value} {Q : Value → Shared → Prop} (ht : IsTup s.heap t items) (hs : s.heap.IsSliceOf sl vl vu vs) (pl : IsPart vl none) (pu : IsPart vu none) (ps : IsPart vs (some (-1)))
    (h : Q (.ref s.heap.objs.size) { s with heap := s.heap.push { cls := .type "tuple", data := .seq items.toList.reverse.toArray } })
    (hsz : items.size ≤ sizeLine) : wpAny (model prog w) A (getItem (.ref t) (.ref sl)) Q E s := by
  have key : s.TypeIs (.ref sl) "slice" := let ⟨o, e, c, _⟩ := hs; ⟨o, e, c⟩
  have fit : items.toList.reverse.toArray.size ≤ sizeLine := by simpa using hsz
  have step : ((items.size : Int) - 1 == 0 && (-1 : Int) == 1 && items.size == items.size) = false := by simp
  unfold getItem
  refine wpAny_holding (wpAny_bind (wpAny_sequenceKey ht.typeIs (by decide) (wpAny_bind ?_)))
  refine wpAny_callSpecial?_slot (name := Str.ofString "__getitem__") ht.typeIs PyProof.Rows.slot_tuple_getitem (wpAny_call_entry PyProof.Rows.slot_tuple_getitem ht.typeIs entry_tuple_getitem ?_ (args_tuple_getitem _ _))
  refine wpAny_bind (m := Builtin.Tuple.tupleItemsOf (.ref t)) (tupleItemsOf_ ht (wpAny_bind (wpAny_typeOf key ?_)))
  rw [if_pos (by decide)]
  refine wpAny_bind (sliceApplied_rev hs pl pu ps ?_)
  simp only [step, Bool.false_eq_true, if_false]
  rw [pick_rev]
  exact wpAny_bind (m := Builtin.Tuple.tupleExact _) (wpAny_newObj_type (wpAny_pure ⟨_, rfl, wpAny_pure h⟩) fit)
end
end HT
namespace L2
open PySem PySem.Spec PyProof.Rows
section
variable {X : Cx}
def tRevT (K : PySem.W.Frag) (te : TE) : TE := fun σ H Q => te σ H fun x H1 => ∃ a xs, x = .ref a ∧ SqT K H1 a xs ∧ ∀ (p : Addr) (o : Obj), H1 p = none → o.dict = none → Q (.ref p) (upd H1 p (.frz o (.tup xs.reverse)))
theorem pe_revT {e : Expr} {te : TE} {k : Nat} {p1 p2 p3 pos : Pos} (he : PE X e te) : PE X (.Subscript e (.Slice none none (some (.UnaryOp .USub (.Constant (.int 1) k p1) p2)) p3) pos) (tRevT X.K te) := by
  refine ⟨fun pins s σ H Q I w => Subscript_ (thn (he.run pins s σ H _ I w) ?_)⟩
  rintro v s1 ⟨_, H1, J, r, a, xs, rfl, tx, q⟩
  cases r
  have back : PO X (some (.UnaryOp .USub (.Constant (.int 1) k p1) p2)) (tPart (tUn (rU fun i => .int (-i)) (tC (.int 1)))) := po_some (pe_un un_neg pe_int)
  refine wpAny_Slice (thn (po_none.run pins s1 σ H1 (fun o H' => o = none ∧ H' = H1) J ⟨rfl, rfl⟩) ?_)
  rintro vl s2 ⟨_, G2, J2, pl, rfl, e2⟩
  cases e2
  refine thn (po_none.run pins s2 σ _ (fun o H' => o = none ∧ H' = H1) J2 ⟨rfl, rfl⟩) ?_
  rintro vu s3 ⟨_, G3, J3, pu, rfl, e3⟩
  cases e3
  refine thn (back.run pins s3 σ _ (fun o H' => o = some (-1) ∧ H' = H1) J3 ⟨1, rfl, -1, rfl, rfl, rfl⟩) ?_
  rintro vs s4 ⟨_, G4, J4, ps, rfl, e4⟩
  cases e4
  have J5 : Inv X pins σ H1 { s4 with heap := s4.heap.push { cls := .type "slice", data := .fields #[vl, vu, vs] } } := J4.kept (t' := s4.toks) fun _ _ => Heap.get?_push_of_some _
  obtain ⟨its, rv, ht, z⟩ := J5.tuple tx
  show wpAny _ _ (subscriptTail e _ (.ref a) (.ref s4.heap.objs.size)) _ _ _
  refine tail_any (ops := [.ref a, .ref s4.heap.objs.size]) ht.typeIs PyProof.Rows.slot_tuple_getitem.lookup ?_ (by with_unfolding_all rfl)
  exact HT.getItem_tuple_rev ht (Heap.IsSliceOf.new _ vl vu vs) pl pu ps (DL.tup_end J5 rv.reverse (by rw [List.length_reverse]; exact z) q) (by rw [List.size_toArray, ← rv.length]; exact z)
end
end L2
namespace DL
open PySem PySem.Spec PyProof.Rows L2
section
def D.rev : D → Option D
  | .tup xs => some (.tup xs.reverse)
  | _ => none
theorem Rps.snoc_rev {K : Fw} {W : Wd} {H : Hp} : ∀ {vs : List V} {ds : List D}, Rps K W H vs ds → Rps K W H vs.reverse ds.reverse
  | _, _, .nil => .nil
  | _, _, .cons a b => by
    rw [List.reverse_cons, List.reverse_cons]
    exact (Rps.snoc_rev b).append (.cons a .nil)
theorem e_rev {X : Cx} {a : Expr} {f : Ex} {k : Nat} {p1 p2 p3 pos : Pos} (h : B X a f) : E X (.Subscript a (.Slice none none (some (.UnaryOp .USub (.Constant (.int 1) k p1) p2)) p3) pos) (eUn D.rev f) := pe_imp (pe_revT h) fun σ H Q ⟨W, ρ, S, d, S', rl, hf, k⟩ => by
  unfold eUn at hf
  cases e1 : f ρ S with
  | none => rw [e1] at hf; cases hf
  | some p =>
    rw [e1, Option.bind_some] at hf
    obtain ⟨x, S1⟩ := p
    cases x with
    | tup ds =>
      cases hf
      refine ⟨W, ρ, S, _, _, rl, e1, fun v H1 s1 st1 r1 => ?_⟩
      cases r1 with
      | of r1 =>
        cases r1 with
        | @tup aa vv dd q z rs =>
          refine ⟨_, _, rfl, q.sqt, fun p o hp ho => ?_⟩
          have sm : Same H1 (upd H1 p (.frz o (.tup vv.reverse))) := upd_Same hp
          exact k _ _ (s1.trans (.same sm)) (st1.same sm) (.tup (.new ho) (by rw [List.length_reverse]; exact z) (rs.snoc_rev.stepE (.same sm)))
    | _ => cases hf
def gExtend : Cell → List D → Option (Cell × D)
  | .lst xs, [.lst ys] => if xs.length + ys.length ≤ sizeLine then some (.lst (xs ++ ys), .non) else none
  | _, _ => none
theorem extend_d {K : Fw} : MutD K rExtend gExtend := fun W H a vs ds c c' d Q m cc rs h k => by
  unfold gExtend at h
  split at h
  · rename_i xs ys
    by_cases z : xs.length + ys.length ≤ sizeLine
    · rw [if_pos z] at h
      cases h
      obtain ⟨ws, e, hz, rw'⟩ := cc
      cases rs with
      | @cons y1 _ _ _ r1 r2 =>
        cases r2
        cases r1 with
        | @lst b us _ n q zz rs1 =>
          refine ⟨a, b, ws, us, rfl, rfl, e, q, by rw [rw'.length, rs1.length]; exact z, k _ _ ⟨_, upd_same, by rw [List.length_append, rw'.length, rs1.length]; exact z, ?_⟩ .non⟩
          have kp : Kps K W H W (upd H a (.lst (ws ++ us))) := kps_cell e trivial m
          exact (rw'.append rs1).keeps kp
    · rw [if_neg z] at h; cases h
  · cases h
theorem extend_l : ∀ c ds z, gExtend c ds = some z → isLst c = true := fun c ds z h => by
  cases c with
  | lst xs => rfl
  | dct ks vs => cases h
  | dn b ks vs => cases h
/-- a def that calls itself too deep: nothing is said -/
theorem fnG_none {P : Program} {w : World} {K : PySem.W.Frag} {mg : Str → Option Value} {base : Heap} {k : Nat} {f : Addr} {fd : FuncData} {ps : List Str} {n : Nat} : FnG P w K mg base k f fd ps (spD ⟨K, w, P⟩ n (fun _ _ => none)) := by
  constructor
  · intro vs H Q E h
    obtain ⟨W, ds, S, d, S', _, _, _, _, hf, _⟩ := h
    cases hf
  · intro A outer s H args us vs Q E _ _ _ _ _ h
    obtain ⟨W, ds, S, d, S', _, _, _, _, hf, _⟩ := h
    cases hf
end
end DL

set_option Elab.async false
set_option linter.all false
set_option maxRecDepth 100000
set_option maxHeartbeats 1000000
/-! ## for x, y in zip(a, b): two lists, two tuples, a list and a tuple -/
namespace DL
open PySem PySem.Spec PyProof.Rows L2
abbrev ItzMZ (K : PySem.W.Frag) (a b : Addr) : It := ItzK .l .t K a b
def iZipA (K : PySem.W.Frag) (ta : TA) : TI := fun σ H R => ta σ H fun vs H1 => ∃ a b xs ys, vs = [.ref a, .ref b] ∧ ((SqL K H1 a xs ∧ SqL K H1 b ys ∧ R (ItzLZ K a b) H1) ∨ (SqT K H1 a xs ∧ SqT K H1 b ys ∧ R (ItzTZ K a b) H1) ∨ (SqL K H1 a xs ∧ SqT K H1 b ys ∧ R (ItzMZ K a b) H1))
theorem pi_zipA {X : Cx} {e e2 : Expr} {ta : TA} {p pos tpos : Pos} {elts : List Expr} {kk : Nat} (hg : Gl X "zip") (hm : X.mg "zip" = none) (ha : PA X [e, e2] ta)
    (hs : starEach [e, e2] X.env = (false, eval e X.env) :: starEach [e2] X.env := by rfl) (hpl : (backTo pos (starEach [e2] X.env)).any (·.1) = false := by rfl) :
    PI X (.Tuple elts kk tpos) (.Call (.Name "zip" p) [e, e2] [] pos) (iZipA X.K ta) := by
  refine ⟨fun pins s σ H R I w => Call_ (ld_blt I hg hm PyProof.Rows.boot_zip (PyProof.Rows.callWith_type1 (thn (ha.run pos pins s σ H _ I w) ?_) hs hpl))⟩
  rintro us s1 ⟨_, H1, J, r, a, b, xs, ys, rfl, which⟩
  obtain ⟨_, _, rfl, e1, e2⟩ := refs2 r
  cases e1
  cases e2
  rcases which with ⟨qx, qy, q⟩ | ⟨qx, qy, q⟩ | ⟨qx, qy, q⟩
  · exact zip_made .l .l J qx qy q
  · exact zip_made .t .t J qx qy q
  · exact zip_made .l .t J qx qy q
def zipOfA : List D → Option (List D)
  | [.lst xs, .lst ys] => some (List.zipWith (fun x y => .tup [x, y]) xs ys)
  | [.tup xs, .tup ys] => some (List.zipWith (fun x y => .tup [x, y]) xs ys)
  | [.lst xs, .tup ys] => some (List.zipWith (fun x y => .tup [x, y]) xs ys)
  | _ => none
def iZpA (fs : Ars) : Ars := fun ρ S => (fs ρ S).bind fun p => (zipOfA p.1).map fun xs => (xs, p.2)
section
variable {X : Cx} {fs : Ars} {tg e : Expr}
theorem iZpA_split {ρ : Rho} {S S' : Sto} {xs : List D} (h : iZpA fs ρ S = some (xs, S')) : ∃ ds, fs ρ S = some (ds, S') ∧ zipOfA ds = some xs := by
  unfold iZpA at h
  cases e1 : fs ρ S with
  | none => rw [e1] at h; cases h
  | some p =>
    rw [e1, Option.bind_some] at h
    obtain ⟨z, hz, he⟩ := Option.map_eq_some_iff.mp h
    cases he
    exact ⟨p.1, rfl, hz⟩
theorem walk_zipM {K : Fw} {W : Wd} {H : Hp} {a b : Addr} {vs ws : List V} {xs ys : List D} (na : a ∉ W.θ ∧ ¬ W.M0 a) (ha : H a = some (.lst vs)) (hb : TupAt K H b ws) (ra : Rps K W H vs xs) (rb : Rps K W H ws ys) : Walk K W false H (ItzMZ K a b) (List.zipWith (fun x y => .tup [x, y]) xs ys) := fun W2 H2 l => by
  have ea : SqL K H2 a vs := .of (LaterE.keep l a _ ha na.1 na.2)
  have eb : SqT K H2 b ws := (TupAt.step l.kps.frzs hb).sqt
  refine ⟨fun i d hd => ?_, ⟨vs, ws, ea, eb, ?_⟩⟩
  · obtain ⟨x, y, hx, hy, rfl⟩ := zipWith_some hd
    obtain ⟨v, hv, rv⟩ := ra.get hx
    obtain ⟨w, hw, rw'⟩ := rb.get hy
    refine ⟨⟨vs, ws, v, w, ea, eb, hv, hw⟩, fun z H3 yy => ?_⟩
    obtain ⟨T, oo, x', y', rfl, hT, hoo, rfl, q1, q2⟩ := yy
    have q1 := q1 vs ea
    have q2 := q2 ws eb
    rw [hv] at q1
    rw [hw] at q2
    cases q1
    cases q2
    have sm : Same H2 (upd H2 T (.frz oo (.tup [v, w]))) := upd_Same hT
    have k2 : Kps K W2 H2 W2 (upd H2 T (.frz oo (.tup [v, w]))) := (StepE.same (θ := W2.θ) sm).keeps
    exact ⟨sm, .tup (.new hoo) (by show 2 ≤ sizeLine; decide) (.cons ((rv.keeps l.kps).keeps k2) (.cons ((rw'.keeps l.kps).keeps k2) .nil))⟩
  · rw [List.length_zipWith, ra.length, rb.length]
    omega
theorem walk_zipMs {K : Fw} {W : Wd} {H : Hp} {a b : Addr} {vs ws : List V} {xs ys : List D} (na : ¬ Mu W a) (ha : H a = some (.lst vs)) (hb : TupAt K H b ws) (ra : Rps K W H vs xs) (rb : Rps K W H ws ys) : Walk K W true H (ItzMZ K a b) (List.zipWith (fun x y => .tup [x, y]) xs ys) := fun W2 H2 l => by
  have ea : SqL K H2 a vs := .of (l.kps.keep a _ ha na).1
  have eb : SqT K H2 b ws := (TupAt.step l.kps.frzs hb).sqt
  refine ⟨fun i d hd => ?_, ⟨vs, ws, ea, eb, ?_⟩⟩
  · obtain ⟨x, y, hx, hy, rfl⟩ := zipWith_some hd
    obtain ⟨v, hv, rv⟩ := ra.get hx
    obtain ⟨w, hw, rw'⟩ := rb.get hy
    refine ⟨⟨vs, ws, v, w, ea, eb, hv, hw⟩, fun z H3 yy => ?_⟩
    obtain ⟨T, oo, x', y', rfl, hT, hoo, rfl, q1, q2⟩ := yy
    have q1 := q1 vs ea
    have q2 := q2 ws eb
    rw [hv] at q1
    rw [hw] at q2
    cases q1
    cases q2
    have sm : Same H2 (upd H2 T (.frz oo (.tup [v, w]))) := upd_Same hT
    have k2 : Kps K W2 H2 W2 (upd H2 T (.frz oo (.tup [v, w]))) := (StepE.same (θ := W2.θ) sm).keeps
    exact ⟨sm, .tup (.new hoo) (by show 2 ≤ sizeLine; decide) (.cons ((rv.keeps l.kps).keeps k2) (.cons ((rw'.keeps l.kps).keeps k2) .nil))⟩
  · rw [List.length_zipWith, ra.length, rb.length]
    omega
theorem ib_zipA (h : PI X tg e (iZipA X.K (tAQ (FX X) fs))) : IT false X tg e (iZpA fs) := pi_imp h fun σ H R ⟨W, ρ, S, xs, S', rl, hf, k⟩ => by
  obtain ⟨ds, e1, e2⟩ := iZpA_split hf
  refine ⟨W, ρ, S, ds, S', rl, e1, fun vs H1 s1 st1 r1 => ?_⟩
  unfold zipOfA at e2
  split at e2
  · cases e2
    cases r1 with
    | cons a b =>
      cases b with
      | cons b c =>
        cases c
        obtain ⟨a1, v1, rfl, n1, q1, z1, r1⟩ := rq_lst a (rl.wf.stepE s1)
        obtain ⟨a2, v2, rfl, n2, q2, z2, r2⟩ := rq_lst b (rl.wf.stepE s1)
        refine ⟨a1, a2, v1, v2, rfl, .inl ⟨.of q1, .of q2, k _ H1 s1 st1 ?_ (walk_zipL n1 n2 q1 q2 r1 r2)⟩⟩
        rw [List.length_zipWith, ← r1.length]
        exact Nat.le_trans (Nat.min_le_left _ _) z1
  · cases e2
    cases r1 with
    | cons a b =>
      cases b with
      | cons b c =>
        cases c
        obtain ⟨a1, v1, rfl, q1, z1, r1⟩ := rq_tup a
        obtain ⟨a2, v2, rfl, q2, z2, r2⟩ := rq_tup b
        refine ⟨a1, a2, v1, v2, rfl, .inr (.inl ⟨q1.sqt, q2.sqt, k _ H1 s1 st1 ?_ (walk_zipT q1 q2 r1 r2)⟩)⟩
        rw [List.length_zipWith, ← r1.length]
        exact Nat.le_trans (Nat.min_le_left _ _) z1
  · cases e2
    cases r1 with
    | cons a b =>
      cases b with
      | cons b c =>
        cases c
        obtain ⟨a1, v1, rfl, n1, q1, z1, r1⟩ := rq_lst a (rl.wf.stepE s1)
        obtain ⟨a2, v2, rfl, q2, z2, r2⟩ := rq_tup b
        refine ⟨a1, a2, v1, v2, rfl, .inr (.inr ⟨.of q1, q2.sqt, k _ H1 s1 st1 ?_ (walk_zipM n1 q1 q2 r1 r2)⟩)⟩
        rw [List.length_zipWith, ← r1.length]
        exact Nat.le_trans (Nat.min_le_left _ _) z1
  · cases e2
theorem it_zipA (h : PI X tg e (iZipA X.K (tA (FX X) fs))) : IT true X tg e (iZpA fs) := pi_imp h fun σ H R ⟨W, ρ, S, xs, S', rl, hf, k⟩ => by
  obtain ⟨ds, e1, e2⟩ := iZpA_split hf
  refine ⟨W, ρ, S, ds, S', rl, e1, fun vs H1 s1 st1 r1 => ?_⟩
  unfold zipOfA at e2
  split at e2
  · cases e2
    cases r1 with
    | cons a b =>
      cases b with
      | cons b c =>
        cases c
        obtain ⟨a1, v1, rfl, n1, q1, z1, r1⟩ := rp_lst a
        obtain ⟨a2, v2, rfl, n2, q2, z2, r2⟩ := rp_lst b
        refine ⟨a1, a2, v1, v2, rfl, .inl ⟨.of q1, .of q2, k _ H1 s1 st1 ?_ (walk_zipLs n1 n2 q1 q2 r1 r2)⟩⟩
        rw [List.length_zipWith, ← r1.length]
        exact Nat.le_trans (Nat.min_le_left _ _) z1
  · cases e2
    cases r1 with
    | cons a b =>
      cases b with
      | cons b c =>
        cases c
        obtain ⟨a1, v1, rfl, q1, z1, r1⟩ := rp_tup a
        obtain ⟨a2, v2, rfl, q2, z2, r2⟩ := rp_tup b
        refine ⟨a1, a2, v1, v2, rfl, .inr (.inl ⟨q1.sqt, q2.sqt, k _ H1 s1 st1 ?_ (walk_zipT q1 q2 r1 r2)⟩)⟩
        rw [List.length_zipWith, ← r1.length]
        exact Nat.le_trans (Nat.min_le_left _ _) z1
  · cases e2
    cases r1 with
    | cons a b =>
      cases b with
      | cons b c =>
        cases c
        obtain ⟨a1, v1, rfl, n1, q1, z1, r1⟩ := rp_lst a
        obtain ⟨a2, v2, rfl, q2, z2, r2⟩ := rp_tup b
        refine ⟨a1, a2, v1, v2, rfl, .inr (.inr ⟨.of q1, q2.sqt, k _ H1 s1 st1 ?_ (walk_zipMs n1 q1 q2 r1 r2)⟩)⟩
        rw [List.length_zipWith, ← r1.length]
        exact Nat.le_trans (Nat.min_le_left _ _) z1
  · cases e2

end
end DL

set_option Elab.async false
set_option linter.all false
set_option maxRecDepth 100000
set_option maxHeartbeats 1000000
namespace DL
open PySem PySem.Spec PyProof.Rows L2
/-! ## 45. own classes whose methods are run where no guard is under way; keys asked of a nested dict -/
def tDnNotIn (X : Cx) (ty td : TE) : TE := fun σ H Q => ty σ H fun y H1 => td σ H1 fun x H2 => ∃ a xs b k, x = .ref a ∧ y = .ref b ∧ DnIs X H2 a xs ∧ NkIs X H2 b k ∧ Q (.bl (!(findN xs k).isSome)) H2
section
variable {X : Cx} {A : Around} {E : Value → Shared → Prop} {pins : List (Addr × Obj)} {σ : L2.St} {H : Hp} {s : Shared} {a b : Addr} {xs : DnX} {k : NestedKey} {o i : Expr} {td ty : TE}
theorem dn_notIn {ob : Obj} {Q : Value → Shared → Prop} (hu : A.units + 16 < cLine) (I : Inv X pins σ H s) (e : H a = some (DnAt X.prog X.w a xs ob)) (ky : KeysAt s.heap xs) (hk : NestedIs s.heap k (.ref b) ∧ k.depth ≤ 8)
    (h : ∀ s', Inv X pins σ H s' → Q (.bool (!(findN xs k).isSome)) s') : wpAny (model X.prog X.w) A (compareOp .NotIn (.ref b) (.ref a)) Q E s := by
  obtain ⟨hd, z, ys, p3, dd⟩ := dn_of I e ky
  refine wpAny_notIn_heap (knd := nestedKind X.prog X.w) (by show A.units + 1 + 8 < cLine; omega) hk hd dd ?_
  rcases rd_find (k := k) p3 with ⟨h1, h2⟩ | ⟨v', p, h1, h2, h3⟩
  · rw [h2]
    have := h _ (I.tok (s.toks + (nestedKind X.prog X.w).draws k))
    rw [h1] at this
    exact this
  · rw [h2]
    have := h _ (I.tok (s.toks + (nestedKind X.prog X.w).draws k))
    rw [h1] at this
    exact this
theorem pc_dnnotin (hu : X.A.units + 16 < cLine) (hi : PE X i ty) (ho : PE X o td) : PC X .NotIn i o (tDnNotIn X ty td) := by
  refine ⟨fun pins s σ H Q I h => ?_⟩
  refine thn (hi.run pins s σ H _ I h) fun iv s1 ⟨y, H1, I1, ry, q1⟩ => thn (ho.run pins s1 σ H1 _ I1 q1) fun u s2 ⟨x, H2, I2, rx, a, xs, b, k, ex, ey, ⟨⟨ob, g1⟩, g2⟩, nk, q2⟩ => ?_
  subst ex ey
  obtain rfl : u = Value.ref a := rx
  obtain rfl : iv = Value.ref b := ry
  exact dn_notIn hu I2 g1 (g2 _ _ _ I2) (nk _ _ _ I2) fun s3 I3 => ⟨.bl (!(findN xs k).isSome), H2, I3, rfl, q2⟩
end
section
variable {X : Cx} {k : Nat} {f C : Addr} {fd : FuncData} {ps : List Str} {sp : Sp} {x m : Str} {p pos apos : Pos} {e o : Expr} {es : List Expr} {ta : TE} {t : TA}
theorem run_fnG {pins : List (Addr × Obj)} {σ : L2.St} {H : Hp} {s : Shared} {Q : VK} {us : List Value} {vs : List V} (hG : X.A.guards = some []) (F : FnG X.prog X.w X.K X.mg X.base k f fd ps sp) (hr : Room k X.A) (hb : Binds X.K fd ps [])
    (I : Inv X pins σ H s) (r : Vals vs us) (h : sp vs H Q E0) : wpAny (model X.prog X.w) X.A (call (.ref f) us) (EP X pins σ Q) X.xe s := by
  have cnt : us.length = ps.length := by rw [← r.length]; exact F.len _ _ _ _ h
  have bd : BindsTo s fd ⟨us, []⟩ (ps.zip us) := by
    have := hb s us I.kIn (by rw [List.append_nil]; exact cnt)
    rwa [List.append_nil] at this
  refine wpAny_call (codeAny_mono (F.go X.A X.stack s H ⟨us, []⟩ us vs Q E0 hG hr I.env0 bd r h) fun r s' hq => ?_)
  match r, hq with
  | .ok (.ret u), hq => exact I.after hq
  | .error e, hq => exact hq.elim
theorem pe_methG {pl : Sem Bool} (hG : X.A.guards = some []) (he : PE X o ta) (c : Cls X.K C) (hm : Meth X.K C m f) (F : FnG X.prog X.w X.K X.mg X.base k f fd ps sp) (hr : Room k X.A) (hb : Binds X.K fd ps []) (ha : PA X (e :: es) t)
    (hst : starEach (e :: es) X.env = (false, eval e X.env) :: starEach es X.env := by rfl) (hpl : (backTo pos (starEach es X.env)).any (·.1) = false := by rfl)
    (ht : eval (.Call (.Attribute o m apos) (e :: es) [] pos) X.env = (do
      let ov ← eval o X.env
      standAt apos.atName
      let (f, first) ← holding [ov] (getMethod ov m pl)
      callWith pos f first (backTo pos (starEach (e :: es) X.env)) (backToKw pos (keywordEach [] X.env))) := by rfl) :
    PE X (.Call (.Attribute o m apos) (e :: es) [] pos) (tMeth C m sp [] E0 ta t) := by
  refine ⟨fun pins s σ H Q I h => ?_⟩
  refine PySem.W.methodCall_KW (pl := pl) (thn (he.run pins s σ H _ I h) fun u s1 ⟨x, H1, I1, rx, a, dx, fs, ex, ea, l, q⟩ => ?_) ht
  subst ex
  obtain rfl : u = Value.ref a := rx
  refine getmeth_ok I1 ea c hm l ?_
  refine PySem.W.callWith_K (first := [.ref a]) (h₀ := X.base) I.ok.mod.kin hm.kp (thn (ha.run pos pins s1 σ H1 _ I1 q) fun us s2 ⟨vs, H2, I2, r, q2⟩ => ⟨I2.kIn, ?_⟩) hst hpl
  have q3 : sp (V.ref a :: (vs ++ [])) H2 Q E0 := q2
  rw [List.append_nil] at q3
  exact run_fnG (us := .ref a :: us) (vs := .ref a :: vs) hG F hr hb I2 (.cons rfl r) q3
theorem pe_methG0 {pl : Sem Bool} (hG : X.A.guards = some []) (he : PE X o ta) (c : Cls X.K C) (hm : Meth X.K C m f) (F : FnG X.prog X.w X.K X.mg X.base k f fd ps sp) (hr : Room k X.A) (hb : Binds X.K fd ps [])
    (ht : eval (.Call (.Attribute o m apos) [] [] pos) X.env = (do
      let ov ← eval o X.env
      standAt apos.atName
      let (f, first) ← holding [ov] (getMethod ov m pl)
      callWith pos f first (backTo pos (starEach [] X.env)) (backToKw pos (keywordEach [] X.env))) := by rfl) :
    PE X (.Call (.Attribute o m apos) [] [] pos) (tMeth C m sp [] E0 ta tNil) := by
  refine ⟨fun pins s σ H Q I h => ?_⟩
  refine PySem.W.methodCall_KW (pl := pl) (thn (he.run pins s σ H _ I h) fun u s1 ⟨x, H1, I1, rx, a, dx, fs, ex, ea, l, q⟩ => ?_) ht
  subst ex
  obtain rfl : u = Value.ref a := rx
  refine getmeth_ok I1 ea c hm l ?_
  exact PySem.W.callWith_K0 (first := [.ref a]) I1.kIn hm.kp (run_fnG (us := [.ref a]) (vs := [.ref a]) hG F hr hb I1 (.cons rfl .nil) q)
theorem run_makeG {pins : List (Addr × Obj)} {σ : L2.St} {H : Hp} {s : Shared} {Q : VK} {us : List Value} {vs : List V} (hG : X.A.guards = some []) (M : Mk X.K C f) (F : FnG X.prog X.w X.K X.mg X.base k f fd ps sp) (hr : Room (k + 1) X.A) (hb : Binds X.K fd ps [])
    (I : Inv X pins σ H s) (r : Vals vs us)
    (h : ∀ x dx, H x = none → H dx = none → dx ≠ x → sp (.ref x :: vs) (upd (upd H dx (.own x)) x (.ins C dx [])) (fun v H2 => v = .non ∧ Q (.ref x) H2) E0) :
    wpAny (model X.prog X.w) X.A (call (.ref C) us) (EP X pins σ Q) X.xe s := by
  have hq := h (s.heap.objs.size + 1) s.heap.objs.size (I.hok.fresh (Nat.le_succ _)) (I.hok.fresh (Nat.le_refl _)) (Nat.ne_of_lt (Nat.lt_succ_self _))
  have I2 := Inv.made (C := C) I
  have r2 : Vals (V.ref (s.heap.objs.size + 1) :: vs) (Value.ref (s.heap.objs.size + 1) :: us) := .cons rfl r
  have hl : (Value.ref (s.heap.objs.size + 1) :: us).length = ps.length := by
    have e := r2.length
    rw [F.len _ _ _ _ hq] at e
    exact e.symm
  have bd : BindsTo { s with heap := (s.heap.push PySem.W.emptyDict).push (PySem.W.instObj C s.heap.objs.size) } fd ⟨Value.ref (s.heap.objs.size + 1) :: us, []⟩ (ps.zip (Value.ref (s.heap.objs.size + 1) :: us)) := by
    have := hb { s with heap := (s.heap.push PySem.W.emptyDict).push (PySem.W.instObj C s.heap.objs.size) } (Value.ref (s.heap.objs.size + 1) :: us) I2.kIn (by rw [List.append_nil]; exact hl)
    rwa [List.append_nil] at this
  have hG2 : (X.A.under (.builtin "type.__call__" ⟨.ref C :: us, []⟩)).guards = some [] := by
    show pushGuards (Code.guards (.builtin "type.__call__" ⟨.ref C :: us, []⟩)) X.A.guards = some []
    have : Code.guards (.builtin "type.__call__" ⟨.ref C :: us, []⟩) = [] := by
      show (if guardIds.contains "type.__call__" = true then [Code.builtin "type.__call__" ⟨.ref C :: us, []⟩] else []) = []
      rw [show guardIds.contains "type.__call__" = false by decide +kernel]
      rfl
    rw [this, hG]
    rfl
  refine wpAny_call (make_map (f := f) I.kIn M.makes M.init (beq_iff_eq.mp M.fn) (codeAny_mono (F.go _ X.stack _ _ ⟨Value.ref (s.heap.objs.size + 1) :: us, []⟩ (Value.ref (s.heap.objs.size + 1) :: us) _ _ E0 hG2 (hr.make C us [])
    (I2.env0.make C us []) bd r2 hq) fun r s' hq' => ?_))
  match r, hq' with
  | .ok (.ret u), hq' =>
    obtain ⟨v, H', I3, rv, ev, q3⟩ := I2.after hq'
    subst ev
    exact ⟨rv, ⟨V.ref (s.heap.objs.size + 1), H', I3, rfl, q3⟩⟩
  | .error e, hq' => exact hq'.elim
def tMakeG (C : Addr) (sp : Sp) (t : TA) : TE := fun σ H Q => t σ H fun vs H1 => ∀ x dx, H1 x = none → H1 dx = none → dx ≠ x → sp (.ref x :: vs) (upd (upd H1 dx (.own x)) x (.ins C dx [])) (fun v H2 => v = .non ∧ Q (.ref x) H2) E0
theorem pe_makeG (hG : X.A.guards = some []) (M : Mk X.K C f) (F : FnG X.prog X.w X.K X.mg X.base k f fd ps sp) (hr : Room (k + 1) X.A) (hg : Gl X x) (hm : X.mg x = some (.ref C)) (hb : Binds X.K fd ps [])
    (ha : PA X (e :: es) t) (hdb : (x == ("__debug__" : Str)) = false := by decide) (he : starEach (e :: es) X.env = (false, eval e X.env) :: starEach es X.env := by rfl) (hpl : (backTo pos (starEach es X.env)).any (·.1) = false := by rfl) :
    PE X (.Call (.Name x p) (e :: es) [] pos) (tMakeG C sp t) := by
  refine ⟨fun pins s σ H Q I h => ?_⟩
  refine wpAny_Call_Name_kw (ld_glob I hg hm ?_ hdb)
  refine PySem.W.callWith_K (h₀ := X.base) I.ok.mod.kin M.kp (thn (ha.run pos pins s σ H _ I h) fun us s1 ⟨vs, H1, I1, r, q⟩ => ⟨I1.kIn, ?_⟩) he hpl
  exact run_makeG hG M F hr hb I1 r q
end
end DL

set_option Elab.async false
set_option linter.all false
set_option maxRecDepth 100000
set_option maxHeartbeats 4000000
/-! printed by gen.py: the walk through every def -/
namespace W13
open PySem PySem.Spec PyProof.Rows L2 DL
def top (i : Nat) : Stmt := PySem.Challenge.pw_causeworth_k13_sayings_that_hold.main.body.getD i (.Pass ⟨0, 0, 0, 0⟩)
abbrev s_is_integer : Stmt := top 2
abbrev s_all_sayings : Stmt := top 4
abbrev s_parts_of : Stmt := top 5
abbrev s_together : Stmt := top 6
abbrev s_rest_of : Stmt := top 7
abbrev s_turned : Stmt := top 8
abbrev s_fraction : Stmt := top 15
abbrev s_rows_of : Stmt := top 19
abbrev s_fits : Stmt := top 20
abbrev s_event_of : Stmt := top 23
abbrev s__law_start : Stmt := top 29
abbrev s__law_fill : Stmt := top 30
abbrev s__law_is_int : Stmt := top 32
abbrev s__law_alike : Stmt := top 33
abbrev s__law_divisor : Stmt := top 34
abbrev s__law_values : Stmt := top 45
abbrev s_weak : Stmt := top 9
abbrev s_joined : Stmt := top 10
abbrev s_crossed : Stmt := top 11
abbrev s_plus : Stmt := top 16
abbrev s_times : Stmt := top 17
abbrev s__law_take : Stmt := top 31
abbrev s__law_fraction : Stmt := top 35
abbrev s__law_is_paper : Stmt := top 51
abbrev s_total : Stmt := top 18
abbrev s__law_plus : Stmt := top 36
abbrev s__law_times : Stmt := top 37
abbrev s__law_world : Stmt := top 46
abbrev s_chance : Stmt := top 21
abbrev s__law_total : Stmt := top 40
abbrev s__law_times_worlds : Stmt := top 50
abbrev s_closed : Stmt := top 13
abbrev s_is_broken : Stmt := top 24
abbrev s__law_chance : Stmt := top 47
abbrev s_holding_paper : Stmt := top 25
abbrev s__law_at : Stmt := top 48
abbrev s_judge_holding : Stmt := top 26
abbrev s_sayings_of : Stmt := top 27
abbrev s__law_fails_at : Stmt := top 49
abbrev s__law_spoilt : Stmt := top 43
abbrev s__law_bent : Stmt := top 44
abbrev s_law : Stmt := top 52
abbrev s_C_init : Stmt := inClass (top 12) 0
abbrev s_C_add : Stmt := inClass (top 12) 1
abbrev s_C_pair : Stmt := inClass (top 12) 2
abbrev s_C_close : Stmt := inClass (top 12) 3
/-- a method as it stands behind the top -/
structure MAt (K : PySem.W.Frag) (C : Addr) (x qual : Str) (st : Stmt) (ps : List Str) where
  f : Addr
  d : FuncData
  F : Fun K x qual st f d
  m : Meth K C x f
  b : Binds K d ps []
structure CAt (K : PySem.W.Frag) (mg : Str → Option Value) where
  C : Addr
  cl : Cls K C
  mC : mg "Closing" = some (.ref C)
  nW : NoAttr K C "way"
  nS : NoAttr K C "steps"
  nO : NoAttr K C "order"
  init : MAt K C "__init__" "Closing.__init__" s_C_init ["self", "given", "way"]
  add : MAt K C "add" "Closing.add" s_C_add ["self", "saying", "step"]
  pair : MAt K C "pair" "Closing.pair" s_C_pair ["self", "one", "two"]
  close : MAt K C "close" "Closing.close" s_C_close ["self"]
  M : Mk K C init.f
structure Top (K : PySem.W.Frag) (w : World) (P : Program) (mg : Str → Option Value) where
  D_is_integer : DefAt K mg "is_integer" "is_integer" s_is_integer ["value"]
  D_all_sayings : DefAt K mg "all_sayings" "all_sayings" s_all_sayings ["n"]
  D_parts_of : DefAt K mg "parts_of" "parts_of" s_parts_of ["things"]
  D_together : DefAt K mg "together" "together" s_together ["one", "two"]
  D_rest_of : DefAt K mg "rest_of" "rest_of" s_rest_of ["things", "part"]
  D_turned : DefAt K mg "turned" "turned" s_turned ["saying"]
  D_fraction : DefAt K mg "fraction" "fraction" s_fraction ["above", "below"]
  D_rows_of : DefAt K mg "rows_of" "rows_of" s_rows_of ["sizes"]
  D_fits : DefAt K mg "fits" "fits" s_fits ["row", "event"]
  D_event_of : DefAt K mg "event_of" "event_of" s_event_of ["row", "things"]
  D__law_start : DefAt K mg "_law_start" "_law_start" s__law_start ["script"]
  D__law_fill : DefAt K mg "_law_fill" "_law_fill" s__law_fill ["c"]
  D__law_is_int : DefAt K mg "_law_is_int" "_law_is_int" s__law_is_int ["value"]
  D__law_alike : DefAt K mg "_law_alike" "_law_alike" s__law_alike ["value", "due"]
  D__law_divisor : DefAt K mg "_law_divisor" "_law_divisor" s__law_divisor ["a", "b"]
  D__law_values : DefAt K mg "_law_values" "_law_values" s__law_values ["sizes"]
  D_weak : DefAt K mg "weak" "weak" s_weak ["saying", "part"]
  D_joined : DefAt K mg "joined" "joined" s_joined ["one", "two"]
  D_crossed : DefAt K mg "crossed" "crossed" s_crossed ["one", "two"]
  D_plus : DefAt K mg "plus" "plus" s_plus ["a", "b"]
  D_times : DefAt K mg "times" "times" s_times ["a", "b"]
  D__law_take : DefAt K mg "_law_take" "_law_take" s__law_take ["c", "many"]
  D__law_fraction : DefAt K mg "_law_fraction" "_law_fraction" s__law_fraction ["n", "d"]
  D__law_is_paper : DefAt K mg "_law_is_paper" "_law_is_paper" s__law_is_paper ["world", "saying", "fails", "value"]
  D_total : DefAt K mg "total" "total" s_total ["fractions"]
  D__law_plus : DefAt K mg "_law_plus" "_law_plus" s__law_plus ["a", "b"]
  D__law_times : DefAt K mg "_law_times" "_law_times" s__law_times ["a", "b"]
  D__law_world : DefAt K mg "_law_world" "_law_world" s__law_world ["c", "sizes"]
  D_chance : DefAt K mg "chance" "chance" s_chance ["world", "event"]
  D__law_total : DefAt K mg "_law_total" "_law_total" s__law_total ["row"]
  D__law_times_worlds : DefAt K mg "_law_times_worlds" "_law_times_worlds" s__law_times_worlds ["c", "sizes"]
  D_closed : DefAt K mg "closed" "closed" s_closed ["n", "given", "way"]
  D_is_broken : DefAt K mg "is_broken" "is_broken" s_is_broken ["world", "saying", "row"]
  D__law_chance : DefAt K mg "_law_chance" "_law_chance" s__law_chance ["world", "event"]
  D_holding_paper : DefAt K mg "holding_paper" "holding_paper" s_holding_paper ["world", "saying"]
  D__law_at : DefAt K mg "_law_at" "_law_at" s__law_at ["world", "variables", "row"]
  D_judge_holding : DefAt K mg "judge_holding" "judge_holding" s_judge_holding ["world", "saying", "value"]
  D_sayings_of : DefAt K mg "sayings_of" "sayings_of" s_sayings_of ["world"]
  D__law_fails_at : DefAt K mg "_law_fails_at" "_law_fails_at" s__law_fails_at ["world", "saying", "row"]
  D__law_spoilt : DefAt K mg "_law_spoilt" "_law_spoilt" s__law_spoilt ["c", "value"]
  D__law_bent : DefAt K mg "_law_bent" "_law_bent" s__law_bent ["c", "value", "turn"]
  D_law : DefAt K mg "law" "law" s_law ["script"]
  cl : CAt K mg
  z_abs : mg "abs" = none
  z_all : mg "all" = none
  z_any : mg "any" = none
  z_bool : mg "bool" = none
  z_enumerate : mg "enumerate" = none
  z_int : mg "int" = none
  z_isinstance : mg "isinstance" = none
  z_len : mg "len" = none
  z_list : mg "list" = none
  z_range : mg "range" = none
  z_repr : mg "repr" = none
  z_sorted : mg "sorted" = none
  z_str : mg "str" = none
  z_sum : mg "sum" = none
  z_tuple : mg "tuple" = none
  z_zip : mg "zip" = none
  g_gcd : mg "gcd" = some (.builtin "math.gcd")
section
variable {P : Program} {w : World} {K : PySem.W.Frag} {mg : Str → Option Value} {base : Heap}
theorem sc_is_integer : FnScope ["value"] ["value"] (defScope s_is_integer) := ⟨rfl, rfl, rfl, by decide +kernel, rfl, by decide +kernel, by decide +kernel⟩
def b_is_integer : Stm :=
    (sRet (eAn (eCB gIsi (aCons (bVar 0) (aCons (eC (.ty "int")) aNil))) (eNo (eCB gIsi (aCons (bVar 0) (aCons (eC (.ty "bool")) aNil))))))
def F_is_integer : Fn := fnD 1 b_is_integer
theorem ok_is_integer (T : Top K w P mg) : FnG P w K mg base 1 T.D_is_integer.f T.D_is_integer.d ["value"] (spD ⟨K, w, P⟩ 1 F_is_integer) := fnG_ok T.D_is_integer.F sc_is_integer (by decide) fun cdv A outer s H E hG hr =>
    (ss_one (st_ret (e_and (e_cb (pe_callB call_isi (by rfl) T.z_isinstance bt_isinstance (aq_cons (b_var (pv 0)) (aq_cons (b_of (e_ty (by rfl) T.z_int bt_int)) aq_nil))) isi_d) (e_one (e_not (b_of (e_cb (pe_callB call_isi (by rfl) T.z_isinstance bt_isinstance (aq_cons (b_var (pv 0)) (aq_cons (b_of (e_ty (by rfl) T.z_bool bt_bool)) aq_nil))) isi_d)))))))
theorem sc_all_sayings : FnScope ["n", "rows", "a", "row", "i"] ["n"] (defScope s_all_sayings) := ⟨rfl, rfl, rfl, by decide +kernel, rfl, by decide +kernel, by decide +kernel⟩
def b_all_sayings : Stm :=
    (sSeq (sAsg (eLst (aCons (eTup (aCons (eTup aNil) (aCons (eTup aNil) (aCons (eTup aNil) aNil)))) aNil)) (gNm 1))
    (sSeq (sFor (iRng (aCons (bVar 0) aNil)) (gNm 2)
    (sAsg (eLc2 (iSeq (bVar 1)) (gNm 3) tYs (iRng (aCons (eC (.int 4)) aNil)) (gNm 4) tYs (eIf (tBl (eBin D.lt (bVar 4) (eC (.int 3)))) (eBin D.add (eBin D.add (eSl D.slice (bVar 3) pNo (pIs (bVar 4))) (eTup (aCons (eBin D.add (eBin D.ix (bVar 3) (bVar 4)) (eTup (aCons (eVar 2) aNil))) aNil))) (eSl D.slice (bVar 3) (pIs (eBin D.add (bVar 4) (eC (.int 1)))) pNo)) (eVar 3)) [3, 4] [4]) (gNm 1)))
    (sRet (eCB gTuple (aCons (eCB gSorted (aCons (eLc (iSeq (bVar 1)) (gNm 3) (tAn (tTru (eBin D.ix (bVar 3) (eC (.int 0)))) (tTru (eBin D.ix (bVar 3) (eC (.int 1))))) (eVar 3) [3]) aNil)) aNil)))))
def F_all_sayings : Fn := fnD 5 b_all_sayings
theorem ok_all_sayings (T : Top K w P mg) : FnG P w K mg base 1 T.D_all_sayings.f T.D_all_sayings.d ["n"] (spD ⟨K, w, P⟩ 1 F_all_sayings) := fnG_ok T.D_all_sayings.F sc_all_sayings (by decide) fun cdv A outer s H E hG hr =>
    (ss_cons (st_set (ps_set (i := 1) sc_all_sayings.nd rfl (by first | exact Or.inl rfl | exact Or.inr rfl) (e_of (n_lst (a_cons (e_tup (a_cons (e_tup a_nil) (a_cons (e_tup a_nil) (a_cons (e_tup a_nil) a_nil)))) a_nil)))))
    (ss_cons (st_for (vs := [2]) PassesOwn.never rfl (it_range1 (pi_range1 (by rfl) T.z_range (aq_cons (b_var (pv 0)) aq_nil)) (alS al0)) (g_name (pg_name sc_all_sayings.nd rfl (by first | exact Or.inl rfl | exact Or.inr rfl)) (by decide))
    (ss_one (st_set (asg_imp (ps_setLc2 (i := 1) (own := [("row", 3), ("i", 4)]) (vs1 := [4]) rfl sc_all_sayings.nd rfl rfl (by rfl) (ib_seq (b_var (pv 1))) (blkOk_by (by kernel_rfl)) (by decide) (fun _ _ _ _ _ => (g_name (pg_name sc_all_sayings.nd rfl (by first | exact Or.inl rfl | exact Or.inr rfl)) (by decide))) (fun _ _ _ _ _ => ts_nil) (fun _ _ _ _ _ => (it_range1 (pi_range1 (by rfl) T.z_range (aq_cons (b_of e_int) aq_nil)) (alS al0))) (fun _ _ _ _ _ => (g_name (pg_name sc_all_sayings.nd rfl (by first | exact Or.inl rfl | exact Or.inr rfl)) (by decide))) (fun _ _ _ _ _ => ts_nil) (fun _ _ _ _ _ => (e_if (t_cmp op_lt lt_d (b_var (pv 4)) (b_of e_int)) (e_bin op_addD add_d (b_of (e_bin op_addD add_d (b_of (e_sl sl_slice slice_d (b_var (pv 3)) p_no (p_is (b_var (pv 4))))) (b_of (e_tup (a_cons (e_bin op_addD add_d (b_of (e_ix (b_var (pv 3)) (b_var (pv 4)))) (b_of (e_tup (a_cons (e_var (pv 2)) a_nil)))) a_nil))))) (b_of (e_sl sl_slice slice_d (b_var (pv 3)) (p_is (b_of (e_bin op_addD add_d (b_var (pv 4)) (b_of e_int)))) p_no))) (e_var (pv 3))))) fun _ _ _ h => lc2_f (tF_D h)))))
    (ss_one (st_ret (e_cb (pe_callTy call_tupleZ (by rfl) T.z_tuple bt_tuple (aq_cons (b_of (e_of (n_cb (pe_callB (cr_sortedD hr.units) (by rfl) T.z_sorted bt_sorted (aq_cons (b_of (e_of (n_lc (own := [("row", 3)]) rfl sc_all_sayings.nd (ib_seq (b_var (pv 1))) (blkOk_by (by kernel_rfl)) (fun _ _ _ _ _ => (g_name (pg_name sc_all_sayings.nd rfl (by first | exact Or.inl rfl | exact Or.inr rfl)) (by decide))) (fun _ _ _ _ _ => (ts_one (PW.pt (tw_and (t_tru (b_of (e_ix (b_var (pv 3)) (b_of e_int)))) (tw_and1 (t_tru (b_of (e_ix (b_var (pv 3)) (b_of e_int))))))))) (fun _ _ _ _ _ => (e_var (pv 3)))))) aq_nil)) sorted_f))) aq_nil)) tuple_d)))))
theorem sc_parts_of : FnScope ["things", "found", "a", "one"] ["things"] (defScope s_parts_of) := ⟨rfl, rfl, rfl, by decide +kernel, rfl, by decide +kernel, by decide +kernel⟩
def b_parts_of : Stm :=
    (sSeq (sAsg (eLst (aCons (eTup aNil) aNil)) (gNm 1))
    (sSeq (sFor (iSeq (eVar 0)) (gNm 2)
    (sAsg (eBin D.add (bVar 1) (eLc (iSeq (bVar 1)) (gNm 3) tYs (eBin D.add (bVar 3) (eTup (aCons (eVar 2) aNil))) [3])) (gNm 1)))
    (sRet (eCB gSorted (aCons (eLc (iSeq (bVar 1)) (gNm 3) (tBl (eChain D.lt D.lt (eC (.int 0)) (eCB gLen (aCons (bVar 3) aNil)) (eCB gLen (aCons (bVar 0) aNil)))) (eVar 3) [3]) aNil)))))
def F_parts_of : Fn := fnD 4 b_parts_of
theorem ok_parts_of (T : Top K w P mg) : FnG P w K mg base 1 T.D_parts_of.f T.D_parts_of.d ["things"] (spD ⟨K, w, P⟩ 1 F_parts_of) := fnG_ok T.D_parts_of.F sc_parts_of (by decide) fun cdv A outer s H E hG hr =>
    (ss_cons (st_set (ps_set (i := 1) sc_parts_of.nd rfl (by first | exact Or.inl rfl | exact Or.inr rfl) (e_of (n_lst (a_cons (e_tup a_nil) a_nil)))))
    (ss_cons (st_for (vs := [2]) PassesOwn.never rfl (it_seq (e_var (pv 0))) (g_name (pg_name sc_parts_of.nd rfl (by first | exact Or.inl rfl | exact Or.inr rfl)) (by decide))
    (ss_one (st_set (ps_set (i := 1) sc_parts_of.nd rfl (by first | exact Or.inl rfl | exact Or.inr rfl) (e_bin op_addD add_d (b_var (pv 1)) (b_of (e_of (n_lc (own := [("one", 3)]) rfl sc_parts_of.nd (ib_seq (b_var (pv 1))) (blkOk_by (by kernel_rfl)) (fun _ _ _ _ _ => (g_name (pg_name sc_parts_of.nd rfl (by first | exact Or.inl rfl | exact Or.inr rfl)) (by decide))) (fun _ _ _ _ _ => ts_nil) (fun _ _ _ _ _ => (e_bin op_addD add_d (b_var (pv 3)) (b_of (e_tup (a_cons (e_var (pv 2)) a_nil)))))))))))))
    (ss_one (st_ret (e_of (n_cb (pe_callB (cr_sortedD hr.units) (by rfl) T.z_sorted bt_sorted (aq_cons (b_of (e_of (n_lc (own := [("one", 3)]) rfl sc_parts_of.nd (ib_seq (b_var (pv 1))) (blkOk_by (by kernel_rfl)) (fun _ _ _ _ _ => (g_name (pg_name sc_parts_of.nd rfl (by first | exact Or.inl rfl | exact Or.inr rfl)) (by decide))) (fun _ _ _ _ _ => (ts_one (t_chain op_lt lt_d op_lt lt_d (b_of e_int) (b_of (e_cb (pe_callB call_len (by rfl) T.z_len bt_len (aq_cons (b_var (pv 3)) aq_nil)) len_d)) (b_of (e_cb (pe_callB call_len (by rfl) T.z_len bt_len (aq_cons (b_var (pv 0)) aq_nil)) len_d))))) (fun _ _ _ _ _ => (e_var (pv 3)))))) aq_nil)) sorted_f))))))
theorem sc_together : FnScope ["one", "two"] ["one", "two"] (defScope s_together) := ⟨rfl, rfl, rfl, by decide +kernel, rfl, by decide +kernel, by decide +kernel⟩
def b_together : Stm :=
    (sRet (eCB gTuple (aCons (eCB gSorted (aCons (eBin D.add (bVar 0) (bVar 1)) aNil)) aNil)))
def F_together : Fn := fnD 2 b_together
theorem ok_together (T : Top K w P mg) : FnG P w K mg base 1 T.D_together.f T.D_together.d ["one", "two"] (spD ⟨K, w, P⟩ 2 F_together) := fnG_ok T.D_together.F sc_together (by decide) fun cdv A outer s H E hG hr =>
    (ss_one (st_ret (e_cb (pe_callTy call_tupleZ (by rfl) T.z_tuple bt_tuple (aq_cons (b_of (e_of (n_cb (pe_callB (cr_sortedD hr.units) (by rfl) T.z_sorted bt_sorted (aq_cons (b_of (e_bin op_addD add_d (b_var (pv 0)) (b_var (pv 1)))) aq_nil)) sorted_f))) aq_nil)) tuple_d)))
theorem sc_rest_of : FnScope ["things", "part", "a"] ["things", "part"] (defScope s_rest_of) := ⟨rfl, rfl, rfl, by decide +kernel, rfl, by decide +kernel, by decide +kernel⟩
def b_rest_of : Stm :=
    (sRet (eCB gTuple (aCons (eLc (iSeq (bVar 0)) (gNm 2) (tBl (eBin D.notInA (bVar 2) (bVar 1))) (eVar 2) [2]) aNil)))
def F_rest_of : Fn := fnD 3 b_rest_of
theorem ok_rest_of (T : Top K w P mg) : FnG P w K mg base 1 T.D_rest_of.f T.D_rest_of.d ["things", "part"] (spD ⟨K, w, P⟩ 2 F_rest_of) := fnG_ok T.D_rest_of.F sc_rest_of (by decide) fun cdv A outer s H E hG hr =>
    (ss_one (st_ret (e_cb (pe_callTy call_tupleZ (by rfl) T.z_tuple bt_tuple (aq_cons (b_of (e_of (n_lc (own := [("a", 2)]) rfl sc_rest_of.nd (ib_seq (b_var (pv 0))) (blkOk_by (by kernel_rfl)) (fun _ _ _ _ _ => (g_name (pg_name sc_rest_of.nd rfl (by first | exact Or.inl rfl | exact Or.inr rfl)) (by decide))) (fun _ _ _ _ _ => (ts_one (t_cmp (op_notInA hr.units) notInA_d (b_var (pv 2)) (b_var (pv 1))))) (fun _ _ _ _ _ => (e_var (pv 2)))))) aq_nil)) tuple_d)))
theorem sc_turned : FnScope ["saying"] ["saying"] (defScope s_turned) := ⟨rfl, rfl, rfl, by decide +kernel, rfl, by decide +kernel, by decide +kernel⟩
def b_turned : Stm :=
    (sRet (eTup (aCons (eBin D.ix (bVar 0) (eC (.int 1))) (aCons (eBin D.ix (bVar 0) (eC (.int 0))) (aCons (eBin D.ix (bVar 0) (eC (.int 2))) aNil)))))
def F_turned : Fn := fnD 1 b_turned
theorem ok_turned (T : Top K w P mg) : FnG P w K mg base 1 T.D_turned.f T.D_turned.d ["saying"] (spD ⟨K, w, P⟩ 1 F_turned) := fnG_ok T.D_turned.F sc_turned (by decide) fun cdv A outer s H E hG hr =>
    (ss_one (st_ret (e_tup (a_cons (e_ix (b_var (pv 0)) (b_of e_int)) (a_cons (e_ix (b_var (pv 0)) (b_of e_int)) (a_cons (e_ix (b_var (pv 0)) (b_of e_int)) a_nil))))))
theorem sc_fraction : FnScope ["above", "below", "g"] ["above", "below"] (defScope s_fraction) := ⟨rfl, rfl, rfl, by decide +kernel, rfl, by decide +kernel, by decide +kernel⟩
def b_fraction : Stm :=
    (sSeq (sAsg (eCB gGcd (aCons (bVar 0) (aCons (bVar 1) aNil))) (gNm 2))
    (sRet (eTup (aCons (eBin D.fdiv (bVar 0) (bVar 2)) (aCons (eBin D.fdiv (bVar 1) (bVar 2)) aNil)))))
def F_fraction : Fn := fnD 3 b_fraction
theorem ok_fraction (T : Top K w P mg) : FnG P w K mg base 1 T.D_fraction.f T.D_fraction.d ["above", "below"] (spD ⟨K, w, P⟩ 2 F_fraction) := fnG_ok T.D_fraction.F sc_fraction (by decide) fun cdv A outer s H E hG hr =>
    (ss_cons (st_set (ps_set (i := 2) sc_fraction.nd rfl (by first | exact Or.inl rfl | exact Or.inr rfl) (e_cb (pe_callBfun cr_gcd (by rfl) T.g_gcd (aq_cons (b_var (pv 0)) (aq_cons (b_var (pv 1)) aq_nil))) gcd_d)))
    (ss_one (st_ret (e_tup (a_cons (e_bin op_fdivW fdiv_d (b_var (pv 0)) (b_var (pv 2))) (a_cons (e_bin op_fdivW fdiv_d (b_var (pv 1)) (b_var (pv 2))) a_nil))))))
theorem sc_rows_of : FnScope ["sizes", "found", "size", "row", "x"] ["sizes"] (defScope s_rows_of) := ⟨rfl, rfl, rfl, by decide +kernel, rfl, by decide +kernel, by decide +kernel⟩
def b_rows_of : Stm :=
    (sSeq (sAsg (eLst (aCons (eTup aNil) aNil)) (gNm 1))
    (sSeq (sFor (iSeq (eVar 0)) (gNm 2)
    (sAsg (eLc2 (iSeq (bVar 1)) (gNm 3) tYs (iRng (aCons (bVar 2) aNil)) (gNm 4) tYs (eBin D.add (bVar 3) (eTup (aCons (eVar 4) aNil))) [3, 4] [4]) (gNm 1)))
    (sRet (eCB gTuple (aCons (bVar 1) aNil)))))
def F_rows_of : Fn := fnD 5 b_rows_of
theorem ok_rows_of (T : Top K w P mg) : FnG P w K mg base 1 T.D_rows_of.f T.D_rows_of.d ["sizes"] (spD ⟨K, w, P⟩ 1 F_rows_of) := fnG_ok T.D_rows_of.F sc_rows_of (by decide) fun cdv A outer s H E hG hr =>
    (ss_cons (st_set (ps_set (i := 1) sc_rows_of.nd rfl (by first | exact Or.inl rfl | exact Or.inr rfl) (e_of (n_lst (a_cons (e_tup a_nil) a_nil)))))
    (ss_cons (st_for (vs := [2]) PassesOwn.never rfl (it_seq (e_var (pv 0))) (g_name (pg_name sc_rows_of.nd rfl (by first | exact Or.inl rfl | exact Or.inr rfl)) (by decide))
    (ss_one (st_set (asg_imp (ps_setLc2 (i := 1) (own := [("row", 3), ("x", 4)]) (vs1 := [4]) rfl sc_rows_of.nd rfl rfl (by rfl) (ib_seq (b_var (pv 1))) (blkOk_by (by kernel_rfl)) (by decide) (fun _ _ _ _ _ => (g_name (pg_name sc_rows_of.nd rfl (by first | exact Or.inl rfl | exact Or.inr rfl)) (by decide))) (fun _ _ _ _ _ => ts_nil) (fun _ _ _ _ _ => (it_range1 (pi_range1 (by rfl) T.z_range (aq_cons (b_var (pv 2)) aq_nil)) (alS al0))) (fun _ _ _ _ _ => (g_name (pg_name sc_rows_of.nd rfl (by first | exact Or.inl rfl | exact Or.inr rfl)) (by decide))) (fun _ _ _ _ _ => ts_nil) (fun _ _ _ _ _ => (e_bin op_addD add_d (b_var (pv 3)) (b_of (e_tup (a_cons (e_var (pv 4)) a_nil)))))) fun _ _ _ h => lc2_f (tF_D h)))))
    (ss_one (st_ret (e_cb (pe_callTy call_tupleZ (by rfl) T.z_tuple bt_tuple (aq_cons (b_var (pv 1)) aq_nil)) tuple_d)))))
theorem sc_fits : FnScope ["row", "event", "v", "x"] ["row", "event"] (defScope s_fits) := ⟨rfl, rfl, rfl, by decide +kernel, rfl, by decide +kernel, by decide +kernel⟩
def b_fits : Stm :=
    (sRet (eCB gAll (aCons (eLc (iSeq (bVar 1)) (gTp 2 (gsCons (gNm 2) (gsCons (gNm 3) gsNil))) tYs (eBin D.eq (eBin D.ix (bVar 0) (bVar 2)) (bVar 3)) [2, 3]) aNil)))
def F_fits : Fn := fnD 4 b_fits
theorem ok_fits (T : Top K w P mg) : FnG P w K mg base 1 T.D_fits.f T.D_fits.d ["row", "event"] (spD ⟨K, w, P⟩ 2 F_fits) := fnG_ok T.D_fits.F sc_fits (by decide) fun cdv A outer s H E hG hr =>
    (ss_one (st_ret (e_cb (pe_callB (cr_all (by rfl)) (by rfl) T.z_all bt_all (aq_cons (b_of (e_of (n_lc (own := [("v", 2), ("x", 3)]) rfl sc_fits.nd (ib_seq (b_var (pv 1))) (blkOk_by (by kernel_rfl)) (fun _ _ _ _ _ => (g_tup rfl (gs_cons (g_name (pg_name sc_fits.nd rfl (by first | exact Or.inl rfl | exact Or.inr rfl)) (by decide)) (gs_cons (g_name (pg_name sc_fits.nd rfl (by first | exact Or.inl rfl | exact Or.inr rfl)) (by decide)) gs_nil)))) (fun _ _ _ _ _ => ts_nil) (fun _ _ _ _ _ => (e_cmp (op_eqP hr.units) eq_d (b_of (e_ix (b_var (pv 0)) (b_var (pv 2)))) (b_var (pv 3))))))) aq_nil)) all_d)))
theorem sc_event_of : FnScope ["row", "things", "a"] ["row", "things"] (defScope s_event_of) := ⟨rfl, rfl, rfl, by decide +kernel, rfl, by decide +kernel, by decide +kernel⟩
def b_event_of : Stm :=
    (sRet (eCB gTuple (aCons (eLc (iSeq (eCB gSorted (aCons (bVar 1) aNil))) (gNm 2) tYs (eTup (aCons (eVar 2) (aCons (eBin D.ix (bVar 0) (bVar 2)) aNil))) [2]) aNil)))
def F_event_of : Fn := fnD 3 b_event_of
theorem ok_event_of (T : Top K w P mg) : FnG P w K mg base 1 T.D_event_of.f T.D_event_of.d ["row", "things"] (spD ⟨K, w, P⟩ 2 F_event_of) := fnG_ok T.D_event_of.F sc_event_of (by decide) fun cdv A outer s H E hG hr =>
    (ss_one (st_ret (e_cb (pe_callTy call_tupleZ (by rfl) T.z_tuple bt_tuple (aq_cons (b_of (e_of (n_lc (own := [("a", 2)]) rfl sc_event_of.nd (ib_seq (b_of (e_of (n_cb (pe_callB (cr_sortedD hr.units) (by rfl) T.z_sorted bt_sorted (aq_cons (b_var (pv 1)) aq_nil)) sorted_f)))) (blkOk_by (by kernel_rfl)) (fun _ _ _ _ _ => (g_name (pg_name sc_event_of.nd rfl (by first | exact Or.inl rfl | exact Or.inr rfl)) (by decide))) (fun _ _ _ _ _ => ts_nil) (fun _ _ _ _ _ => (e_tup (a_cons (e_var (pv 2)) (a_cons (e_ix (b_var (pv 0)) (b_var (pv 2))) a_nil))))))) aq_nil)) tuple_d)))
theorem sc__law_start : FnScope ["script", "cell"] ["script"] (defScope s__law_start) := ⟨rfl, rfl, rfl, by decide +kernel, rfl, by decide +kernel, by decide +kernel⟩
def b__law_start : Ex :=
    (eLst (aCons (eLc (iSeq (eSl D.slice (bVar 0) pNo (pIs (eC (.int 63))))) (gNm 1) tYs (eCB gInt (aCons (bVar 1) aNil)) [1]) (aCons (eC (.int 0)) (aCons (eC (.int 0)) (aCons (eC (.int 0)) (aCons (eC (.int 20)) aNil))))))
def F__law_start : Fn := fnE 2 b__law_start
theorem ok__law_start (T : Top K w P mg) : FnG P w K mg base 1 T.D__law_start.f T.D__law_start.d ["script"] (spN ⟨K, w, P⟩ 1 F__law_start) := fnGN_ok T.D__law_start.F sc__law_start (by decide) fun cdv A outer s H E hG hr =>
    ret_n (n_lst (a_cons (e_of (n_lc (own := [("cell", 1)]) rfl sc__law_start.nd (ib_seq (b_of (e_sl sl_slice slice_d (b_var (pv 0)) p_no (p_is (b_of e_int))))) (blkOk_by (by kernel_rfl)) (fun _ _ _ _ _ => (g_name (pg_name sc__law_start.nd rfl (by first | exact Or.inl rfl | exact Or.inr rfl)) (by decide))) (fun _ _ _ _ _ => ts_nil) (fun _ _ _ _ _ => (e_cb (pe_callTy call_int1 (by rfl) T.z_int bt_int (aq_cons (b_var (pv 1)) aq_nil)) int_c)))) (a_cons e_int (a_cons e_int (a_cons e_int (a_cons e_int a_nil))))))
theorem sc__law_fill : FnScope ["c", "number"] ["c"] (defScope s__law_fill) := ⟨rfl, rfl, rfl, by decide +kernel, rfl, by decide +kernel, by decide +kernel⟩
def b__law_fill : Stm :=
    (sSeq (sSetR (eVar 0) (eBin D.add (eIxR (eVar 0) (eC (.int 3))) (eC (.int 1))) (eC (.int 3)))
    (sSeq (sAsg (eBin D.add (eBin D.mul (eIxR (eVar 0) (eC (.int 3))) (eC (.int 69621))) (eC (.int 12345))) (gNm 1))
    (sSeq (sIf (tBl (eBin D.lt (eIxR (eVar 0) (eC (.int 1))) (eCB gLen (aCons (eIxR (eVar 0) (eC (.int 0))) aNil)))) (sSeq (sAsg (eBin D.ix (eIxR (eVar 0) (eC (.int 0))) (eIxR (eVar 0) (eC (.int 1)))) (gNm 1))
    (sSeq (sSetR (eVar 0) (eBin D.add (eIxR (eVar 0) (eC (.int 1))) (eC (.int 1))) (eC (.int 1)))
    (sSeq (sIf (tBl (eBin D.lt (bVar 1) (eC (.int 0)))) (sAsg (eBin D.sub (eBin D.sub (eC (.int 0)) (eC (.int 1))) (bVar 1)) (gNm 1)) sNx)
    (sIf (tBl (eBin D.ge (bVar 1) (eBin D.pow (eC (.int 10)) (eC (.int 18))))) (sRet (eVar 1)) sNx)))) sNx)
    (sSeq (sIf (tAn (tTru (eIxR (eVar 0) (eC (.int 0)))) (tBl (eBin D.ge (eIxR (eVar 0) (eC (.int 1))) (eCB gLen (aCons (eIxR (eVar 0) (eC (.int 0))) aNil))))) (sAsg (eBin D.add (bVar 1) (eBin D.mod (eCB gInt (aCons (eBin D.ix (eIxR (eVar 0) (eC (.int 0))) (eUn D.neg (eC (.int 1)))) aNil)) (eC (.int 1000003)))) (gNm 1)) sNx)
    (sSeq (sAsg (eBin D.mod (eCB gInt (aCons (eBin D.add (eBin D.mul (bVar 1) (eC (.int 48271))) (eBin D.mul (eIxR (eVar 0) (eC (.int 3))) (eC (.int 69621)))) aNil)) (eC (.int 2147483647))) (gNm 1))
    (sRet (eBin D.add (eBin D.fdiv (eCB gInt (aCons (eBin D.add (eBin D.add (eBin D.mul (bVar 1) (bVar 1)) (eBin D.mul (eIxR (eVar 0) (eC (.int 3))) (eC (.int 7919)))) (eC (.int 11))) aNil)) (eC (.int 64))) (eC (.int 36028797018963968)))))))))
def F__law_fill : Fn := fnD 2 b__law_fill
theorem ok__law_fill (T : Top K w P mg) : FnG P w K mg base 1 T.D__law_fill.f T.D__law_fill.d ["c"] (spD ⟨K, w, P⟩ 1 F__law_fill) := fnG_ok T.D__law_fill.F sc__law_fill (by decide) fun cdv A outer s H E hG hr =>
    (ss_cons (st_setR (ps_asg (e_bin op_addD add_d (b_of (e_ixR (e_var (pv 0)) (b_of e_int))) (b_of e_int)) (pg_sub (e_var (pv 0)) (b_of e_int) set_list)))
    (ss_cons (st_set (ps_set (i := 1) sc__law_fill.nd rfl (by first | exact Or.inl rfl | exact Or.inr rfl) (e_bin op_addD add_d (b_of (e_bin op_mulW mul_d (b_of (e_ixR (e_var (pv 0)) (b_of e_int))) (b_of e_int))) (b_of e_int))))
    (ss_cons (st_if (t_cmp op_lt lt_d (b_of (e_ixR (e_var (pv 0)) (b_of e_int))) (b_of (e_cb (pe_callB call_len (by rfl) T.z_len bt_len (aq_cons (b_of (e_ixR (e_var (pv 0)) (b_of e_int))) aq_nil)) len_d))) (ss_cons (st_set (ps_set (i := 1) sc__law_fill.nd rfl (by first | exact Or.inl rfl | exact Or.inr rfl) (e_ix (b_of (e_ixR (e_var (pv 0)) (b_of e_int))) (b_of (e_ixR (e_var (pv 0)) (b_of e_int))))))
    (ss_cons (st_setR (ps_asg (e_bin op_addD add_d (b_of (e_ixR (e_var (pv 0)) (b_of e_int))) (b_of e_int)) (pg_sub (e_var (pv 0)) (b_of e_int) set_list)))
    (ss_cons (st_if (t_cmp op_lt lt_d (b_var (pv 1)) (b_of e_int)) (ss_one (st_set (ps_set (i := 1) sc__law_fill.nd rfl (by first | exact Or.inl rfl | exact Or.inr rfl) (e_bin op_sub sub_d (b_of (e_bin op_sub sub_d (b_of e_int) (b_of e_int))) (b_var (pv 1)))))) ss_nil)
    (ss_one (st_if (t_cmp op_ge ge_d (b_var (pv 1)) (b_of (e_bin op_pow pow_d (b_of e_int) (b_of e_int)))) (ss_one (st_ret (e_var (pv 1)))) ss_nil))))) ss_nil)
    (ss_cons (st_if (PW.pt (tw_and (t_tru (b_of (e_ixR (e_var (pv 0)) (b_of e_int)))) (tw_and1 (t_cmp op_ge ge_d (b_of (e_ixR (e_var (pv 0)) (b_of e_int))) (b_of (e_cb (pe_callB call_len (by rfl) T.z_len bt_len (aq_cons (b_of (e_ixR (e_var (pv 0)) (b_of e_int))) aq_nil)) len_d)))))) (ss_one (st_set (ps_set (i := 1) sc__law_fill.nd rfl (by first | exact Or.inl rfl | exact Or.inr rfl) (e_bin op_addD add_d (b_var (pv 1)) (b_of (e_bin op_modN mod_d (b_of (e_cb (pe_callTy call_int1 (by rfl) T.z_int bt_int (aq_cons (b_of (e_ix (b_of (e_ixR (e_var (pv 0)) (b_of e_int))) (b_of (e_neg (b_of e_int))))) aq_nil)) int_c)) (b_of e_int))))))) ss_nil)
    (ss_cons (st_set (ps_set (i := 1) sc__law_fill.nd rfl (by first | exact Or.inl rfl | exact Or.inr rfl) (e_bin op_modN mod_d (b_of (e_cb (pe_callTy call_int1 (by rfl) T.z_int bt_int (aq_cons (b_of (e_bin op_addD add_d (b_of (e_bin op_mulW mul_d (b_var (pv 1)) (b_of e_int))) (b_of (e_bin op_mulW mul_d (b_of (e_ixR (e_var (pv 0)) (b_of e_int))) (b_of e_int))))) aq_nil)) int_c)) (b_of e_int))))
    (ss_one (st_ret (e_bin op_addD add_d (b_of (e_bin op_fdivW fdiv_d (b_of (e_cb (pe_callTy call_int1 (by rfl) T.z_int bt_int (aq_cons (b_of (e_bin op_addD add_d (b_of (e_bin op_addD add_d (b_of (e_bin op_mulW mul_d (b_var (pv 1)) (b_var (pv 1)))) (b_of (e_bin op_mulW mul_d (b_of (e_ixR (e_var (pv 0)) (b_of e_int))) (b_of e_int))))) (b_of e_int))) aq_nil)) int_c)) (b_of e_int))) (b_of e_int)))))))))
theorem sc__law_is_int : FnScope ["value"] ["value"] (defScope s__law_is_int) := ⟨rfl, rfl, rfl, by decide +kernel, rfl, by decide +kernel, by decide +kernel⟩
def b__law_is_int : Stm :=
    (sRet (eAn (eCB gIsi (aCons (bVar 0) (aCons (eC (.ty "int")) aNil))) (eNo (eCB gIsi (aCons (bVar 0) (aCons (eC (.ty "bool")) aNil))))))
def F__law_is_int : Fn := fnD 1 b__law_is_int
theorem ok__law_is_int (T : Top K w P mg) : FnG P w K mg base 1 T.D__law_is_int.f T.D__law_is_int.d ["value"] (spD ⟨K, w, P⟩ 1 F__law_is_int) := fnG_ok T.D__law_is_int.F sc__law_is_int (by decide) fun cdv A outer s H E hG hr =>
    (ss_one (st_ret (e_and (e_cb (pe_callB call_isi (by rfl) T.z_isinstance bt_isinstance (aq_cons (b_var (pv 0)) (aq_cons (b_of (e_ty (by rfl) T.z_int bt_int)) aq_nil))) isi_d) (e_one (e_not (b_of (e_cb (pe_callB call_isi (by rfl) T.z_isinstance bt_isinstance (aq_cons (b_var (pv 0)) (aq_cons (b_of (e_ty (by rfl) T.z_bool bt_bool)) aq_nil))) isi_d)))))))
theorem sc__law_alike : FnScope ["value", "due"] ["value", "due"] (defScope s__law_alike) := ⟨rfl, rfl, rfl, by decide +kernel, rfl, by decide +kernel, by decide +kernel⟩
def b__law_alike : Stm :=
    (sRet (eBin D.eq (eCB gRepr (aCons (bVar 0) aNil)) (eCB gRepr (aCons (bVar 1) aNil))))
def F__law_alike : Fn := fnD 2 b__law_alike
theorem ok__law_alike (T : Top K w P mg) : FnG P w K mg base 1 T.D__law_alike.f T.D__law_alike.d ["value", "due"] (spD ⟨K, w, P⟩ 2 F__law_alike) := fnG_ok T.D__law_alike.F sc__law_alike (by decide) fun cdv A outer s H E hG hr =>
    (ss_one (st_ret (e_cmp (op_eqP hr.units) eq_d (b_of (e_cb (pe_callB (call_repr hG hr.units) (by rfl) T.z_repr bt_repr (aq_cons (b_var (pv 0)) aq_nil)) repr_d)) (b_of (e_cb (pe_callB (call_repr hG hr.units) (by rfl) T.z_repr bt_repr (aq_cons (b_var (pv 1)) aq_nil)) repr_d)))))
theorem sc__law_divisor : FnScope ["a", "b", "turn"] ["a", "b"] (defScope s__law_divisor) := ⟨rfl, rfl, rfl, by decide +kernel, rfl, by decide +kernel, by decide +kernel⟩
def b__law_divisor : Stm :=
    (sSeq (sFor (iRng (aCons (eC (.int 20000)) aNil)) (gNm 2)
    (sSeq (sIf (tBl (eBin D.eq (bVar 1) (eC (.int 0)))) (sRet (eCB gAbs (aCons (bVar 0) aNil))) sNx)
    (sPar 0 1 (aCons (eVar 1) (aCons (eBin D.mod (bVar 0) (bVar 1)) aNil)))))
    (sRet (eC (.int 1))))
def F__law_divisor : Fn := fnD 3 b__law_divisor
theorem ok__law_divisor (T : Top K w P mg) : FnG P w K mg base 1 T.D__law_divisor.f T.D__law_divisor.d ["a", "b"] (spD ⟨K, w, P⟩ 2 F__law_divisor) := fnG_ok T.D__law_divisor.F sc__law_divisor (by decide) fun cdv A outer s H E hG hr =>
    (ss_cons (st_for (vs := [2]) PassesOwn.never rfl (it_range1 (pi_range1 (by rfl) T.z_range (aq_cons (b_of e_int) aq_nil)) (alS al0)) (g_name (pg_name sc__law_divisor.nd rfl (by first | exact Or.inl rfl | exact Or.inr rfl)) (by decide))
    (ss_cons (st_if (t_cmp (op_eqP hr.units) eq_d (b_var (pv 1)) (b_of e_int)) (ss_one (st_ret (e_cb (pe_callB call_abs (by rfl) T.z_abs bt_abs (aq_cons (b_var (pv 0)) aq_nil)) abs_d))) ss_nil)
    (ss_one (st_par (ps_par (i := 0) (j := 1) rfl sc__law_divisor.nd rfl rfl (by decide) rfl rfl (a_cons (e_var (pv 1)) (a_cons (e_bin op_modN mod_d (b_var (pv 0)) (b_var (pv 1))) a_nil)) (by rfl))))))
    (ss_one (st_ret e_int)))
theorem sc__law_values : FnScope ["sizes", "found", "size", "more", "row", "x"] ["sizes"] (defScope s__law_values) := ⟨rfl, rfl, rfl, by decide +kernel, rfl, by decide +kernel, by decide +kernel⟩
def b__law_values : Stm :=
    (sSeq (sAsg (eLst (aCons (eTup aNil) aNil)) (gNm 1))
    (sSeq (sFor (iSeq (eVar 0)) (gNm 2)
    (sSeq (sAsg (eLst aNil) (gNm 3))
    (sSeq (sFor (iSeq (eVar 1)) (gNm 4)
    (sAsg (eBin D.add (bVar 3) (eLc (iRng (aCons (bVar 2) aNil)) (gNm 5) tYs (eBin D.add (bVar 4) (eTup (aCons (eVar 5) aNil))) [5])) (gNm 3)))
    (sAsg (eVar 3) (gNm 1)))))
    (sRet (eVar 1))))
def F__law_values : Fn := fnD 6 b__law_values
theorem ok__law_values (T : Top K w P mg) : FnG P w K mg base 1 T.D__law_values.f T.D__law_values.d ["sizes"] (spD ⟨K, w, P⟩ 1 F__law_values) := fnG_ok T.D__law_values.F sc__law_values (by decide) fun cdv A outer s H E hG hr =>
    (ss_cons (st_set (ps_set (i := 1) sc__law_values.nd rfl (by first | exact Or.inl rfl | exact Or.inr rfl) (e_of (n_lst (a_cons (e_tup a_nil) a_nil)))))
    (ss_cons (st_for (vs := [2]) PassesOwn.never rfl (it_seq (e_var (pv 0))) (g_name (pg_name sc__law_values.nd rfl (by first | exact Or.inl rfl | exact Or.inr rfl)) (by decide))
    (ss_cons (st_set (ps_set (i := 3) sc__law_values.nd rfl (by first | exact Or.inl rfl | exact Or.inr rfl) (e_of (n_lst a_nil))))
    (ss_cons (st_for (vs := [4]) PassesOwn.never rfl (it_seq (e_var (pv 1))) (g_name (pg_name sc__law_values.nd rfl (by first | exact Or.inl rfl | exact Or.inr rfl)) (by decide))
    (ss_one (st_set (ps_set (i := 3) sc__law_values.nd rfl (by first | exact Or.inl rfl | exact Or.inr rfl) (e_bin op_addD add_d (b_var (pv 3)) (b_of (e_of (n_lc (own := [("x", 5)]) rfl sc__law_values.nd (it_range1 (pi_range1 (by rfl) T.z_range (aq_cons (b_var (pv 2)) aq_nil)) (alS al0)) (blkOk_by (by kernel_rfl)) (fun _ _ _ _ _ => (g_name (pg_name sc__law_values.nd rfl (by first | exact Or.inl rfl | exact Or.inr rfl)) (by decide))) (fun _ _ _ _ _ => ts_nil) (fun _ _ _ _ _ => (e_bin op_addD add_d (b_var (pv 4)) (b_of (e_tup (a_cons (e_var (pv 5)) a_nil)))))))))))))
    (ss_one (st_set (ps_set (i := 1) sc__law_values.nd rfl (by first | exact Or.inl rfl | exact Or.inr rfl) (e_var (pv 3))))))))
    (ss_one (st_ret (e_var (pv 1))))))
theorem sc_weak : FnScope ["saying", "part"] ["saying", "part"] (defScope s_weak) := ⟨rfl, rfl, rfl, by decide +kernel, rfl, by decide +kernel, by decide +kernel⟩
def b_weak : Stm :=
    (sRet (eTup (aCons (eBin D.ix (bVar 0) (eC (.int 0))) (aCons (eVar 1) (aCons (eCall F_together (aCons (eBin D.ix (bVar 0) (eC (.int 2))) (aCons (eCall F_rest_of (aCons (eBin D.ix (bVar 0) (eC (.int 1))) (aCons (eVar 1) aNil))) aNil))) aNil)))))
def F_weak : Fn := fnD 2 b_weak
theorem ok_weak (T : Top K w P mg) : FnG P w K mg base 2 T.D_weak.f T.D_weak.d ["saying", "part"] (spD ⟨K, w, P⟩ 2 F_weak) := fnG_ok T.D_weak.F sc_weak (by decide) fun cdv A outer s H E hG hr =>
    (ss_one (st_ret (e_tup (a_cons (e_ix (b_var (pv 0)) (b_of e_int)) (a_cons (e_var (pv 1)) (a_cons (e_call (pe_callG hG (ok_together T) (hr.mono (by decide)) (by rfl) T.D_together.m T.D_together.k T.D_together.b (a_cons (e_ix (b_var (pv 0)) (b_of e_int)) (a_cons (e_call (pe_callG hG (ok_rest_of T) (hr.mono (by decide)) (by rfl) T.D_rest_of.m T.D_rest_of.k T.D_rest_of.b (a_cons (e_ix (b_var (pv 0)) (b_of e_int)) (a_cons (e_var (pv 1)) a_nil))) (alS (alS al0))) a_nil))) (alS (alS al0))) a_nil))))))
theorem sc_joined : FnScope ["one", "two"] ["one", "two"] (defScope s_joined) := ⟨rfl, rfl, rfl, by decide +kernel, rfl, by decide +kernel, by decide +kernel⟩
def b_joined : Stm :=
    (sSeq (sIf (tOr (tBl (eBin D.ne (eBin D.ix (bVar 0) (eC (.int 0))) (eBin D.ix (bVar 1) (eC (.int 0))))) (tBl (eBin D.ne (eBin D.ix (bVar 0) (eC (.int 2))) (eCall F_together (aCons (eBin D.ix (bVar 1) (eC (.int 1))) (aCons (eBin D.ix (bVar 1) (eC (.int 2))) aNil)))))) (sRet (eC .non)) sNx)
    (sRet (eTup (aCons (eBin D.ix (bVar 0) (eC (.int 0))) (aCons (eCall F_together (aCons (eBin D.ix (bVar 0) (eC (.int 1))) (aCons (eBin D.ix (bVar 1) (eC (.int 1))) aNil))) (aCons (eBin D.ix (bVar 1) (eC (.int 2))) aNil))))))
def F_joined : Fn := fnD 2 b_joined
theorem ok_joined (T : Top K w P mg) : FnG P w K mg base 2 T.D_joined.f T.D_joined.d ["one", "two"] (spD ⟨K, w, P⟩ 2 F_joined) := fnG_ok T.D_joined.F sc_joined (by decide) fun cdv A outer s H E hG hr =>
    (ss_cons (st_if (PW.pt (tw_or (t_cmp (op_neP hr.units) ne_d (b_of (e_ix (b_var (pv 0)) (b_of e_int))) (b_of (e_ix (b_var (pv 1)) (b_of e_int)))) (tw_or1 (t_cmp (op_neP hr.units) ne_d (b_of (e_ix (b_var (pv 0)) (b_of e_int))) (b_of (e_call (pe_callG hG (ok_together T) (hr.mono (by decide)) (by rfl) T.D_together.m T.D_together.k T.D_together.b (a_cons (e_ix (b_var (pv 1)) (b_of e_int)) (a_cons (e_ix (b_var (pv 1)) (b_of e_int)) a_nil))) (alS (alS al0)))))))) (ss_one (st_ret e_non)) ss_nil)
    (ss_one (st_ret (e_tup (a_cons (e_ix (b_var (pv 0)) (b_of e_int)) (a_cons (e_call (pe_callG hG (ok_together T) (hr.mono (by decide)) (by rfl) T.D_together.m T.D_together.k T.D_together.b (a_cons (e_ix (b_var (pv 0)) (b_of e_int)) (a_cons (e_ix (b_var (pv 1)) (b_of e_int)) a_nil))) (alS (alS al0))) (a_cons (e_ix (b_var (pv 1)) (b_of e_int)) a_nil)))))))
theorem sc_crossed : FnScope ["one", "two", "seen", "a", "b"] ["one", "two"] (defScope s_crossed) := ⟨rfl, rfl, rfl, by decide +kernel, rfl, by decide +kernel, by decide +kernel⟩
def b_crossed : Stm :=
    (sSeq (sIf (tOr (tBl (eBin D.ne (eBin D.ix (bVar 0) (eC (.int 0))) (eBin D.ix (bVar 1) (eC (.int 0))))) (tOr (tNo (tTru (eCB gAll (aCons (eLc (iSeq (eBin D.ix (bVar 1) (eC (.int 1)))) (gNm 3) tYs (eBin D.isInA (bVar 3) (eBin D.ix (bVar 0) (eC (.int 2)))) [3]) aNil)))) (tNo (tTru (eCB gAll (aCons (eLc (iSeq (eBin D.ix (bVar 0) (eC (.int 1)))) (gNm 4) tYs (eBin D.isInA (bVar 4) (eBin D.ix (bVar 1) (eC (.int 2)))) [4]) aNil)))))) (sRet (eC .non)) sNx)
    (sSeq (sAsg (eCall F_rest_of (aCons (eBin D.ix (bVar 0) (eC (.int 2))) (aCons (eBin D.ix (bVar 1) (eC (.int 1))) aNil))) (gNm 2))
    (sSeq (sIf (tBl (eBin D.ne (bVar 2) (eCall F_rest_of (aCons (eBin D.ix (bVar 1) (eC (.int 2))) (aCons (eBin D.ix (bVar 0) (eC (.int 1))) aNil))))) (sRet (eC .non)) sNx)
    (sRet (eTup (aCons (eBin D.ix (bVar 0) (eC (.int 0))) (aCons (eCall F_together (aCons (eBin D.ix (bVar 0) (eC (.int 1))) (aCons (eBin D.ix (bVar 1) (eC (.int 1))) aNil))) (aCons (eVar 2) aNil))))))))
def F_crossed : Fn := fnD 5 b_crossed
theorem ok_crossed (T : Top K w P mg) : FnG P w K mg base 2 T.D_crossed.f T.D_crossed.d ["one", "two"] (spD ⟨K, w, P⟩ 2 F_crossed) := fnG_ok T.D_crossed.F sc_crossed (by decide) fun cdv A outer s H E hG hr =>
    (ss_cons (st_if (PW.pt (tw_or (t_cmp (op_neP hr.units) ne_d (b_of (e_ix (b_var (pv 0)) (b_of e_int))) (b_of (e_ix (b_var (pv 1)) (b_of e_int)))) (tw_or (t_not (t_tru (b_of (e_cb (pe_callB (cr_all (by rfl)) (by rfl) T.z_all bt_all (aq_cons (b_of (e_of (n_lc (own := [("a", 3)]) rfl sc_crossed.nd (ib_seq (b_of (e_ix (b_var (pv 1)) (b_of e_int)))) (blkOk_by (by kernel_rfl)) (fun _ _ _ _ _ => (g_name (pg_name sc_crossed.nd rfl (by first | exact Or.inl rfl | exact Or.inr rfl)) (by decide))) (fun _ _ _ _ _ => ts_nil) (fun _ _ _ _ _ => (e_cmp (op_inA hr.units) isInA_d (b_var (pv 3)) (b_of (e_ix (b_var (pv 0)) (b_of e_int)))))))) aq_nil)) all_d)))) (tw_or1 (t_not (t_tru (b_of (e_cb (pe_callB (cr_all (by rfl)) (by rfl) T.z_all bt_all (aq_cons (b_of (e_of (n_lc (own := [("b", 4)]) rfl sc_crossed.nd (ib_seq (b_of (e_ix (b_var (pv 0)) (b_of e_int)))) (blkOk_by (by kernel_rfl)) (fun _ _ _ _ _ => (g_name (pg_name sc_crossed.nd rfl (by first | exact Or.inl rfl | exact Or.inr rfl)) (by decide))) (fun _ _ _ _ _ => ts_nil) (fun _ _ _ _ _ => (e_cmp (op_inA hr.units) isInA_d (b_var (pv 4)) (b_of (e_ix (b_var (pv 1)) (b_of e_int)))))))) aq_nil)) all_d)))))))) (ss_one (st_ret e_non)) ss_nil)
    (ss_cons (st_set (ps_set (i := 2) sc_crossed.nd rfl (by first | exact Or.inl rfl | exact Or.inr rfl) (e_call (pe_callG hG (ok_rest_of T) (hr.mono (by decide)) (by rfl) T.D_rest_of.m T.D_rest_of.k T.D_rest_of.b (a_cons (e_ix (b_var (pv 0)) (b_of e_int)) (a_cons (e_ix (b_var (pv 1)) (b_of e_int)) a_nil))) (alS (alS al0)))))
    (ss_cons (st_if (t_cmp (op_neP hr.units) ne_d (b_var (pv 2)) (b_of (e_call (pe_callG hG (ok_rest_of T) (hr.mono (by decide)) (by rfl) T.D_rest_of.m T.D_rest_of.k T.D_rest_of.b (a_cons (e_ix (b_var (pv 1)) (b_of e_int)) (a_cons (e_ix (b_var (pv 0)) (b_of e_int)) a_nil))) (alS (alS al0))))) (ss_one (st_ret e_non)) ss_nil)
    (ss_one (st_ret (e_tup (a_cons (e_ix (b_var (pv 0)) (b_of e_int)) (a_cons (e_call (pe_callG hG (ok_together T) (hr.mono (by decide)) (by rfl) T.D_together.m T.D_together.k T.D_together.b (a_cons (e_ix (b_var (pv 0)) (b_of e_int)) (a_cons (e_ix (b_var (pv 1)) (b_of e_int)) a_nil))) (alS (alS al0))) (a_cons (e_var (pv 2)) a_nil)))))))))
theorem sc_plus : FnScope ["a", "b"] ["a", "b"] (defScope s_plus) := ⟨rfl, rfl, rfl, by decide +kernel, rfl, by decide +kernel, by decide +kernel⟩
def b_plus : Stm :=
    (sRet (eCall F_fraction (aCons (eBin D.add (eBin D.mul (eBin D.ix (bVar 0) (eC (.int 0))) (eBin D.ix (bVar 1) (eC (.int 1)))) (eBin D.mul (eBin D.ix (bVar 1) (eC (.int 0))) (eBin D.ix (bVar 0) (eC (.int 1))))) (aCons (eBin D.mul (eBin D.ix (bVar 0) (eC (.int 1))) (eBin D.ix (bVar 1) (eC (.int 1)))) aNil))))
def F_plus : Fn := fnD 2 b_plus
theorem ok_plus (T : Top K w P mg) : FnG P w K mg base 2 T.D_plus.f T.D_plus.d ["a", "b"] (spD ⟨K, w, P⟩ 2 F_plus) := fnG_ok T.D_plus.F sc_plus (by decide) fun cdv A outer s H E hG hr =>
    (ss_one (st_ret (e_call (pe_callG hG (ok_fraction T) (hr.mono (by decide)) (by rfl) T.D_fraction.m T.D_fraction.k T.D_fraction.b (a_cons (e_bin op_addD add_d (b_of (e_bin op_mulW mul_d (b_of (e_ix (b_var (pv 0)) (b_of e_int))) (b_of (e_ix (b_var (pv 1)) (b_of e_int))))) (b_of (e_bin op_mulW mul_d (b_of (e_ix (b_var (pv 1)) (b_of e_int))) (b_of (e_ix (b_var (pv 0)) (b_of e_int)))))) (a_cons (e_bin op_mulW mul_d (b_of (e_ix (b_var (pv 0)) (b_of e_int))) (b_of (e_ix (b_var (pv 1)) (b_of e_int)))) a_nil))) (alS (alS al0)))))
theorem sc_times : FnScope ["a", "b"] ["a", "b"] (defScope s_times) := ⟨rfl, rfl, rfl, by decide +kernel, rfl, by decide +kernel, by decide +kernel⟩
def b_times : Stm :=
    (sRet (eCall F_fraction (aCons (eBin D.mul (eBin D.ix (bVar 0) (eC (.int 0))) (eBin D.ix (bVar 1) (eC (.int 0)))) (aCons (eBin D.mul (eBin D.ix (bVar 0) (eC (.int 1))) (eBin D.ix (bVar 1) (eC (.int 1)))) aNil))))
def F_times : Fn := fnD 2 b_times
theorem ok_times (T : Top K w P mg) : FnG P w K mg base 2 T.D_times.f T.D_times.d ["a", "b"] (spD ⟨K, w, P⟩ 2 F_times) := fnG_ok T.D_times.F sc_times (by decide) fun cdv A outer s H E hG hr =>
    (ss_one (st_ret (e_call (pe_callG hG (ok_fraction T) (hr.mono (by decide)) (by rfl) T.D_fraction.m T.D_fraction.k T.D_fraction.b (a_cons (e_bin op_mulW mul_d (b_of (e_ix (b_var (pv 0)) (b_of e_int))) (b_of (e_ix (b_var (pv 1)) (b_of e_int)))) (a_cons (e_bin op_mulW mul_d (b_of (e_ix (b_var (pv 0)) (b_of e_int))) (b_of (e_ix (b_var (pv 1)) (b_of e_int)))) a_nil))) (alS (alS al0)))))
theorem sc__law_take : FnScope ["c", "many", "digit"] ["c", "many"] (defScope s__law_take) := ⟨rfl, rfl, rfl, by decide +kernel, rfl, by decide +kernel, by decide +kernel⟩
def b__law_take : Stm :=
    (sSeq (sIf (tBl (eBin D.lt (eIxR (eVar 0) (eC (.int 2))) (bVar 1))) (sSetR (eVar 0) (eCall F__law_fill (aCons (eVar 0) aNil)) (eC (.int 2))) sNx)
    (sSeq (sAsg (eBin D.mod (eCB gInt (aCons (eIxR (eVar 0) (eC (.int 2))) aNil)) (bVar 1)) (gNm 2))
    (sSeq (sSetR (eVar 0) (eBin D.fdiv (eIxR (eVar 0) (eC (.int 2))) (bVar 1)) (eC (.int 2)))
    (sRet (eVar 2)))))
def F__law_take : Fn := fnD 3 b__law_take
theorem ok__law_take (T : Top K w P mg) : FnG P w K mg base 2 T.D__law_take.f T.D__law_take.d ["c", "many"] (spD ⟨K, w, P⟩ 2 F__law_take) := fnG_ok T.D__law_take.F sc__law_take (by decide) fun cdv A outer s H E hG hr =>
    (ss_cons (st_if (t_cmp op_lt lt_d (b_of (e_ixR (e_var (pv 0)) (b_of e_int))) (b_var (pv 1))) (ss_one (st_setR (ps_asg (e_call (pe_callG hG (ok__law_fill T) (hr.mono (by decide)) (by rfl) T.D__law_fill.m T.D__law_fill.k T.D__law_fill.b (a_cons (e_var (pv 0)) a_nil)) (alS al0)) (pg_sub (e_var (pv 0)) (b_of e_int) set_list)))) ss_nil)
    (ss_cons (st_set (ps_set (i := 2) sc__law_take.nd rfl (by first | exact Or.inl rfl | exact Or.inr rfl) (e_bin op_modN mod_d (b_of (e_cb (pe_callTy call_int1 (by rfl) T.z_int bt_int (aq_cons (b_of (e_ixR (e_var (pv 0)) (b_of e_int))) aq_nil)) int_c)) (b_var (pv 1)))))
    (ss_cons (st_setR (ps_asg (e_bin op_fdivW fdiv_d (b_of (e_ixR (e_var (pv 0)) (b_of e_int))) (b_var (pv 1))) (pg_sub (e_var (pv 0)) (b_of e_int) set_list)))
    (ss_one (st_ret (e_var (pv 2)))))))
theorem sc__law_fraction : FnScope ["n", "d", "many"] ["n", "d"] (defScope s__law_fraction) := ⟨rfl, rfl, rfl, by decide +kernel, rfl, by decide +kernel, by decide +kernel⟩
def b__law_fraction : Stm :=
    (sSeq (sAsg (eCall F__law_divisor (aCons (eVar 0) (aCons (eVar 1) aNil))) (gNm 2))
    (sSeq (sAsg (eIf (tBl (eBin D.gt (bVar 1) (eC (.int 0)))) (eVar 2) (eBin D.sub (eC (.int 0)) (bVar 2))) (gNm 2))
    (sRet (eTup (aCons (eBin D.fdiv (bVar 0) (bVar 2)) (aCons (eBin D.fdiv (bVar 1) (bVar 2)) aNil))))))
def F__law_fraction : Fn := fnD 3 b__law_fraction
theorem ok__law_fraction (T : Top K w P mg) : FnG P w K mg base 2 T.D__law_fraction.f T.D__law_fraction.d ["n", "d"] (spD ⟨K, w, P⟩ 2 F__law_fraction) := fnG_ok T.D__law_fraction.F sc__law_fraction (by decide) fun cdv A outer s H E hG hr =>
    (ss_cons (st_set (ps_set (i := 2) sc__law_fraction.nd rfl (by first | exact Or.inl rfl | exact Or.inr rfl) (e_call (pe_callG hG (ok__law_divisor T) (hr.mono (by decide)) (by rfl) T.D__law_divisor.m T.D__law_divisor.k T.D__law_divisor.b (a_cons (e_var (pv 0)) (a_cons (e_var (pv 1)) a_nil))) (alS (alS al0)))))
    (ss_cons (st_set (ps_set (i := 2) sc__law_fraction.nd rfl (by first | exact Or.inl rfl | exact Or.inr rfl) (e_if (t_cmp op_gt gt_d (b_var (pv 1)) (b_of e_int)) (e_var (pv 2)) (e_bin op_sub sub_d (b_of e_int) (b_var (pv 2))))))
    (ss_one (st_ret (e_tup (a_cons (e_bin op_fdivW fdiv_d (b_var (pv 0)) (b_var (pv 2))) (a_cons (e_bin op_fdivW fdiv_d (b_var (pv 1)) (b_var (pv 2))) a_nil)))))))
theorem sc__law_is_paper : FnScope ["world", "saying", "fails", "value", "x"] ["world", "saying", "fails", "value"] (defScope s__law_is_paper) := ⟨rfl, rfl, rfl, by decide +kernel, rfl, by decide +kernel, by decide +kernel⟩
def b__law_is_paper : Stm :=
    (sSeq (sIf (tBl (eBin D.eq (eCB gRepr (aCons (bVar 3) aNil)) (eCB gRepr (aCons (eTup (aCons (eC (.str "holds")) aNil)) aNil)))) (sRet (eNo (bVar 2))) sNx)
    (sSeq (sIf (tOr (tNo (tTru (eCB gIsi (aCons (bVar 3) (aCons (eC (.ty "tuple")) aNil))))) (tOr (tBl (eBin D.ne (eCB gLen (aCons (bVar 3) aNil)) (eC (.int 2)))) (tBl (eBin D.ne (eCB gRepr (aCons (eBin D.ix (bVar 3) (eC (.int 0))) aNil)) (eCB gRepr (aCons (eC (.str "fails")) aNil)))))) (sRet (eC (.bl false))) sNx)
    (sRet (eAn (eCB gIsi (aCons (eBin D.ix (bVar 3) (eC (.int 1))) (aCons (eC (.ty "tuple")) aNil))) (eAn (eCB gAll (aCons (eLc (iSeq (eBin D.ix (bVar 3) (eC (.int 1)))) (gNm 4) tYs (eCall F__law_is_int (aCons (eVar 4) aNil)) [4]) aNil)) (eBin D.isInA (eBin D.ix (bVar 3) (eC (.int 1))) (bVar 2)))))))
def F__law_is_paper : Fn := fnD 5 b__law_is_paper
theorem ok__law_is_paper (T : Top K w P mg) : FnG P w K mg base 2 T.D__law_is_paper.f T.D__law_is_paper.d ["world", "saying", "fails", "value"] (spD ⟨K, w, P⟩ 4 F__law_is_paper) := fnG_ok T.D__law_is_paper.F sc__law_is_paper (by decide) fun cdv A outer s H E hG hr =>
    (ss_cons (st_if (t_cmp (op_eqP hr.units) eq_d (b_of (e_cb (pe_callB (call_repr hG hr.units) (by rfl) T.z_repr bt_repr (aq_cons (b_var (pv 3)) aq_nil)) repr_d)) (b_of (e_cb (pe_callB (call_repr hG hr.units) (by rfl) T.z_repr bt_repr (aq_cons (b_of (e_tup (a_cons e_str a_nil))) aq_nil)) repr_d))) (ss_one (st_ret (e_not (b_var (pv 2))))) ss_nil)
    (ss_cons (st_if (PW.pt (tw_or (t_not (t_tru (b_of (e_cb (pe_callB call_isi (by rfl) T.z_isinstance bt_isinstance (aq_cons (b_var (pv 3)) (aq_cons (b_of (e_ty (by rfl) T.z_tuple bt_tuple)) aq_nil))) isi_d)))) (tw_or (t_cmp (op_neP hr.units) ne_d (b_of (e_cb (pe_callB call_len (by rfl) T.z_len bt_len (aq_cons (b_var (pv 3)) aq_nil)) len_d)) (b_of e_int)) (tw_or1 (t_cmp (op_neP hr.units) ne_d (b_of (e_cb (pe_callB (call_repr hG hr.units) (by rfl) T.z_repr bt_repr (aq_cons (b_of (e_ix (b_var (pv 3)) (b_of e_int))) aq_nil)) repr_d)) (b_of (e_cb (pe_callB (call_repr hG hr.units) (by rfl) T.z_repr bt_repr (aq_cons (b_of e_str) aq_nil)) repr_d))))))) (ss_one (st_ret e_bl)) ss_nil)
    (ss_one (st_ret (e_and (e_cb (pe_callB call_isi (by rfl) T.z_isinstance bt_isinstance (aq_cons (b_of (e_ix (b_var (pv 3)) (b_of e_int))) (aq_cons (b_of (e_ty (by rfl) T.z_tuple bt_tuple)) aq_nil))) isi_d) (e_and (e_cb (pe_callB (cr_all (by rfl)) (by rfl) T.z_all bt_all (aq_cons (b_of (e_of (n_lc (own := [("x", 4)]) rfl sc__law_is_paper.nd (ib_seq (b_of (e_ix (b_var (pv 3)) (b_of e_int)))) (blkOk_by (by kernel_rfl)) (fun _ _ _ _ _ => (g_name (pg_name sc__law_is_paper.nd rfl (by first | exact Or.inl rfl | exact Or.inr rfl)) (by decide))) (fun _ _ _ _ _ => ts_nil) (fun _ _ _ _ _ => (e_call (pe_callG hG (ok__law_is_int T) (hr.mono (by decide)) (by rfl) T.D__law_is_int.m T.D__law_is_int.k T.D__law_is_int.b (a_cons (e_var (pv 4)) a_nil)) (alS al0)))))) aq_nil)) all_d) (e_one (e_cmp (op_inA hr.units) isInA_d (b_of (e_ix (b_var (pv 3)) (b_of e_int))) (b_var (pv 2))))))))))
theorem sc_total : FnScope ["fractions", "found", "one"] ["fractions"] (defScope s_total) := ⟨rfl, rfl, rfl, by decide +kernel, rfl, by decide +kernel, by decide +kernel⟩
def b_total : Stm :=
    (sSeq (sAsg (eTup (aCons (eC (.int 0)) (aCons (eC (.int 1)) aNil))) (gNm 1))
    (sSeq (sFor (iSeq (eVar 0)) (gNm 2)
    (sAsg (eCall F_plus (aCons (eVar 1) (aCons (eVar 2) aNil))) (gNm 1)))
    (sRet (eVar 1))))
def F_total : Fn := fnD 3 b_total
theorem ok_total (T : Top K w P mg) : FnG P w K mg base 3 T.D_total.f T.D_total.d ["fractions"] (spD ⟨K, w, P⟩ 1 F_total) := fnG_ok T.D_total.F sc_total (by decide) fun cdv A outer s H E hG hr =>
    (ss_cons (st_set (ps_set (i := 1) sc_total.nd rfl (by first | exact Or.inl rfl | exact Or.inr rfl) (e_tup (a_cons e_int (a_cons e_int a_nil)))))
    (ss_cons (st_for (vs := [2]) PassesOwn.never rfl (it_seq (e_var (pv 0))) (g_name (pg_name sc_total.nd rfl (by first | exact Or.inl rfl | exact Or.inr rfl)) (by decide))
    (ss_one (st_set (ps_set (i := 1) sc_total.nd rfl (by first | exact Or.inl rfl | exact Or.inr rfl) (e_call (pe_callG hG (ok_plus T) (hr.mono (by decide)) (by rfl) T.D_plus.m T.D_plus.k T.D_plus.b (a_cons (e_var (pv 1)) (a_cons (e_var (pv 2)) a_nil))) (alS (alS al0)))))))
    (ss_one (st_ret (e_var (pv 1))))))
theorem sc__law_plus : FnScope ["a", "b"] ["a", "b"] (defScope s__law_plus) := ⟨rfl, rfl, rfl, by decide +kernel, rfl, by decide +kernel, by decide +kernel⟩
def b__law_plus : Stm :=
    (sRet (eCall F__law_fraction (aCons (eBin D.add (eBin D.mul (eBin D.ix (bVar 0) (eC (.int 0))) (eBin D.ix (bVar 1) (eC (.int 1)))) (eBin D.mul (eBin D.ix (bVar 1) (eC (.int 0))) (eBin D.ix (bVar 0) (eC (.int 1))))) (aCons (eBin D.mul (eBin D.ix (bVar 0) (eC (.int 1))) (eBin D.ix (bVar 1) (eC (.int 1)))) aNil))))
def F__law_plus : Fn := fnD 2 b__law_plus
theorem ok__law_plus (T : Top K w P mg) : FnG P w K mg base 3 T.D__law_plus.f T.D__law_plus.d ["a", "b"] (spD ⟨K, w, P⟩ 2 F__law_plus) := fnG_ok T.D__law_plus.F sc__law_plus (by decide) fun cdv A outer s H E hG hr =>
    (ss_one (st_ret (e_call (pe_callG hG (ok__law_fraction T) (hr.mono (by decide)) (by rfl) T.D__law_fraction.m T.D__law_fraction.k T.D__law_fraction.b (a_cons (e_bin op_addD add_d (b_of (e_bin op_mulW mul_d (b_of (e_ix (b_var (pv 0)) (b_of e_int))) (b_of (e_ix (b_var (pv 1)) (b_of e_int))))) (b_of (e_bin op_mulW mul_d (b_of (e_ix (b_var (pv 1)) (b_of e_int))) (b_of (e_ix (b_var (pv 0)) (b_of e_int)))))) (a_cons (e_bin op_mulW mul_d (b_of (e_ix (b_var (pv 0)) (b_of e_int))) (b_of (e_ix (b_var (pv 1)) (b_of e_int)))) a_nil))) (alS (alS al0)))))
theorem sc__law_times : FnScope ["a", "b"] ["a", "b"] (defScope s__law_times) := ⟨rfl, rfl, rfl, by decide +kernel, rfl, by decide +kernel, by decide +kernel⟩
def b__law_times : Stm :=
    (sRet (eCall F__law_fraction (aCons (eBin D.mul (eBin D.ix (bVar 0) (eC (.int 0))) (eBin D.ix (bVar 1) (eC (.int 0)))) (aCons (eBin D.mul (eBin D.ix (bVar 0) (eC (.int 1))) (eBin D.ix (bVar 1) (eC (.int 1)))) aNil))))
def F__law_times : Fn := fnD 2 b__law_times
theorem ok__law_times (T : Top K w P mg) : FnG P w K mg base 3 T.D__law_times.f T.D__law_times.d ["a", "b"] (spD ⟨K, w, P⟩ 2 F__law_times) := fnG_ok T.D__law_times.F sc__law_times (by decide) fun cdv A outer s H E hG hr =>
    (ss_one (st_ret (e_call (pe_callG hG (ok__law_fraction T) (hr.mono (by decide)) (by rfl) T.D__law_fraction.m T.D__law_fraction.k T.D__law_fraction.b (a_cons (e_bin op_mulW mul_d (b_of (e_ix (b_var (pv 0)) (b_of e_int))) (b_of (e_ix (b_var (pv 1)) (b_of e_int)))) (a_cons (e_bin op_mulW mul_d (b_of (e_ix (b_var (pv 0)) (b_of e_int))) (b_of (e_ix (b_var (pv 1)) (b_of e_int)))) a_nil))) (alS (alS al0)))))
theorem sc__law_world : FnScope ["c", "sizes", "weights", "row", "one"] ["c", "sizes"] (defScope s__law_world) := ⟨rfl, rfl, rfl, by decide +kernel, rfl, by decide +kernel, by decide +kernel⟩
def b__law_world : Stm :=
    (sSeq (sOwn (eLc (iSeq (eCall F__law_values (aCons (eVar 1) aNil))) (gNm 3) tYs (eBin D.ix (eLst (aCons (eC (.int 0)) (aCons (eC (.int 1)) (aCons (eC (.int 1)) (aCons (eC (.int 2)) (aCons (eC (.int 3)) aNil)))))) (eCall F__law_take (aCons (eVar 0) (aCons (eC (.int 5)) aNil)))) [3]) 2)
    (sSeq (sIf (tBl (eBin D.eq (eCB gSumA (aCons (bVar 2) aNil)) (eC (.int 0)))) (sSetIx 2 (eC (.int 1)) (eC (.int 0))) sNx)
    (sFz 2 (sRet (eTup (aCons (eVar 1) (aCons (eCB gTuple (aCons (eLc (iSeq (bVar 2)) (gNm 4) tYs (eCall F__law_fraction (aCons (eVar 4) (aCons (eCB gSumA (aCons (bVar 2) aNil)) aNil))) [4]) aNil)) aNil)))))))
def F__law_world : Fn := fnD 5 b__law_world
theorem ok__law_world (T : Top K w P mg) : FnG P w K mg base 3 T.D__law_world.f T.D__law_world.d ["c", "sizes"] (spD ⟨K, w, P⟩ 2 F__law_world) := fnG_ok T.D__law_world.F sc__law_world (by decide) fun cdv A outer s H E hG hr =>
    (ss_cons (st_own (ps_set (i := 2) sc__law_world.nd rfl (by first | exact Or.inl rfl | exact Or.inr rfl) (n_lc (own := [("row", 3)]) rfl sc__law_world.nd (ib_seq (b_of (e_call (pe_callG hG (ok__law_values T) (hr.mono (by decide)) (by rfl) T.D__law_values.m T.D__law_values.k T.D__law_values.b (a_cons (e_var (pv 1)) a_nil)) (alS al0)))) (blkOk_by (by kernel_rfl)) (fun _ _ _ _ _ => (g_name (pg_name sc__law_world.nd rfl (by first | exact Or.inl rfl | exact Or.inr rfl)) (by decide))) (fun _ _ _ _ _ => ts_nil) (fun _ _ _ _ _ => (e_ix (b_of (e_of (n_lst (a_cons e_int (a_cons e_int (a_cons e_int (a_cons e_int (a_cons e_int a_nil)))))))) (b_of (e_call (pe_callG hG (ok__law_take T) (hr.mono (by decide)) (by rfl) T.D__law_take.m T.D__law_take.k T.D__law_take.b (a_cons (e_var (pv 0)) (a_cons e_int a_nil))) (alS (alS al0)))))))))
    (ss_cons (st_if (t_cmp (op_eqP hr.units) eq_d (b_of (e_cb (pe_callB (cr_sumA (by rfl)) (by rfl) T.z_sum bt_sum (aq_cons (b_var (pv 2)) aq_nil)) sumA_d)) (b_of e_int)) (ss_one (st_setIx (ps_asg e_int (pg_sub (pv 2) (b_of e_int) set_list)))) ss_nil)
    (ss_fz 2 (ss_one (st_ret (e_tup (a_cons (e_var (pv 1)) (a_cons (e_cb (pe_callTy call_tupleZ (by rfl) T.z_tuple bt_tuple (aq_cons (b_of (e_of (n_lc (own := [("one", 4)]) rfl sc__law_world.nd (ib_seq (b_var (pv 2))) (blkOk_by (by kernel_rfl)) (fun _ _ _ _ _ => (g_name (pg_name sc__law_world.nd rfl (by first | exact Or.inl rfl | exact Or.inr rfl)) (by decide))) (fun _ _ _ _ _ => ts_nil) (fun _ _ _ _ _ => (e_call (pe_callG hG (ok__law_fraction T) (hr.mono (by decide)) (by rfl) T.D__law_fraction.m T.D__law_fraction.k T.D__law_fraction.b (a_cons (e_var (pv 4)) (a_cons (e_cb (pe_callB (cr_sumA (by rfl)) (by rfl) T.z_sum bt_sum (aq_cons (b_var (pv 2)) aq_nil)) sumA_d) a_nil))) (alS (alS al0))))))) aq_nil)) tuple_d) a_nil))))))))
theorem sc_chance : FnScope ["world", "event", "row", "one"] ["world", "event"] (defScope s_chance) := ⟨rfl, rfl, rfl, by decide +kernel, rfl, by decide +kernel, by decide +kernel⟩
def b_chance : Stm :=
    (sRet (eCall F_total (aCons (eLc (iZpA (aCons (eCall F_rows_of (aCons (eBin D.ix (bVar 0) (eC (.int 0))) aNil)) (aCons (eBin D.ix (bVar 0) (eC (.int 1))) aNil))) (gTp 2 (gsCons (gNm 2) (gsCons (gNm 3) gsNil))) (tTru (eCall F_fits (aCons (eVar 2) (aCons (eVar 1) aNil)))) (eVar 3) [2, 3]) aNil)))
def F_chance : Fn := fnD 4 b_chance
theorem ok_chance (T : Top K w P mg) : FnG P w K mg base 4 T.D_chance.f T.D_chance.d ["world", "event"] (spD ⟨K, w, P⟩ 2 F_chance) := fnG_ok T.D_chance.F sc_chance (by decide) fun cdv A outer s H E hG hr =>
    (ss_one (st_ret (e_call (pe_callG hG (ok_total T) (hr.mono (by decide)) (by rfl) T.D_total.m T.D_total.k T.D_total.b (a_cons (e_of (n_lc (own := [("row", 2), ("one", 3)]) rfl sc_chance.nd (ib_zipA (pi_zipA (by rfl) T.z_zip (aq_cons (b_of (e_call (pe_callG hG (ok_rows_of T) (hr.mono (by decide)) (by rfl) T.D_rows_of.m T.D_rows_of.k T.D_rows_of.b (a_cons (e_ix (b_var (pv 0)) (b_of e_int)) a_nil)) (alS al0))) (aq_cons (b_of (e_ix (b_var (pv 0)) (b_of e_int))) aq_nil)))) (blkOk_by (by kernel_rfl)) (fun _ _ _ _ _ => (g_tup rfl (gs_cons (g_name (pg_name sc_chance.nd rfl (by first | exact Or.inl rfl | exact Or.inr rfl)) (by decide)) (gs_cons (g_name (pg_name sc_chance.nd rfl (by first | exact Or.inl rfl | exact Or.inr rfl)) (by decide)) gs_nil)))) (fun _ _ _ _ _ => (ts_one (t_tru (b_of (e_call (pe_callG hG (ok_fits T) (hr.mono (by decide)) (by rfl) T.D_fits.m T.D_fits.k T.D_fits.b (a_cons (e_var (pv 2)) (a_cons (e_var (pv 1)) a_nil))) (alS (alS al0))))))) (fun _ _ _ _ _ => (e_var (pv 3))))) a_nil)) (alS al0))))
theorem sc__law_total : FnScope ["row", "found", "one"] ["row"] (defScope s__law_total) := ⟨rfl, rfl, rfl, by decide +kernel, rfl, by decide +kernel, by decide +kernel⟩
def b__law_total : Stm :=
    (sSeq (sAsg (eTup (aCons (eC (.int 0)) (aCons (eC (.int 1)) aNil))) (gNm 1))
    (sSeq (sFor (iSeq (eVar 0)) (gNm 2)
    (sAsg (eCall F__law_plus (aCons (eVar 1) (aCons (eVar 2) aNil))) (gNm 1)))
    (sRet (eVar 1))))
def F__law_total : Fn := fnD 3 b__law_total
theorem ok__law_total (T : Top K w P mg) : FnG P w K mg base 4 T.D__law_total.f T.D__law_total.d ["row"] (spD ⟨K, w, P⟩ 1 F__law_total) := fnG_ok T.D__law_total.F sc__law_total (by decide) fun cdv A outer s H E hG hr =>
    (ss_cons (st_set (ps_set (i := 1) sc__law_total.nd rfl (by first | exact Or.inl rfl | exact Or.inr rfl) (e_tup (a_cons e_int (a_cons e_int a_nil)))))
    (ss_cons (st_for (vs := [2]) PassesOwn.never rfl (it_seq (e_var (pv 0))) (g_name (pg_name sc__law_total.nd rfl (by first | exact Or.inl rfl | exact Or.inr rfl)) (by decide))
    (ss_one (st_set (ps_set (i := 1) sc__law_total.nd rfl (by first | exact Or.inl rfl | exact Or.inr rfl) (e_call (pe_callG hG (ok__law_plus T) (hr.mono (by decide)) (by rfl) T.D__law_plus.m T.D__law_plus.k T.D__law_plus.b (a_cons (e_var (pv 1)) (a_cons (e_var (pv 2)) a_nil))) (alS (alS al0)))))))
    (ss_one (st_ret (e_var (pv 1))))))
theorem sc__law_times_worlds : FnScope ["c", "sizes", "one", "two", "table", "x", "y"] ["c", "sizes"] (defScope s__law_times_worlds) := ⟨rfl, rfl, rfl, by decide +kernel, rfl, by decide +kernel, by decide +kernel⟩
def b__law_times_worlds : Stm :=
    (sSeq (sPar 2 3 (aCons (eCall F__law_world (aCons (eVar 0) (aCons (eSl D.slice (bVar 1) pNo (pIs (eUn D.neg (eC (.int 1))))) aNil))) (aCons (eCall F__law_world (aCons (eVar 0) (aCons (eSl D.slice (bVar 1) (pIs (eUn D.neg (eC (.int 1)))) pNo) aNil))) aNil)))
    (sSeq (sAsg (eLst aNil) (gNm 4))
    (sSeq (sFor (iSeq (eBin D.ix (bVar 2) (eC (.int 1)))) (gNm 5)
    (sAsg (eBin D.add (bVar 4) (eLc (iSeq (eBin D.ix (bVar 3) (eC (.int 1)))) (gNm 6) tYs (eCall F__law_times (aCons (eVar 5) (aCons (eVar 6) aNil))) [6])) (gNm 4)))
    (sRet (eTup (aCons (eVar 1) (aCons (eCB gTuple (aCons (bVar 4) aNil)) aNil)))))))
def F__law_times_worlds : Fn := fnD 7 b__law_times_worlds
theorem ok__law_times_worlds (T : Top K w P mg) : FnG P w K mg base 4 T.D__law_times_worlds.f T.D__law_times_worlds.d ["c", "sizes"] (spD ⟨K, w, P⟩ 2 F__law_times_worlds) := fnG_ok T.D__law_times_worlds.F sc__law_times_worlds (by decide) fun cdv A outer s H E hG hr =>
    (ss_cons (st_par (ps_par (i := 2) (j := 3) rfl sc__law_times_worlds.nd rfl rfl (by decide) rfl rfl (a_cons (e_call (pe_callG hG (ok__law_world T) (hr.mono (by decide)) (by rfl) T.D__law_world.m T.D__law_world.k T.D__law_world.b (a_cons (e_var (pv 0)) (a_cons (e_sl sl_slice slice_d (b_var (pv 1)) p_no (p_is (b_of (e_neg (b_of e_int))))) a_nil))) (alS (alS al0))) (a_cons (e_call (pe_callG hG (ok__law_world T) (hr.mono (by decide)) (by rfl) T.D__law_world.m T.D__law_world.k T.D__law_world.b (a_cons (e_var (pv 0)) (a_cons (e_sl sl_slice slice_d (b_var (pv 1)) (p_is (b_of (e_neg (b_of e_int)))) p_no) a_nil))) (alS (alS al0))) a_nil)) (by rfl)))
    (ss_cons (st_set (ps_set (i := 4) sc__law_times_worlds.nd rfl (by first | exact Or.inl rfl | exact Or.inr rfl) (e_of (n_lst a_nil))))
    (ss_cons (st_for (vs := [5]) PassesOwn.never rfl (it_seq (e_ix (b_var (pv 2)) (b_of e_int))) (g_name (pg_name sc__law_times_worlds.nd rfl (by first | exact Or.inl rfl | exact Or.inr rfl)) (by decide))
    (ss_one (st_set (ps_set (i := 4) sc__law_times_worlds.nd rfl (by first | exact Or.inl rfl | exact Or.inr rfl) (e_bin op_addD add_d (b_var (pv 4)) (b_of (e_of (n_lc (own := [("y", 6)]) rfl sc__law_times_worlds.nd (ib_seq (b_of (e_ix (b_var (pv 3)) (b_of e_int)))) (blkOk_by (by kernel_rfl)) (fun _ _ _ _ _ => (g_name (pg_name sc__law_times_worlds.nd rfl (by first | exact Or.inl rfl | exact Or.inr rfl)) (by decide))) (fun _ _ _ _ _ => ts_nil) (fun _ _ _ _ _ => (e_call (pe_callG hG (ok__law_times T) (hr.mono (by decide)) (by rfl) T.D__law_times.m T.D__law_times.k T.D__law_times.b (a_cons (e_var (pv 5)) (a_cons (e_var (pv 6)) a_nil))) (alS (alS al0))))))))))))
    (ss_one (st_ret (e_tup (a_cons (e_var (pv 1)) (a_cons (e_cb (pe_callTy call_tupleZ (by rfl) T.z_tuple bt_tuple (aq_cons (b_var (pv 4)) aq_nil)) tuple_d) a_nil))))))))
theorem sc_is_broken : FnScope ["world", "saying", "row", "first", "second", "seen", "left", "right"] ["world", "saying", "row"] (defScope s_is_broken) := ⟨rfl, rfl, rfl, by decide +kernel, rfl, by decide +kernel, by decide +kernel⟩
def b_is_broken : Stm :=
    (sSeq (sAsg (eVar 1) (gTp 3 (gsCons (gNm 3) (gsCons (gNm 4) (gsCons (gNm 5) gsNil)))))
    (sSeq (sAsg (eCall F_times (aCons (eCall F_chance (aCons (eVar 0) (aCons (eCall F_event_of (aCons (eVar 2) (aCons (eBin D.add (bVar 3) (bVar 5)) aNil))) aNil))) (aCons (eCall F_chance (aCons (eVar 0) (aCons (eCall F_event_of (aCons (eVar 2) (aCons (eBin D.add (bVar 4) (bVar 5)) aNil))) aNil))) aNil))) (gNm 6))
    (sSeq (sAsg (eCall F_times (aCons (eCall F_chance (aCons (eVar 0) (aCons (eCall F_event_of (aCons (eVar 2) (aCons (eBin D.add (eBin D.add (bVar 3) (bVar 4)) (bVar 5)) aNil))) aNil))) (aCons (eCall F_chance (aCons (eVar 0) (aCons (eCall F_event_of (aCons (eVar 2) (aCons (eVar 5) aNil))) aNil))) aNil))) (gNm 7))
    (sRet (eBin D.ne (bVar 6) (bVar 7))))))
def F_is_broken : Fn := fnD 8 b_is_broken
theorem ok_is_broken (T : Top K w P mg) : FnG P w K mg base 5 T.D_is_broken.f T.D_is_broken.d ["world", "saying", "row"] (spD ⟨K, w, P⟩ 3 F_is_broken) := fnG_ok T.D_is_broken.F sc_is_broken (by decide) fun cdv A outer s H E hG hr =>
    (ss_cons (st_asg (vs := [3, 4, 5]) (ps_asg (e_var (pv 1)) (g_tup rfl (gs_cons (g_name (pg_name sc_is_broken.nd rfl (by first | exact Or.inl rfl | exact Or.inr rfl)) (by decide)) (gs_cons (g_name (pg_name sc_is_broken.nd rfl (by first | exact Or.inl rfl | exact Or.inr rfl)) (by decide)) (gs_cons (g_name (pg_name sc_is_broken.nd rfl (by first | exact Or.inl rfl | exact Or.inr rfl)) (by decide)) gs_nil))))))
    (ss_cons (st_set (ps_set (i := 6) sc_is_broken.nd rfl (by first | exact Or.inl rfl | exact Or.inr rfl) (e_call (pe_callG hG (ok_times T) (hr.mono (by decide)) (by rfl) T.D_times.m T.D_times.k T.D_times.b (a_cons (e_call (pe_callG hG (ok_chance T) (hr.mono (by decide)) (by rfl) T.D_chance.m T.D_chance.k T.D_chance.b (a_cons (e_var (pv 0)) (a_cons (e_call (pe_callG hG (ok_event_of T) (hr.mono (by decide)) (by rfl) T.D_event_of.m T.D_event_of.k T.D_event_of.b (a_cons (e_var (pv 2)) (a_cons (e_bin op_addD add_d (b_var (pv 3)) (b_var (pv 5))) a_nil))) (alS (alS al0))) a_nil))) (alS (alS al0))) (a_cons (e_call (pe_callG hG (ok_chance T) (hr.mono (by decide)) (by rfl) T.D_chance.m T.D_chance.k T.D_chance.b (a_cons (e_var (pv 0)) (a_cons (e_call (pe_callG hG (ok_event_of T) (hr.mono (by decide)) (by rfl) T.D_event_of.m T.D_event_of.k T.D_event_of.b (a_cons (e_var (pv 2)) (a_cons (e_bin op_addD add_d (b_var (pv 4)) (b_var (pv 5))) a_nil))) (alS (alS al0))) a_nil))) (alS (alS al0))) a_nil))) (alS (alS al0)))))
    (ss_cons (st_set (ps_set (i := 7) sc_is_broken.nd rfl (by first | exact Or.inl rfl | exact Or.inr rfl) (e_call (pe_callG hG (ok_times T) (hr.mono (by decide)) (by rfl) T.D_times.m T.D_times.k T.D_times.b (a_cons (e_call (pe_callG hG (ok_chance T) (hr.mono (by decide)) (by rfl) T.D_chance.m T.D_chance.k T.D_chance.b (a_cons (e_var (pv 0)) (a_cons (e_call (pe_callG hG (ok_event_of T) (hr.mono (by decide)) (by rfl) T.D_event_of.m T.D_event_of.k T.D_event_of.b (a_cons (e_var (pv 2)) (a_cons (e_bin op_addD add_d (b_of (e_bin op_addD add_d (b_var (pv 3)) (b_var (pv 4)))) (b_var (pv 5))) a_nil))) (alS (alS al0))) a_nil))) (alS (alS al0))) (a_cons (e_call (pe_callG hG (ok_chance T) (hr.mono (by decide)) (by rfl) T.D_chance.m T.D_chance.k T.D_chance.b (a_cons (e_var (pv 0)) (a_cons (e_call (pe_callG hG (ok_event_of T) (hr.mono (by decide)) (by rfl) T.D_event_of.m T.D_event_of.k T.D_event_of.b (a_cons (e_var (pv 2)) (a_cons (e_var (pv 5)) a_nil))) (alS (alS al0))) a_nil))) (alS (alS al0))) a_nil))) (alS (alS al0)))))
    (ss_one (st_ret (e_cmp (op_neP hr.units) ne_d (b_var (pv 6)) (b_var (pv 7))))))))
theorem sc__law_chance : FnScope ["world", "event", "rows", "k", "v", "x"] ["world", "event"] (defScope s__law_chance) := ⟨rfl, rfl, rfl, by decide +kernel, rfl, by decide +kernel, by decide +kernel⟩
def b__law_chance : Stm :=
    (sSeq (sAsg (eCall F__law_values (aCons (eBin D.ix (bVar 0) (eC (.int 0))) aNil)) (gNm 2))
    (sRet (eCall F__law_total (aCons (eLc (iRng (aCons (eCB gLen (aCons (bVar 2) aNil)) aNil)) (gNm 3) (tTru (eCB gAll (aCons (eLc (iSeq (bVar 1)) (gTp 2 (gsCons (gNm 4) (gsCons (gNm 5) gsNil))) tYs (eBin D.eq (eBin D.ix (eBin D.ix (bVar 2) (bVar 3)) (bVar 4)) (bVar 5)) [4, 5]) aNil))) (eBin D.ix (eBin D.ix (bVar 0) (eC (.int 1))) (bVar 3)) [3]) aNil))))
def F__law_chance : Fn := fnD 6 b__law_chance
theorem ok__law_chance (T : Top K w P mg) : FnG P w K mg base 5 T.D__law_chance.f T.D__law_chance.d ["world", "event"] (spD ⟨K, w, P⟩ 2 F__law_chance) := fnG_ok T.D__law_chance.F sc__law_chance (by decide) fun cdv A outer s H E hG hr =>
    (ss_cons (st_set (ps_set (i := 2) sc__law_chance.nd rfl (by first | exact Or.inl rfl | exact Or.inr rfl) (e_call (pe_callG hG (ok__law_values T) (hr.mono (by decide)) (by rfl) T.D__law_values.m T.D__law_values.k T.D__law_values.b (a_cons (e_ix (b_var (pv 0)) (b_of e_int)) a_nil)) (alS al0))))
    (ss_one (st_ret (e_call (pe_callG hG (ok__law_total T) (hr.mono (by decide)) (by rfl) T.D__law_total.m T.D__law_total.k T.D__law_total.b (a_cons (e_of (n_lc (own := [("k", 3)]) rfl sc__law_chance.nd (it_range1 (pi_range1 (by rfl) T.z_range (aq_cons (b_of (e_cb (pe_callB call_len (by rfl) T.z_len bt_len (aq_cons (b_var (pv 2)) aq_nil)) len_d)) aq_nil)) (alS al0)) (blkOk_by (by kernel_rfl)) (fun _ _ _ _ _ => (g_name (pg_name sc__law_chance.nd rfl (by first | exact Or.inl rfl | exact Or.inr rfl)) (by decide))) (fun _ _ _ _ _ => (ts_one (t_tru (b_of (e_cb (pe_callB (cr_all (by rfl)) (by rfl) T.z_all bt_all (aq_cons (b_of (e_of (n_lc (own := [("v", 4), ("x", 5)]) rfl sc__law_chance.nd (ib_seq (b_var (pv 1))) (blkOk_by (by kernel_rfl)) (fun _ _ _ _ _ => (g_tup rfl (gs_cons (g_name (pg_name sc__law_chance.nd rfl (by first | exact Or.inl rfl | exact Or.inr rfl)) (by decide)) (gs_cons (g_name (pg_name sc__law_chance.nd rfl (by first | exact Or.inl rfl | exact Or.inr rfl)) (by decide)) gs_nil)))) (fun _ _ _ _ _ => ts_nil) (fun _ _ _ _ _ => (e_cmp (op_eqP hr.units) eq_d (b_of (e_ix (b_of (e_ix (b_var (pv 2)) (b_var (pv 3)))) (b_var (pv 4)))) (b_var (pv 5))))))) aq_nil)) all_d))))) (fun _ _ _ _ _ => (e_ix (b_of (e_ix (b_var (pv 0)) (b_of e_int))) (b_var (pv 3)))))) a_nil)) (alS al0)))))
theorem sc_holding_paper : FnScope ["world", "saying", "row"] ["world", "saying"] (defScope s_holding_paper) := ⟨rfl, rfl, rfl, by decide +kernel, rfl, by decide +kernel, by decide +kernel⟩
def b_holding_paper : Stm :=
    (sSeq (sFor (iSeq (eCall F_rows_of (aCons (eBin D.ix (bVar 0) (eC (.int 0))) aNil))) (gNm 2)
    (sIf (tTru (eCall F_is_broken (aCons (eVar 0) (aCons (eVar 1) (aCons (eVar 2) aNil))))) (sRet (eTup (aCons (eC (.str "fails")) (aCons (eVar 2) aNil)))) sNx))
    (sRet (eTup (aCons (eC (.str "holds")) aNil))))
def F_holding_paper : Fn := fnD 3 b_holding_paper
theorem ok_holding_paper (T : Top K w P mg) : FnG P w K mg base 6 T.D_holding_paper.f T.D_holding_paper.d ["world", "saying"] (spD ⟨K, w, P⟩ 2 F_holding_paper) := fnG_ok T.D_holding_paper.F sc_holding_paper (by decide) fun cdv A outer s H E hG hr =>
    (ss_cons (st_for (vs := [2]) PassesOwn.never rfl (it_seq (e_call (pe_callG hG (ok_rows_of T) (hr.mono (by decide)) (by rfl) T.D_rows_of.m T.D_rows_of.k T.D_rows_of.b (a_cons (e_ix (b_var (pv 0)) (b_of e_int)) a_nil)) (alS al0))) (g_name (pg_name sc_holding_paper.nd rfl (by first | exact Or.inl rfl | exact Or.inr rfl)) (by decide))
    (ss_one (st_if (t_tru (b_of (e_call (pe_callG hG (ok_is_broken T) (hr.mono (by decide)) (by rfl) T.D_is_broken.m T.D_is_broken.k T.D_is_broken.b (a_cons (e_var (pv 0)) (a_cons (e_var (pv 1)) (a_cons (e_var (pv 2)) a_nil)))) (alS (alS (alS al0)))))) (ss_one (st_ret (e_tup (a_cons e_str (a_cons (e_var (pv 2)) a_nil))))) ss_nil)))
    (ss_one (st_ret (e_tup (a_cons e_str a_nil)))))
theorem sc__law_at : FnScope ["world", "variables", "row", "v"] ["world", "variables", "row"] (defScope s__law_at) := ⟨rfl, rfl, rfl, by decide +kernel, rfl, by decide +kernel, by decide +kernel⟩
def b__law_at : Stm :=
    (sRet (eCall F__law_chance (aCons (eVar 0) (aCons (eLc (iSeq (bVar 1)) (gNm 3) tYs (eTup (aCons (eVar 3) (aCons (eBin D.ix (bVar 2) (bVar 3)) aNil))) [3]) aNil))))
def F__law_at : Fn := fnD 4 b__law_at
theorem ok__law_at (T : Top K w P mg) : FnG P w K mg base 6 T.D__law_at.f T.D__law_at.d ["world", "variables", "row"] (spD ⟨K, w, P⟩ 3 F__law_at) := fnG_ok T.D__law_at.F sc__law_at (by decide) fun cdv A outer s H E hG hr =>
    (ss_one (st_ret (e_call (pe_callG hG (ok__law_chance T) (hr.mono (by decide)) (by rfl) T.D__law_chance.m T.D__law_chance.k T.D__law_chance.b (a_cons (e_var (pv 0)) (a_cons (e_of (n_lc (own := [("v", 3)]) rfl sc__law_at.nd (ib_seq (b_var (pv 1))) (blkOk_by (by kernel_rfl)) (fun _ _ _ _ _ => (g_name (pg_name sc__law_at.nd rfl (by first | exact Or.inl rfl | exact Or.inr rfl)) (by decide))) (fun _ _ _ _ _ => ts_nil) (fun _ _ _ _ _ => (e_tup (a_cons (e_var (pv 3)) (a_cons (e_ix (b_var (pv 2)) (b_var (pv 3))) a_nil)))))) a_nil))) (alS (alS al0)))))
theorem sc_judge_holding : FnScope ["world", "saying", "value", "x", "size"] ["world", "saying", "value"] (defScope s_judge_holding) := ⟨rfl, rfl, rfl, by decide +kernel, rfl, by decide +kernel, by decide +kernel⟩
def b_judge_holding : Stm :=
    (sSeq (sIf (tOr (tNo (tTru (eCB gIsi (aCons (bVar 2) (aCons (eC (.ty "tuple")) aNil))))) (tOr (tBl (eBin D.notInA (eCB gLen (aCons (bVar 2) aNil)) (eTup (aCons (eC (.int 1)) (aCons (eC (.int 2)) aNil))))) (tNo (tTru (eCB gIsi (aCons (eBin D.ix (bVar 2) (eC (.int 0))) (aCons (eC (.ty "str")) aNil))))))) (sRet (eC (.bl false))) sNx)
    (sSeq (sIf (tBl (eBin D.eq (eBin D.ix (bVar 2) (eC (.int 0))) (eC (.str "holds")))) (sRet (eAn (eBin D.eq (eCB gLen (aCons (bVar 2) aNil)) (eC (.int 1))) (eBin D.eq (eCall F_holding_paper (aCons (eVar 0) (aCons (eVar 1) aNil))) (bVar 2)))) sNx)
    (sSeq (sIf (tOr (tBl (eBin D.ne (eBin D.ix (bVar 2) (eC (.int 0))) (eC (.str "fails")))) (tOr (tBl (eBin D.ne (eCB gLen (aCons (bVar 2) aNil)) (eC (.int 2)))) (tOr (tNo (tTru (eCB gIsi (aCons (eBin D.ix (bVar 2) (eC (.int 1))) (aCons (eC (.ty "tuple")) aNil))))) (tBl (eBin D.ne (eCB gLen (aCons (eBin D.ix (bVar 2) (eC (.int 1))) aNil)) (eCB gLen (aCons (eBin D.ix (bVar 0) (eC (.int 0))) aNil))))))) (sRet (eC (.bl false))) sNx)
    (sSeq (sIf (tNo (tTru (eCB gAll (aCons (eLc (iZpA (aCons (eBin D.ix (bVar 2) (eC (.int 1))) (aCons (eBin D.ix (bVar 0) (eC (.int 0))) aNil))) (gTp 2 (gsCons (gNm 3) (gsCons (gNm 4) gsNil))) tYs (eAn (eCall F_is_integer (aCons (eVar 3) aNil)) (eChain D.le D.lt (eC (.int 0)) (bVar 3) (bVar 4))) [3, 4]) aNil)))) (sRet (eC (.bl false))) sNx)
    (sRet (eCall F_is_broken (aCons (eVar 0) (aCons (eVar 1) (aCons (eBin D.ix (bVar 2) (eC (.int 1))) aNil)))))))))
def F_judge_holding : Fn := fnD 5 b_judge_holding
theorem ok_judge_holding (T : Top K w P mg) : FnG P w K mg base 7 T.D_judge_holding.f T.D_judge_holding.d ["world", "saying", "value"] (spD ⟨K, w, P⟩ 3 F_judge_holding) := fnG_ok T.D_judge_holding.F sc_judge_holding (by decide) fun cdv A outer s H E hG hr =>
    (ss_cons (st_if (PW.pt (tw_or (t_not (t_tru (b_of (e_cb (pe_callB call_isi (by rfl) T.z_isinstance bt_isinstance (aq_cons (b_var (pv 2)) (aq_cons (b_of (e_ty (by rfl) T.z_tuple bt_tuple)) aq_nil))) isi_d)))) (tw_or (t_cmp (op_notInA hr.units) notInA_d (b_of (e_cb (pe_callB call_len (by rfl) T.z_len bt_len (aq_cons (b_var (pv 2)) aq_nil)) len_d)) (b_of (e_tup (a_cons e_int (a_cons e_int a_nil))))) (tw_or1 (t_not (t_tru (b_of (e_cb (pe_callB call_isi (by rfl) T.z_isinstance bt_isinstance (aq_cons (b_of (e_ix (b_var (pv 2)) (b_of e_int))) (aq_cons (b_of (e_ty (by rfl) T.z_str bt_str)) aq_nil))) isi_d)))))))) (ss_one (st_ret e_bl)) ss_nil)
    (ss_cons (st_if (t_cmp (op_eqP hr.units) eq_d (b_of (e_ix (b_var (pv 2)) (b_of e_int))) (b_of e_str)) (ss_one (st_ret (e_and (e_cmp (op_eqP hr.units) eq_d (b_of (e_cb (pe_callB call_len (by rfl) T.z_len bt_len (aq_cons (b_var (pv 2)) aq_nil)) len_d)) (b_of e_int)) (e_one (e_cmp (op_eqP hr.units) eq_d (b_of (e_call (pe_callG hG (ok_holding_paper T) (hr.mono (by decide)) (by rfl) T.D_holding_paper.m T.D_holding_paper.k T.D_holding_paper.b (a_cons (e_var (pv 0)) (a_cons (e_var (pv 1)) a_nil))) (alS (alS al0)))) (b_var (pv 2))))))) ss_nil)
    (ss_cons (st_if (PW.pt (tw_or (t_cmp (op_neP hr.units) ne_d (b_of (e_ix (b_var (pv 2)) (b_of e_int))) (b_of e_str)) (tw_or (t_cmp (op_neP hr.units) ne_d (b_of (e_cb (pe_callB call_len (by rfl) T.z_len bt_len (aq_cons (b_var (pv 2)) aq_nil)) len_d)) (b_of e_int)) (tw_or (t_not (t_tru (b_of (e_cb (pe_callB call_isi (by rfl) T.z_isinstance bt_isinstance (aq_cons (b_of (e_ix (b_var (pv 2)) (b_of e_int))) (aq_cons (b_of (e_ty (by rfl) T.z_tuple bt_tuple)) aq_nil))) isi_d)))) (tw_or1 (t_cmp (op_neP hr.units) ne_d (b_of (e_cb (pe_callB call_len (by rfl) T.z_len bt_len (aq_cons (b_of (e_ix (b_var (pv 2)) (b_of e_int))) aq_nil)) len_d)) (b_of (e_cb (pe_callB call_len (by rfl) T.z_len bt_len (aq_cons (b_of (e_ix (b_var (pv 0)) (b_of e_int))) aq_nil)) len_d)))))))) (ss_one (st_ret e_bl)) ss_nil)
    (ss_cons (st_if (t_not (t_tru (b_of (e_cb (pe_callB (cr_all (by rfl)) (by rfl) T.z_all bt_all (aq_cons (b_of (e_of (n_lc (own := [("x", 3), ("size", 4)]) rfl sc_judge_holding.nd (ib_zipA (pi_zipA (by rfl) T.z_zip (aq_cons (b_of (e_ix (b_var (pv 2)) (b_of e_int))) (aq_cons (b_of (e_ix (b_var (pv 0)) (b_of e_int))) aq_nil)))) (blkOk_by (by kernel_rfl)) (fun _ _ _ _ _ => (g_tup rfl (gs_cons (g_name (pg_name sc_judge_holding.nd rfl (by first | exact Or.inl rfl | exact Or.inr rfl)) (by decide)) (gs_cons (g_name (pg_name sc_judge_holding.nd rfl (by first | exact Or.inl rfl | exact Or.inr rfl)) (by decide)) gs_nil)))) (fun _ _ _ _ _ => ts_nil) (fun _ _ _ _ _ => (e_and (e_call (pe_callG hG (ok_is_integer T) (hr.mono (by decide)) (by rfl) T.D_is_integer.m T.D_is_integer.k T.D_is_integer.b (a_cons (e_var (pv 3)) a_nil)) (alS al0)) (e_one (e_chain op_le le_d op_lt lt_d (b_of e_int) (b_var (pv 3)) (b_var (pv 4))))))))) aq_nil)) all_d)))) (ss_one (st_ret e_bl)) ss_nil)
    (ss_one (st_ret (e_call (pe_callG hG (ok_is_broken T) (hr.mono (by decide)) (by rfl) T.D_is_broken.m T.D_is_broken.k T.D_is_broken.b (a_cons (e_var (pv 0)) (a_cons (e_var (pv 1)) (a_cons (e_ix (b_var (pv 2)) (b_of e_int)) a_nil)))) (alS (alS (alS al0))))))))))
theorem sc_sayings_of : FnScope ["world", "one"] ["world"] (defScope s_sayings_of) := ⟨rfl, rfl, rfl, by decide +kernel, rfl, by decide +kernel, by decide +kernel⟩
def b_sayings_of : Stm :=
    (sRet (eCB gTuple (aCons (eLc (iSeq (eCall F_all_sayings (aCons (eCB gLen (aCons (eBin D.ix (bVar 0) (eC (.int 0))) aNil)) aNil))) (gNm 1) (tBl (eBin D.eq (eCall F_holding_paper (aCons (eVar 0) (aCons (eVar 1) aNil))) (eTup (aCons (eC (.str "holds")) aNil)))) (eVar 1) [1]) aNil)))
def F_sayings_of : Fn := fnD 2 b_sayings_of
theorem ok_sayings_of (T : Top K w P mg) : FnG P w K mg base 7 T.D_sayings_of.f T.D_sayings_of.d ["world"] (spD ⟨K, w, P⟩ 1 F_sayings_of) := fnG_ok T.D_sayings_of.F sc_sayings_of (by decide) fun cdv A outer s H E hG hr =>
    (ss_one (st_ret (e_cb (pe_callTy call_tupleZ (by rfl) T.z_tuple bt_tuple (aq_cons (b_of (e_of (n_lc (own := [("one", 1)]) rfl sc_sayings_of.nd (ib_seq (b_of (e_call (pe_callG hG (ok_all_sayings T) (hr.mono (by decide)) (by rfl) T.D_all_sayings.m T.D_all_sayings.k T.D_all_sayings.b (a_cons (e_cb (pe_callB call_len (by rfl) T.z_len bt_len (aq_cons (b_of (e_ix (b_var (pv 0)) (b_of e_int))) aq_nil)) len_d) a_nil)) (alS al0)))) (blkOk_by (by kernel_rfl)) (fun _ _ _ _ _ => (g_name (pg_name sc_sayings_of.nd rfl (by first | exact Or.inl rfl | exact Or.inr rfl)) (by decide))) (fun _ _ _ _ _ => (ts_one (t_cmp (op_eqP hr.units) eq_d (b_of (e_call (pe_callG hG (ok_holding_paper T) (hr.mono (by decide)) (by rfl) T.D_holding_paper.m T.D_holding_paper.k T.D_holding_paper.b (a_cons (e_var (pv 0)) (a_cons (e_var (pv 1)) a_nil))) (alS (alS al0)))) (b_of (e_tup (a_cons e_str a_nil)))))) (fun _ _ _ _ _ => (e_var (pv 1)))))) aq_nil)) tuple_d)))
theorem sc__law_fails_at : FnScope ["world", "saying", "row", "first", "second", "seen", "left"] ["world", "saying", "row"] (defScope s__law_fails_at) := ⟨rfl, rfl, rfl, by decide +kernel, rfl, by decide +kernel, by decide +kernel⟩
def b__law_fails_at : Stm :=
    (sSeq (sAsg (eVar 1) (gTp 3 (gsCons (gNm 3) (gsCons (gNm 4) (gsCons (gNm 5) gsNil)))))
    (sSeq (sAsg (eCall F__law_times (aCons (eCall F__law_at (aCons (eVar 0) (aCons (eBin D.add (bVar 3) (bVar 5)) (aCons (eVar 2) aNil)))) (aCons (eCall F__law_at (aCons (eVar 0) (aCons (eBin D.add (bVar 4) (bVar 5)) (aCons (eVar 2) aNil)))) aNil))) (gNm 6))
    (sRet (eBin D.ne (bVar 6) (eCall F__law_times (aCons (eCall F__law_at (aCons (eVar 0) (aCons (eBin D.add (eBin D.add (bVar 3) (bVar 4)) (bVar 5)) (aCons (eVar 2) aNil)))) (aCons (eCall F__law_at (aCons (eVar 0) (aCons (eVar 5) (aCons (eVar 2) aNil)))) aNil)))))))
def F__law_fails_at : Fn := fnD 7 b__law_fails_at
theorem ok__law_fails_at (T : Top K w P mg) : FnG P w K mg base 7 T.D__law_fails_at.f T.D__law_fails_at.d ["world", "saying", "row"] (spD ⟨K, w, P⟩ 3 F__law_fails_at) := fnG_ok T.D__law_fails_at.F sc__law_fails_at (by decide) fun cdv A outer s H E hG hr =>
    (ss_cons (st_asg (vs := [3, 4, 5]) (ps_asg (e_var (pv 1)) (g_tup rfl (gs_cons (g_name (pg_name sc__law_fails_at.nd rfl (by first | exact Or.inl rfl | exact Or.inr rfl)) (by decide)) (gs_cons (g_name (pg_name sc__law_fails_at.nd rfl (by first | exact Or.inl rfl | exact Or.inr rfl)) (by decide)) (gs_cons (g_name (pg_name sc__law_fails_at.nd rfl (by first | exact Or.inl rfl | exact Or.inr rfl)) (by decide)) gs_nil))))))
    (ss_cons (st_set (ps_set (i := 6) sc__law_fails_at.nd rfl (by first | exact Or.inl rfl | exact Or.inr rfl) (e_call (pe_callG hG (ok__law_times T) (hr.mono (by decide)) (by rfl) T.D__law_times.m T.D__law_times.k T.D__law_times.b (a_cons (e_call (pe_callG hG (ok__law_at T) (hr.mono (by decide)) (by rfl) T.D__law_at.m T.D__law_at.k T.D__law_at.b (a_cons (e_var (pv 0)) (a_cons (e_bin op_addD add_d (b_var (pv 3)) (b_var (pv 5))) (a_cons (e_var (pv 2)) a_nil)))) (alS (alS (alS al0)))) (a_cons (e_call (pe_callG hG (ok__law_at T) (hr.mono (by decide)) (by rfl) T.D__law_at.m T.D__law_at.k T.D__law_at.b (a_cons (e_var (pv 0)) (a_cons (e_bin op_addD add_d (b_var (pv 4)) (b_var (pv 5))) (a_cons (e_var (pv 2)) a_nil)))) (alS (alS (alS al0)))) a_nil))) (alS (alS al0)))))
    (ss_one (st_ret (e_cmp (op_neP hr.units) ne_d (b_var (pv 6)) (b_of (e_call (pe_callG hG (ok__law_times T) (hr.mono (by decide)) (by rfl) T.D__law_times.m T.D__law_times.k T.D__law_times.b (a_cons (e_call (pe_callG hG (ok__law_at T) (hr.mono (by decide)) (by rfl) T.D__law_at.m T.D__law_at.k T.D__law_at.b (a_cons (e_var (pv 0)) (a_cons (e_bin op_addD add_d (b_of (e_bin op_addD add_d (b_var (pv 3)) (b_var (pv 4)))) (b_var (pv 5))) (a_cons (e_var (pv 2)) a_nil)))) (alS (alS (alS al0)))) (a_cons (e_call (pe_callG hG (ok__law_at T) (hr.mono (by decide)) (by rfl) T.D__law_at.m T.D__law_at.k T.D__law_at.b (a_cons (e_var (pv 0)) (a_cons (e_var (pv 5)) (a_cons (e_var (pv 2)) a_nil)))) (alS (alS (alS al0)))) a_nil))) (alS (alS al0)))))))))
theorem sc__law_spoilt : FnScope ["c", "value", "k"] ["c", "value"] (defScope s__law_spoilt) := ⟨rfl, rfl, rfl, by decide +kernel, rfl, by decide +kernel, by decide +kernel⟩
def F__law_spoilt_0 : Fn := fun _ _ => none
theorem ok__law_spoilt_0 (T : Top K w P mg) : FnG P w K mg base 3 T.D__law_spoilt.f T.D__law_spoilt.d ["c", "value"] (spD ⟨K, w, P⟩ 2 F__law_spoilt_0) := fnG_none
def b__law_spoilt_1 : Stm :=
    (sSeq (sIf (tTru (eCB gIsi (aCons (bVar 1) (aCons (eC (.ty "str")) aNil)))) (sRet (eBin D.ix (eLst (aCons (eC (.str "holds")) (aCons (eC (.str "fails")) (aCons (eC (.str "")) aNil)))) (eCall F__law_take (aCons (eVar 0) (aCons (eC (.int 3)) aNil))))) sNx)
    (sSeq (sIf (tNo (tTru (eCB gIsi (aCons (bVar 1) (aCons (eC (.ty "tuple")) aNil))))) (sRet (eBin D.ix (eLst (aCons (eC (.int 0)) (aCons (eC (.int 1)) (aCons (eC (.int 2)) (aCons (eC (.int 3)) (aCons (eBin D.sub (eC (.int 0)) (eC (.int 1))) (aCons (eC .non) (aCons (eC (.bl true)) (aCons (eC (.bl false)) (aCons (eTup aNil) aNil)))))))))) (eCall F__law_take (aCons (eVar 0) (aCons (eC (.int 9)) aNil))))) sNx)
    (sSeq (sIf (tOr (tNo (tTru (bVar 1))) (tBl (eBin D.eq (eCall F__law_take (aCons (eVar 0) (aCons (eC (.int 6)) aNil))) (eC (.int 0))))) (sRet (eBin D.ix (eLst (aCons (eSl D.slice (bVar 1) (pIs (eC (.int 1))) pNo) (aCons (eSl D.slice (bVar 1) pNo (pIs (eUn D.neg (eC (.int 1))))) (aCons (eBin D.add (bVar 1) (eSl D.slice (bVar 1) (pIs (eUn D.neg (eC (.int 1)))) pNo)) (aCons (eUn D.rev (bVar 1)) (aCons (eCB gList (aCons (bVar 1) aNil)) (aCons (eBin D.add (bVar 1) (eTup (aCons (eC (.int 0)) aNil))) (aCons (eTup aNil) aNil)))))))) (eCall F__law_take (aCons (eVar 0) (aCons (eC (.int 7)) aNil))))) sNx)
    (sSeq (sAsg (eCall F__law_take (aCons (eVar 0) (aCons (eCB gLen (aCons (bVar 1) aNil)) aNil))) (gNm 2))
    (sRet (eBin D.add (eBin D.add (eSl D.slice (bVar 1) pNo (pIs (bVar 2))) (eTup (aCons (eCall F__law_spoilt_0 (aCons (eVar 0) (aCons (eBin D.ix (bVar 1) (bVar 2)) aNil))) aNil))) (eSl D.slice (bVar 1) (pIs (eBin D.add (bVar 2) (eC (.int 1)))) pNo)))))))
def F__law_spoilt_1 : Fn := fnD 3 b__law_spoilt_1
theorem ok__law_spoilt_1 (T : Top K w P mg) : FnG P w K mg base 4 T.D__law_spoilt.f T.D__law_spoilt.d ["c", "value"] (spD ⟨K, w, P⟩ 2 F__law_spoilt_1) := fnG_ok T.D__law_spoilt.F sc__law_spoilt (by decide) fun cdv A outer s H E hG hr =>
    (ss_cons (st_if (t_tru (b_of (e_cb (pe_callB call_isi (by rfl) T.z_isinstance bt_isinstance (aq_cons (b_var (pv 1)) (aq_cons (b_of (e_ty (by rfl) T.z_str bt_str)) aq_nil))) isi_d))) (ss_one (st_ret (e_ix (b_of (e_of (n_lst (a_cons e_str (a_cons e_str (a_cons e_str a_nil)))))) (b_of (e_call (pe_callG hG (ok__law_take T) (hr.mono (by decide)) (by rfl) T.D__law_take.m T.D__law_take.k T.D__law_take.b (a_cons (e_var (pv 0)) (a_cons e_int a_nil))) (alS (alS al0))))))) ss_nil)
    (ss_cons (st_if (t_not (t_tru (b_of (e_cb (pe_callB call_isi (by rfl) T.z_isinstance bt_isinstance (aq_cons (b_var (pv 1)) (aq_cons (b_of (e_ty (by rfl) T.z_tuple bt_tuple)) aq_nil))) isi_d)))) (ss_one (st_ret (e_ix (b_of (e_of (n_lst (a_cons e_int (a_cons e_int (a_cons e_int (a_cons e_int (a_cons (e_bin op_sub sub_d (b_of e_int) (b_of e_int)) (a_cons e_non (a_cons e_bl (a_cons e_bl (a_cons (e_tup a_nil) a_nil)))))))))))) (b_of (e_call (pe_callG hG (ok__law_take T) (hr.mono (by decide)) (by rfl) T.D__law_take.m T.D__law_take.k T.D__law_take.b (a_cons (e_var (pv 0)) (a_cons e_int a_nil))) (alS (alS al0))))))) ss_nil)
    (ss_cons (st_if (PW.pt (tw_or (t_not (t_tru (b_var (pv 1)))) (tw_or1 (t_cmp (op_eqP hr.units) eq_d (b_of (e_call (pe_callG hG (ok__law_take T) (hr.mono (by decide)) (by rfl) T.D__law_take.m T.D__law_take.k T.D__law_take.b (a_cons (e_var (pv 0)) (a_cons e_int a_nil))) (alS (alS al0)))) (b_of e_int))))) (ss_one (st_ret (e_ix (b_of (e_of (n_lst (a_cons (e_sl sl_slice slice_d (b_var (pv 1)) (p_is (b_of e_int)) p_no) (a_cons (e_sl sl_slice slice_d (b_var (pv 1)) p_no (p_is (b_of (e_neg (b_of e_int))))) (a_cons (e_bin op_addD add_d (b_var (pv 1)) (b_of (e_sl sl_slice slice_d (b_var (pv 1)) (p_is (b_of (e_neg (b_of e_int)))) p_no))) (a_cons (e_rev (b_var (pv 1))) (a_cons (e_of (n_cb (pe_callTy call_list_of (by rfl) T.z_list bt_list (aq_cons (b_var (pv 1)) aq_nil)) list_f)) (a_cons (e_bin op_addD add_d (b_var (pv 1)) (b_of (e_tup (a_cons e_int a_nil)))) (a_cons (e_tup a_nil) a_nil)))))))))) (b_of (e_call (pe_callG hG (ok__law_take T) (hr.mono (by decide)) (by rfl) T.D__law_take.m T.D__law_take.k T.D__law_take.b (a_cons (e_var (pv 0)) (a_cons e_int a_nil))) (alS (alS al0))))))) ss_nil)
    (ss_cons (st_set (ps_set (i := 2) sc__law_spoilt.nd rfl (by first | exact Or.inl rfl | exact Or.inr rfl) (e_call (pe_callG hG (ok__law_take T) (hr.mono (by decide)) (by rfl) T.D__law_take.m T.D__law_take.k T.D__law_take.b (a_cons (e_var (pv 0)) (a_cons (e_cb (pe_callB call_len (by rfl) T.z_len bt_len (aq_cons (b_var (pv 1)) aq_nil)) len_d) a_nil))) (alS (alS al0)))))
    (ss_one (st_ret (e_bin op_addD add_d (b_of (e_bin op_addD add_d (b_of (e_sl sl_slice slice_d (b_var (pv 1)) p_no (p_is (b_var (pv 2))))) (b_of (e_tup (a_cons (e_call (pe_callG hG (ok__law_spoilt_0 T) (hr.mono (by decide)) (by rfl) T.D__law_spoilt.m T.D__law_spoilt.k T.D__law_spoilt.b (a_cons (e_var (pv 0)) (a_cons (e_ix (b_var (pv 1)) (b_var (pv 2))) a_nil))) (alS (alS al0))) a_nil))))) (b_of (e_sl sl_slice slice_d (b_var (pv 1)) (p_is (b_of (e_bin op_addD add_d (b_var (pv 2)) (b_of e_int)))) p_no)))))))))
def b__law_spoilt_2 : Stm :=
    (sSeq (sIf (tTru (eCB gIsi (aCons (bVar 1) (aCons (eC (.ty "str")) aNil)))) (sRet (eBin D.ix (eLst (aCons (eC (.str "holds")) (aCons (eC (.str "fails")) (aCons (eC (.str "")) aNil)))) (eCall F__law_take (aCons (eVar 0) (aCons (eC (.int 3)) aNil))))) sNx)
    (sSeq (sIf (tNo (tTru (eCB gIsi (aCons (bVar 1) (aCons (eC (.ty "tuple")) aNil))))) (sRet (eBin D.ix (eLst (aCons (eC (.int 0)) (aCons (eC (.int 1)) (aCons (eC (.int 2)) (aCons (eC (.int 3)) (aCons (eBin D.sub (eC (.int 0)) (eC (.int 1))) (aCons (eC .non) (aCons (eC (.bl true)) (aCons (eC (.bl false)) (aCons (eTup aNil) aNil)))))))))) (eCall F__law_take (aCons (eVar 0) (aCons (eC (.int 9)) aNil))))) sNx)
    (sSeq (sIf (tOr (tNo (tTru (bVar 1))) (tBl (eBin D.eq (eCall F__law_take (aCons (eVar 0) (aCons (eC (.int 6)) aNil))) (eC (.int 0))))) (sRet (eBin D.ix (eLst (aCons (eSl D.slice (bVar 1) (pIs (eC (.int 1))) pNo) (aCons (eSl D.slice (bVar 1) pNo (pIs (eUn D.neg (eC (.int 1))))) (aCons (eBin D.add (bVar 1) (eSl D.slice (bVar 1) (pIs (eUn D.neg (eC (.int 1)))) pNo)) (aCons (eUn D.rev (bVar 1)) (aCons (eCB gList (aCons (bVar 1) aNil)) (aCons (eBin D.add (bVar 1) (eTup (aCons (eC (.int 0)) aNil))) (aCons (eTup aNil) aNil)))))))) (eCall F__law_take (aCons (eVar 0) (aCons (eC (.int 7)) aNil))))) sNx)
    (sSeq (sAsg (eCall F__law_take (aCons (eVar 0) (aCons (eCB gLen (aCons (bVar 1) aNil)) aNil))) (gNm 2))
    (sRet (eBin D.add (eBin D.add (eSl D.slice (bVar 1) pNo (pIs (bVar 2))) (eTup (aCons (eCall F__law_spoilt_1 (aCons (eVar 0) (aCons (eBin D.ix (bVar 1) (bVar 2)) aNil))) aNil))) (eSl D.slice (bVar 1) (pIs (eBin D.add (bVar 2) (eC (.int 1)))) pNo)))))))
def F__law_spoilt_2 : Fn := fnD 3 b__law_spoilt_2
theorem ok__law_spoilt_2 (T : Top K w P mg) : FnG P w K mg base 5 T.D__law_spoilt.f T.D__law_spoilt.d ["c", "value"] (spD ⟨K, w, P⟩ 2 F__law_spoilt_2) := fnG_ok T.D__law_spoilt.F sc__law_spoilt (by decide) fun cdv A outer s H E hG hr =>
    (ss_cons (st_if (t_tru (b_of (e_cb (pe_callB call_isi (by rfl) T.z_isinstance bt_isinstance (aq_cons (b_var (pv 1)) (aq_cons (b_of (e_ty (by rfl) T.z_str bt_str)) aq_nil))) isi_d))) (ss_one (st_ret (e_ix (b_of (e_of (n_lst (a_cons e_str (a_cons e_str (a_cons e_str a_nil)))))) (b_of (e_call (pe_callG hG (ok__law_take T) (hr.mono (by decide)) (by rfl) T.D__law_take.m T.D__law_take.k T.D__law_take.b (a_cons (e_var (pv 0)) (a_cons e_int a_nil))) (alS (alS al0))))))) ss_nil)
    (ss_cons (st_if (t_not (t_tru (b_of (e_cb (pe_callB call_isi (by rfl) T.z_isinstance bt_isinstance (aq_cons (b_var (pv 1)) (aq_cons (b_of (e_ty (by rfl) T.z_tuple bt_tuple)) aq_nil))) isi_d)))) (ss_one (st_ret (e_ix (b_of (e_of (n_lst (a_cons e_int (a_cons e_int (a_cons e_int (a_cons e_int (a_cons (e_bin op_sub sub_d (b_of e_int) (b_of e_int)) (a_cons e_non (a_cons e_bl (a_cons e_bl (a_cons (e_tup a_nil) a_nil)))))))))))) (b_of (e_call (pe_callG hG (ok__law_take T) (hr.mono (by decide)) (by rfl) T.D__law_take.m T.D__law_take.k T.D__law_take.b (a_cons (e_var (pv 0)) (a_cons e_int a_nil))) (alS (alS al0))))))) ss_nil)
    (ss_cons (st_if (PW.pt (tw_or (t_not (t_tru (b_var (pv 1)))) (tw_or1 (t_cmp (op_eqP hr.units) eq_d (b_of (e_call (pe_callG hG (ok__law_take T) (hr.mono (by decide)) (by rfl) T.D__law_take.m T.D__law_take.k T.D__law_take.b (a_cons (e_var (pv 0)) (a_cons e_int a_nil))) (alS (alS al0)))) (b_of e_int))))) (ss_one (st_ret (e_ix (b_of (e_of (n_lst (a_cons (e_sl sl_slice slice_d (b_var (pv 1)) (p_is (b_of e_int)) p_no) (a_cons (e_sl sl_slice slice_d (b_var (pv 1)) p_no (p_is (b_of (e_neg (b_of e_int))))) (a_cons (e_bin op_addD add_d (b_var (pv 1)) (b_of (e_sl sl_slice slice_d (b_var (pv 1)) (p_is (b_of (e_neg (b_of e_int)))) p_no))) (a_cons (e_rev (b_var (pv 1))) (a_cons (e_of (n_cb (pe_callTy call_list_of (by rfl) T.z_list bt_list (aq_cons (b_var (pv 1)) aq_nil)) list_f)) (a_cons (e_bin op_addD add_d (b_var (pv 1)) (b_of (e_tup (a_cons e_int a_nil)))) (a_cons (e_tup a_nil) a_nil)))))))))) (b_of (e_call (pe_callG hG (ok__law_take T) (hr.mono (by decide)) (by rfl) T.D__law_take.m T.D__law_take.k T.D__law_take.b (a_cons (e_var (pv 0)) (a_cons e_int a_nil))) (alS (alS al0))))))) ss_nil)
    (ss_cons (st_set (ps_set (i := 2) sc__law_spoilt.nd rfl (by first | exact Or.inl rfl | exact Or.inr rfl) (e_call (pe_callG hG (ok__law_take T) (hr.mono (by decide)) (by rfl) T.D__law_take.m T.D__law_take.k T.D__law_take.b (a_cons (e_var (pv 0)) (a_cons (e_cb (pe_callB call_len (by rfl) T.z_len bt_len (aq_cons (b_var (pv 1)) aq_nil)) len_d) a_nil))) (alS (alS al0)))))
    (ss_one (st_ret (e_bin op_addD add_d (b_of (e_bin op_addD add_d (b_of (e_sl sl_slice slice_d (b_var (pv 1)) p_no (p_is (b_var (pv 2))))) (b_of (e_tup (a_cons (e_call (pe_callG hG (ok__law_spoilt_1 T) (hr.mono (by decide)) (by rfl) T.D__law_spoilt.m T.D__law_spoilt.k T.D__law_spoilt.b (a_cons (e_var (pv 0)) (a_cons (e_ix (b_var (pv 1)) (b_var (pv 2))) a_nil))) (alS (alS al0))) a_nil))))) (b_of (e_sl sl_slice slice_d (b_var (pv 1)) (p_is (b_of (e_bin op_addD add_d (b_var (pv 2)) (b_of e_int)))) p_no)))))))))
def b__law_spoilt_3 : Stm :=
    (sSeq (sIf (tTru (eCB gIsi (aCons (bVar 1) (aCons (eC (.ty "str")) aNil)))) (sRet (eBin D.ix (eLst (aCons (eC (.str "holds")) (aCons (eC (.str "fails")) (aCons (eC (.str "")) aNil)))) (eCall F__law_take (aCons (eVar 0) (aCons (eC (.int 3)) aNil))))) sNx)
    (sSeq (sIf (tNo (tTru (eCB gIsi (aCons (bVar 1) (aCons (eC (.ty "tuple")) aNil))))) (sRet (eBin D.ix (eLst (aCons (eC (.int 0)) (aCons (eC (.int 1)) (aCons (eC (.int 2)) (aCons (eC (.int 3)) (aCons (eBin D.sub (eC (.int 0)) (eC (.int 1))) (aCons (eC .non) (aCons (eC (.bl true)) (aCons (eC (.bl false)) (aCons (eTup aNil) aNil)))))))))) (eCall F__law_take (aCons (eVar 0) (aCons (eC (.int 9)) aNil))))) sNx)
    (sSeq (sIf (tOr (tNo (tTru (bVar 1))) (tBl (eBin D.eq (eCall F__law_take (aCons (eVar 0) (aCons (eC (.int 6)) aNil))) (eC (.int 0))))) (sRet (eBin D.ix (eLst (aCons (eSl D.slice (bVar 1) (pIs (eC (.int 1))) pNo) (aCons (eSl D.slice (bVar 1) pNo (pIs (eUn D.neg (eC (.int 1))))) (aCons (eBin D.add (bVar 1) (eSl D.slice (bVar 1) (pIs (eUn D.neg (eC (.int 1)))) pNo)) (aCons (eUn D.rev (bVar 1)) (aCons (eCB gList (aCons (bVar 1) aNil)) (aCons (eBin D.add (bVar 1) (eTup (aCons (eC (.int 0)) aNil))) (aCons (eTup aNil) aNil)))))))) (eCall F__law_take (aCons (eVar 0) (aCons (eC (.int 7)) aNil))))) sNx)
    (sSeq (sAsg (eCall F__law_take (aCons (eVar 0) (aCons (eCB gLen (aCons (bVar 1) aNil)) aNil))) (gNm 2))
    (sRet (eBin D.add (eBin D.add (eSl D.slice (bVar 1) pNo (pIs (bVar 2))) (eTup (aCons (eCall F__law_spoilt_2 (aCons (eVar 0) (aCons (eBin D.ix (bVar 1) (bVar 2)) aNil))) aNil))) (eSl D.slice (bVar 1) (pIs (eBin D.add (bVar 2) (eC (.int 1)))) pNo)))))))
def F__law_spoilt_3 : Fn := fnD 3 b__law_spoilt_3
theorem ok__law_spoilt_3 (T : Top K w P mg) : FnG P w K mg base 6 T.D__law_spoilt.f T.D__law_spoilt.d ["c", "value"] (spD ⟨K, w, P⟩ 2 F__law_spoilt_3) := fnG_ok T.D__law_spoilt.F sc__law_spoilt (by decide) fun cdv A outer s H E hG hr =>
    (ss_cons (st_if (t_tru (b_of (e_cb (pe_callB call_isi (by rfl) T.z_isinstance bt_isinstance (aq_cons (b_var (pv 1)) (aq_cons (b_of (e_ty (by rfl) T.z_str bt_str)) aq_nil))) isi_d))) (ss_one (st_ret (e_ix (b_of (e_of (n_lst (a_cons e_str (a_cons e_str (a_cons e_str a_nil)))))) (b_of (e_call (pe_callG hG (ok__law_take T) (hr.mono (by decide)) (by rfl) T.D__law_take.m T.D__law_take.k T.D__law_take.b (a_cons (e_var (pv 0)) (a_cons e_int a_nil))) (alS (alS al0))))))) ss_nil)
    (ss_cons (st_if (t_not (t_tru (b_of (e_cb (pe_callB call_isi (by rfl) T.z_isinstance bt_isinstance (aq_cons (b_var (pv 1)) (aq_cons (b_of (e_ty (by rfl) T.z_tuple bt_tuple)) aq_nil))) isi_d)))) (ss_one (st_ret (e_ix (b_of (e_of (n_lst (a_cons e_int (a_cons e_int (a_cons e_int (a_cons e_int (a_cons (e_bin op_sub sub_d (b_of e_int) (b_of e_int)) (a_cons e_non (a_cons e_bl (a_cons e_bl (a_cons (e_tup a_nil) a_nil)))))))))))) (b_of (e_call (pe_callG hG (ok__law_take T) (hr.mono (by decide)) (by rfl) T.D__law_take.m T.D__law_take.k T.D__law_take.b (a_cons (e_var (pv 0)) (a_cons e_int a_nil))) (alS (alS al0))))))) ss_nil)
    (ss_cons (st_if (PW.pt (tw_or (t_not (t_tru (b_var (pv 1)))) (tw_or1 (t_cmp (op_eqP hr.units) eq_d (b_of (e_call (pe_callG hG (ok__law_take T) (hr.mono (by decide)) (by rfl) T.D__law_take.m T.D__law_take.k T.D__law_take.b (a_cons (e_var (pv 0)) (a_cons e_int a_nil))) (alS (alS al0)))) (b_of e_int))))) (ss_one (st_ret (e_ix (b_of (e_of (n_lst (a_cons (e_sl sl_slice slice_d (b_var (pv 1)) (p_is (b_of e_int)) p_no) (a_cons (e_sl sl_slice slice_d (b_var (pv 1)) p_no (p_is (b_of (e_neg (b_of e_int))))) (a_cons (e_bin op_addD add_d (b_var (pv 1)) (b_of (e_sl sl_slice slice_d (b_var (pv 1)) (p_is (b_of (e_neg (b_of e_int)))) p_no))) (a_cons (e_rev (b_var (pv 1))) (a_cons (e_of (n_cb (pe_callTy call_list_of (by rfl) T.z_list bt_list (aq_cons (b_var (pv 1)) aq_nil)) list_f)) (a_cons (e_bin op_addD add_d (b_var (pv 1)) (b_of (e_tup (a_cons e_int a_nil)))) (a_cons (e_tup a_nil) a_nil)))))))))) (b_of (e_call (pe_callG hG (ok__law_take T) (hr.mono (by decide)) (by rfl) T.D__law_take.m T.D__law_take.k T.D__law_take.b (a_cons (e_var (pv 0)) (a_cons e_int a_nil))) (alS (alS al0))))))) ss_nil)
    (ss_cons (st_set (ps_set (i := 2) sc__law_spoilt.nd rfl (by first | exact Or.inl rfl | exact Or.inr rfl) (e_call (pe_callG hG (ok__law_take T) (hr.mono (by decide)) (by rfl) T.D__law_take.m T.D__law_take.k T.D__law_take.b (a_cons (e_var (pv 0)) (a_cons (e_cb (pe_callB call_len (by rfl) T.z_len bt_len (aq_cons (b_var (pv 1)) aq_nil)) len_d) a_nil))) (alS (alS al0)))))
    (ss_one (st_ret (e_bin op_addD add_d (b_of (e_bin op_addD add_d (b_of (e_sl sl_slice slice_d (b_var (pv 1)) p_no (p_is (b_var (pv 2))))) (b_of (e_tup (a_cons (e_call (pe_callG hG (ok__law_spoilt_2 T) (hr.mono (by decide)) (by rfl) T.D__law_spoilt.m T.D__law_spoilt.k T.D__law_spoilt.b (a_cons (e_var (pv 0)) (a_cons (e_ix (b_var (pv 1)) (b_var (pv 2))) a_nil))) (alS (alS al0))) a_nil))))) (b_of (e_sl sl_slice slice_d (b_var (pv 1)) (p_is (b_of (e_bin op_addD add_d (b_var (pv 2)) (b_of e_int)))) p_no)))))))))
def b__law_spoilt_4 : Stm :=
    (sSeq (sIf (tTru (eCB gIsi (aCons (bVar 1) (aCons (eC (.ty "str")) aNil)))) (sRet (eBin D.ix (eLst (aCons (eC (.str "holds")) (aCons (eC (.str "fails")) (aCons (eC (.str "")) aNil)))) (eCall F__law_take (aCons (eVar 0) (aCons (eC (.int 3)) aNil))))) sNx)
    (sSeq (sIf (tNo (tTru (eCB gIsi (aCons (bVar 1) (aCons (eC (.ty "tuple")) aNil))))) (sRet (eBin D.ix (eLst (aCons (eC (.int 0)) (aCons (eC (.int 1)) (aCons (eC (.int 2)) (aCons (eC (.int 3)) (aCons (eBin D.sub (eC (.int 0)) (eC (.int 1))) (aCons (eC .non) (aCons (eC (.bl true)) (aCons (eC (.bl false)) (aCons (eTup aNil) aNil)))))))))) (eCall F__law_take (aCons (eVar 0) (aCons (eC (.int 9)) aNil))))) sNx)
    (sSeq (sIf (tOr (tNo (tTru (bVar 1))) (tBl (eBin D.eq (eCall F__law_take (aCons (eVar 0) (aCons (eC (.int 6)) aNil))) (eC (.int 0))))) (sRet (eBin D.ix (eLst (aCons (eSl D.slice (bVar 1) (pIs (eC (.int 1))) pNo) (aCons (eSl D.slice (bVar 1) pNo (pIs (eUn D.neg (eC (.int 1))))) (aCons (eBin D.add (bVar 1) (eSl D.slice (bVar 1) (pIs (eUn D.neg (eC (.int 1)))) pNo)) (aCons (eUn D.rev (bVar 1)) (aCons (eCB gList (aCons (bVar 1) aNil)) (aCons (eBin D.add (bVar 1) (eTup (aCons (eC (.int 0)) aNil))) (aCons (eTup aNil) aNil)))))))) (eCall F__law_take (aCons (eVar 0) (aCons (eC (.int 7)) aNil))))) sNx)
    (sSeq (sAsg (eCall F__law_take (aCons (eVar 0) (aCons (eCB gLen (aCons (bVar 1) aNil)) aNil))) (gNm 2))
    (sRet (eBin D.add (eBin D.add (eSl D.slice (bVar 1) pNo (pIs (bVar 2))) (eTup (aCons (eCall F__law_spoilt_3 (aCons (eVar 0) (aCons (eBin D.ix (bVar 1) (bVar 2)) aNil))) aNil))) (eSl D.slice (bVar 1) (pIs (eBin D.add (bVar 2) (eC (.int 1)))) pNo)))))))
def F__law_spoilt_4 : Fn := fnD 3 b__law_spoilt_4
theorem ok__law_spoilt_4 (T : Top K w P mg) : FnG P w K mg base 7 T.D__law_spoilt.f T.D__law_spoilt.d ["c", "value"] (spD ⟨K, w, P⟩ 2 F__law_spoilt_4) := fnG_ok T.D__law_spoilt.F sc__law_spoilt (by decide) fun cdv A outer s H E hG hr =>
    (ss_cons (st_if (t_tru (b_of (e_cb (pe_callB call_isi (by rfl) T.z_isinstance bt_isinstance (aq_cons (b_var (pv 1)) (aq_cons (b_of (e_ty (by rfl) T.z_str bt_str)) aq_nil))) isi_d))) (ss_one (st_ret (e_ix (b_of (e_of (n_lst (a_cons e_str (a_cons e_str (a_cons e_str a_nil)))))) (b_of (e_call (pe_callG hG (ok__law_take T) (hr.mono (by decide)) (by rfl) T.D__law_take.m T.D__law_take.k T.D__law_take.b (a_cons (e_var (pv 0)) (a_cons e_int a_nil))) (alS (alS al0))))))) ss_nil)
    (ss_cons (st_if (t_not (t_tru (b_of (e_cb (pe_callB call_isi (by rfl) T.z_isinstance bt_isinstance (aq_cons (b_var (pv 1)) (aq_cons (b_of (e_ty (by rfl) T.z_tuple bt_tuple)) aq_nil))) isi_d)))) (ss_one (st_ret (e_ix (b_of (e_of (n_lst (a_cons e_int (a_cons e_int (a_cons e_int (a_cons e_int (a_cons (e_bin op_sub sub_d (b_of e_int) (b_of e_int)) (a_cons e_non (a_cons e_bl (a_cons e_bl (a_cons (e_tup a_nil) a_nil)))))))))))) (b_of (e_call (pe_callG hG (ok__law_take T) (hr.mono (by decide)) (by rfl) T.D__law_take.m T.D__law_take.k T.D__law_take.b (a_cons (e_var (pv 0)) (a_cons e_int a_nil))) (alS (alS al0))))))) ss_nil)
    (ss_cons (st_if (PW.pt (tw_or (t_not (t_tru (b_var (pv 1)))) (tw_or1 (t_cmp (op_eqP hr.units) eq_d (b_of (e_call (pe_callG hG (ok__law_take T) (hr.mono (by decide)) (by rfl) T.D__law_take.m T.D__law_take.k T.D__law_take.b (a_cons (e_var (pv 0)) (a_cons e_int a_nil))) (alS (alS al0)))) (b_of e_int))))) (ss_one (st_ret (e_ix (b_of (e_of (n_lst (a_cons (e_sl sl_slice slice_d (b_var (pv 1)) (p_is (b_of e_int)) p_no) (a_cons (e_sl sl_slice slice_d (b_var (pv 1)) p_no (p_is (b_of (e_neg (b_of e_int))))) (a_cons (e_bin op_addD add_d (b_var (pv 1)) (b_of (e_sl sl_slice slice_d (b_var (pv 1)) (p_is (b_of (e_neg (b_of e_int)))) p_no))) (a_cons (e_rev (b_var (pv 1))) (a_cons (e_of (n_cb (pe_callTy call_list_of (by rfl) T.z_list bt_list (aq_cons (b_var (pv 1)) aq_nil)) list_f)) (a_cons (e_bin op_addD add_d (b_var (pv 1)) (b_of (e_tup (a_cons e_int a_nil)))) (a_cons (e_tup a_nil) a_nil)))))))))) (b_of (e_call (pe_callG hG (ok__law_take T) (hr.mono (by decide)) (by rfl) T.D__law_take.m T.D__law_take.k T.D__law_take.b (a_cons (e_var (pv 0)) (a_cons e_int a_nil))) (alS (alS al0))))))) ss_nil)
    (ss_cons (st_set (ps_set (i := 2) sc__law_spoilt.nd rfl (by first | exact Or.inl rfl | exact Or.inr rfl) (e_call (pe_callG hG (ok__law_take T) (hr.mono (by decide)) (by rfl) T.D__law_take.m T.D__law_take.k T.D__law_take.b (a_cons (e_var (pv 0)) (a_cons (e_cb (pe_callB call_len (by rfl) T.z_len bt_len (aq_cons (b_var (pv 1)) aq_nil)) len_d) a_nil))) (alS (alS al0)))))
    (ss_one (st_ret (e_bin op_addD add_d (b_of (e_bin op_addD add_d (b_of (e_sl sl_slice slice_d (b_var (pv 1)) p_no (p_is (b_var (pv 2))))) (b_of (e_tup (a_cons (e_call (pe_callG hG (ok__law_spoilt_3 T) (hr.mono (by decide)) (by rfl) T.D__law_spoilt.m T.D__law_spoilt.k T.D__law_spoilt.b (a_cons (e_var (pv 0)) (a_cons (e_ix (b_var (pv 1)) (b_var (pv 2))) a_nil))) (alS (alS al0))) a_nil))))) (b_of (e_sl sl_slice slice_d (b_var (pv 1)) (p_is (b_of (e_bin op_addD add_d (b_var (pv 2)) (b_of e_int)))) p_no)))))))))
def b__law_spoilt_5 : Stm :=
    (sSeq (sIf (tTru (eCB gIsi (aCons (bVar 1) (aCons (eC (.ty "str")) aNil)))) (sRet (eBin D.ix (eLst (aCons (eC (.str "holds")) (aCons (eC (.str "fails")) (aCons (eC (.str "")) aNil)))) (eCall F__law_take (aCons (eVar 0) (aCons (eC (.int 3)) aNil))))) sNx)
    (sSeq (sIf (tNo (tTru (eCB gIsi (aCons (bVar 1) (aCons (eC (.ty "tuple")) aNil))))) (sRet (eBin D.ix (eLst (aCons (eC (.int 0)) (aCons (eC (.int 1)) (aCons (eC (.int 2)) (aCons (eC (.int 3)) (aCons (eBin D.sub (eC (.int 0)) (eC (.int 1))) (aCons (eC .non) (aCons (eC (.bl true)) (aCons (eC (.bl false)) (aCons (eTup aNil) aNil)))))))))) (eCall F__law_take (aCons (eVar 0) (aCons (eC (.int 9)) aNil))))) sNx)
    (sSeq (sIf (tOr (tNo (tTru (bVar 1))) (tBl (eBin D.eq (eCall F__law_take (aCons (eVar 0) (aCons (eC (.int 6)) aNil))) (eC (.int 0))))) (sRet (eBin D.ix (eLst (aCons (eSl D.slice (bVar 1) (pIs (eC (.int 1))) pNo) (aCons (eSl D.slice (bVar 1) pNo (pIs (eUn D.neg (eC (.int 1))))) (aCons (eBin D.add (bVar 1) (eSl D.slice (bVar 1) (pIs (eUn D.neg (eC (.int 1)))) pNo)) (aCons (eUn D.rev (bVar 1)) (aCons (eCB gList (aCons (bVar 1) aNil)) (aCons (eBin D.add (bVar 1) (eTup (aCons (eC (.int 0)) aNil))) (aCons (eTup aNil) aNil)))))))) (eCall F__law_take (aCons (eVar 0) (aCons (eC (.int 7)) aNil))))) sNx)
    (sSeq (sAsg (eCall F__law_take (aCons (eVar 0) (aCons (eCB gLen (aCons (bVar 1) aNil)) aNil))) (gNm 2))
    (sRet (eBin D.add (eBin D.add (eSl D.slice (bVar 1) pNo (pIs (bVar 2))) (eTup (aCons (eCall F__law_spoilt_4 (aCons (eVar 0) (aCons (eBin D.ix (bVar 1) (bVar 2)) aNil))) aNil))) (eSl D.slice (bVar 1) (pIs (eBin D.add (bVar 2) (eC (.int 1)))) pNo)))))))
def F__law_spoilt_5 : Fn := fnD 3 b__law_spoilt_5
theorem ok__law_spoilt_5 (T : Top K w P mg) : FnG P w K mg base 8 T.D__law_spoilt.f T.D__law_spoilt.d ["c", "value"] (spD ⟨K, w, P⟩ 2 F__law_spoilt_5) := fnG_ok T.D__law_spoilt.F sc__law_spoilt (by decide) fun cdv A outer s H E hG hr =>
    (ss_cons (st_if (t_tru (b_of (e_cb (pe_callB call_isi (by rfl) T.z_isinstance bt_isinstance (aq_cons (b_var (pv 1)) (aq_cons (b_of (e_ty (by rfl) T.z_str bt_str)) aq_nil))) isi_d))) (ss_one (st_ret (e_ix (b_of (e_of (n_lst (a_cons e_str (a_cons e_str (a_cons e_str a_nil)))))) (b_of (e_call (pe_callG hG (ok__law_take T) (hr.mono (by decide)) (by rfl) T.D__law_take.m T.D__law_take.k T.D__law_take.b (a_cons (e_var (pv 0)) (a_cons e_int a_nil))) (alS (alS al0))))))) ss_nil)
    (ss_cons (st_if (t_not (t_tru (b_of (e_cb (pe_callB call_isi (by rfl) T.z_isinstance bt_isinstance (aq_cons (b_var (pv 1)) (aq_cons (b_of (e_ty (by rfl) T.z_tuple bt_tuple)) aq_nil))) isi_d)))) (ss_one (st_ret (e_ix (b_of (e_of (n_lst (a_cons e_int (a_cons e_int (a_cons e_int (a_cons e_int (a_cons (e_bin op_sub sub_d (b_of e_int) (b_of e_int)) (a_cons e_non (a_cons e_bl (a_cons e_bl (a_cons (e_tup a_nil) a_nil)))))))))))) (b_of (e_call (pe_callG hG (ok__law_take T) (hr.mono (by decide)) (by rfl) T.D__law_take.m T.D__law_take.k T.D__law_take.b (a_cons (e_var (pv 0)) (a_cons e_int a_nil))) (alS (alS al0))))))) ss_nil)
    (ss_cons (st_if (PW.pt (tw_or (t_not (t_tru (b_var (pv 1)))) (tw_or1 (t_cmp (op_eqP hr.units) eq_d (b_of (e_call (pe_callG hG (ok__law_take T) (hr.mono (by decide)) (by rfl) T.D__law_take.m T.D__law_take.k T.D__law_take.b (a_cons (e_var (pv 0)) (a_cons e_int a_nil))) (alS (alS al0)))) (b_of e_int))))) (ss_one (st_ret (e_ix (b_of (e_of (n_lst (a_cons (e_sl sl_slice slice_d (b_var (pv 1)) (p_is (b_of e_int)) p_no) (a_cons (e_sl sl_slice slice_d (b_var (pv 1)) p_no (p_is (b_of (e_neg (b_of e_int))))) (a_cons (e_bin op_addD add_d (b_var (pv 1)) (b_of (e_sl sl_slice slice_d (b_var (pv 1)) (p_is (b_of (e_neg (b_of e_int)))) p_no))) (a_cons (e_rev (b_var (pv 1))) (a_cons (e_of (n_cb (pe_callTy call_list_of (by rfl) T.z_list bt_list (aq_cons (b_var (pv 1)) aq_nil)) list_f)) (a_cons (e_bin op_addD add_d (b_var (pv 1)) (b_of (e_tup (a_cons e_int a_nil)))) (a_cons (e_tup a_nil) a_nil)))))))))) (b_of (e_call (pe_callG hG (ok__law_take T) (hr.mono (by decide)) (by rfl) T.D__law_take.m T.D__law_take.k T.D__law_take.b (a_cons (e_var (pv 0)) (a_cons e_int a_nil))) (alS (alS al0))))))) ss_nil)
    (ss_cons (st_set (ps_set (i := 2) sc__law_spoilt.nd rfl (by first | exact Or.inl rfl | exact Or.inr rfl) (e_call (pe_callG hG (ok__law_take T) (hr.mono (by decide)) (by rfl) T.D__law_take.m T.D__law_take.k T.D__law_take.b (a_cons (e_var (pv 0)) (a_cons (e_cb (pe_callB call_len (by rfl) T.z_len bt_len (aq_cons (b_var (pv 1)) aq_nil)) len_d) a_nil))) (alS (alS al0)))))
    (ss_one (st_ret (e_bin op_addD add_d (b_of (e_bin op_addD add_d (b_of (e_sl sl_slice slice_d (b_var (pv 1)) p_no (p_is (b_var (pv 2))))) (b_of (e_tup (a_cons (e_call (pe_callG hG (ok__law_spoilt_4 T) (hr.mono (by decide)) (by rfl) T.D__law_spoilt.m T.D__law_spoilt.k T.D__law_spoilt.b (a_cons (e_var (pv 0)) (a_cons (e_ix (b_var (pv 1)) (b_var (pv 2))) a_nil))) (alS (alS al0))) a_nil))))) (b_of (e_sl sl_slice slice_d (b_var (pv 1)) (p_is (b_of (e_bin op_addD add_d (b_var (pv 2)) (b_of e_int)))) p_no)))))))))
def b__law_spoilt_6 : Stm :=
    (sSeq (sIf (tTru (eCB gIsi (aCons (bVar 1) (aCons (eC (.ty "str")) aNil)))) (sRet (eBin D.ix (eLst (aCons (eC (.str "holds")) (aCons (eC (.str "fails")) (aCons (eC (.str "")) aNil)))) (eCall F__law_take (aCons (eVar 0) (aCons (eC (.int 3)) aNil))))) sNx)
    (sSeq (sIf (tNo (tTru (eCB gIsi (aCons (bVar 1) (aCons (eC (.ty "tuple")) aNil))))) (sRet (eBin D.ix (eLst (aCons (eC (.int 0)) (aCons (eC (.int 1)) (aCons (eC (.int 2)) (aCons (eC (.int 3)) (aCons (eBin D.sub (eC (.int 0)) (eC (.int 1))) (aCons (eC .non) (aCons (eC (.bl true)) (aCons (eC (.bl false)) (aCons (eTup aNil) aNil)))))))))) (eCall F__law_take (aCons (eVar 0) (aCons (eC (.int 9)) aNil))))) sNx)
    (sSeq (sIf (tOr (tNo (tTru (bVar 1))) (tBl (eBin D.eq (eCall F__law_take (aCons (eVar 0) (aCons (eC (.int 6)) aNil))) (eC (.int 0))))) (sRet (eBin D.ix (eLst (aCons (eSl D.slice (bVar 1) (pIs (eC (.int 1))) pNo) (aCons (eSl D.slice (bVar 1) pNo (pIs (eUn D.neg (eC (.int 1))))) (aCons (eBin D.add (bVar 1) (eSl D.slice (bVar 1) (pIs (eUn D.neg (eC (.int 1)))) pNo)) (aCons (eUn D.rev (bVar 1)) (aCons (eCB gList (aCons (bVar 1) aNil)) (aCons (eBin D.add (bVar 1) (eTup (aCons (eC (.int 0)) aNil))) (aCons (eTup aNil) aNil)))))))) (eCall F__law_take (aCons (eVar 0) (aCons (eC (.int 7)) aNil))))) sNx)
    (sSeq (sAsg (eCall F__law_take (aCons (eVar 0) (aCons (eCB gLen (aCons (bVar 1) aNil)) aNil))) (gNm 2))
    (sRet (eBin D.add (eBin D.add (eSl D.slice (bVar 1) pNo (pIs (bVar 2))) (eTup (aCons (eCall F__law_spoilt_5 (aCons (eVar 0) (aCons (eBin D.ix (bVar 1) (bVar 2)) aNil))) aNil))) (eSl D.slice (bVar 1) (pIs (eBin D.add (bVar 2) (eC (.int 1)))) pNo)))))))
def F__law_spoilt_6 : Fn := fnD 3 b__law_spoilt_6
theorem ok__law_spoilt_6 (T : Top K w P mg) : FnG P w K mg base 9 T.D__law_spoilt.f T.D__law_spoilt.d ["c", "value"] (spD ⟨K, w, P⟩ 2 F__law_spoilt_6) := fnG_ok T.D__law_spoilt.F sc__law_spoilt (by decide) fun cdv A outer s H E hG hr =>
    (ss_cons (st_if (t_tru (b_of (e_cb (pe_callB call_isi (by rfl) T.z_isinstance bt_isinstance (aq_cons (b_var (pv 1)) (aq_cons (b_of (e_ty (by rfl) T.z_str bt_str)) aq_nil))) isi_d))) (ss_one (st_ret (e_ix (b_of (e_of (n_lst (a_cons e_str (a_cons e_str (a_cons e_str a_nil)))))) (b_of (e_call (pe_callG hG (ok__law_take T) (hr.mono (by decide)) (by rfl) T.D__law_take.m T.D__law_take.k T.D__law_take.b (a_cons (e_var (pv 0)) (a_cons e_int a_nil))) (alS (alS al0))))))) ss_nil)
    (ss_cons (st_if (t_not (t_tru (b_of (e_cb (pe_callB call_isi (by rfl) T.z_isinstance bt_isinstance (aq_cons (b_var (pv 1)) (aq_cons (b_of (e_ty (by rfl) T.z_tuple bt_tuple)) aq_nil))) isi_d)))) (ss_one (st_ret (e_ix (b_of (e_of (n_lst (a_cons e_int (a_cons e_int (a_cons e_int (a_cons e_int (a_cons (e_bin op_sub sub_d (b_of e_int) (b_of e_int)) (a_cons e_non (a_cons e_bl (a_cons e_bl (a_cons (e_tup a_nil) a_nil)))))))))))) (b_of (e_call (pe_callG hG (ok__law_take T) (hr.mono (by decide)) (by rfl) T.D__law_take.m T.D__law_take.k T.D__law_take.b (a_cons (e_var (pv 0)) (a_cons e_int a_nil))) (alS (alS al0))))))) ss_nil)
    (ss_cons (st_if (PW.pt (tw_or (t_not (t_tru (b_var (pv 1)))) (tw_or1 (t_cmp (op_eqP hr.units) eq_d (b_of (e_call (pe_callG hG (ok__law_take T) (hr.mono (by decide)) (by rfl) T.D__law_take.m T.D__law_take.k T.D__law_take.b (a_cons (e_var (pv 0)) (a_cons e_int a_nil))) (alS (alS al0)))) (b_of e_int))))) (ss_one (st_ret (e_ix (b_of (e_of (n_lst (a_cons (e_sl sl_slice slice_d (b_var (pv 1)) (p_is (b_of e_int)) p_no) (a_cons (e_sl sl_slice slice_d (b_var (pv 1)) p_no (p_is (b_of (e_neg (b_of e_int))))) (a_cons (e_bin op_addD add_d (b_var (pv 1)) (b_of (e_sl sl_slice slice_d (b_var (pv 1)) (p_is (b_of (e_neg (b_of e_int)))) p_no))) (a_cons (e_rev (b_var (pv 1))) (a_cons (e_of (n_cb (pe_callTy call_list_of (by rfl) T.z_list bt_list (aq_cons (b_var (pv 1)) aq_nil)) list_f)) (a_cons (e_bin op_addD add_d (b_var (pv 1)) (b_of (e_tup (a_cons e_int a_nil)))) (a_cons (e_tup a_nil) a_nil)))))))))) (b_of (e_call (pe_callG hG (ok__law_take T) (hr.mono (by decide)) (by rfl) T.D__law_take.m T.D__law_take.k T.D__law_take.b (a_cons (e_var (pv 0)) (a_cons e_int a_nil))) (alS (alS al0))))))) ss_nil)
    (ss_cons (st_set (ps_set (i := 2) sc__law_spoilt.nd rfl (by first | exact Or.inl rfl | exact Or.inr rfl) (e_call (pe_callG hG (ok__law_take T) (hr.mono (by decide)) (by rfl) T.D__law_take.m T.D__law_take.k T.D__law_take.b (a_cons (e_var (pv 0)) (a_cons (e_cb (pe_callB call_len (by rfl) T.z_len bt_len (aq_cons (b_var (pv 1)) aq_nil)) len_d) a_nil))) (alS (alS al0)))))
    (ss_one (st_ret (e_bin op_addD add_d (b_of (e_bin op_addD add_d (b_of (e_sl sl_slice slice_d (b_var (pv 1)) p_no (p_is (b_var (pv 2))))) (b_of (e_tup (a_cons (e_call (pe_callG hG (ok__law_spoilt_5 T) (hr.mono (by decide)) (by rfl) T.D__law_spoilt.m T.D__law_spoilt.k T.D__law_spoilt.b (a_cons (e_var (pv 0)) (a_cons (e_ix (b_var (pv 1)) (b_var (pv 2))) a_nil))) (alS (alS al0))) a_nil))))) (b_of (e_sl sl_slice slice_d (b_var (pv 1)) (p_is (b_of (e_bin op_addD add_d (b_var (pv 2)) (b_of e_int)))) p_no)))))))))
abbrev F__law_spoilt : Fn := F__law_spoilt_6
theorem ok__law_spoilt (T : Top K w P mg) : FnG P w K mg base 9 T.D__law_spoilt.f T.D__law_spoilt.d ["c", "value"] (spD ⟨K, w, P⟩ 2 F__law_spoilt) := ok__law_spoilt_6 T
theorem sc__law_bent : FnScope ["c", "value", "turn", "k"] ["c", "value", "turn"] (defScope s__law_bent) := ⟨rfl, rfl, rfl, by decide +kernel, rfl, by decide +kernel, by decide +kernel⟩
def b__law_bent : Stm :=
    (sSeq (sFor (iRng (aCons (eBin D.mul (eCB gInt (aCons (eBin D.gt (bVar 2) (eC (.int 0))) aNil)) (eBin D.add (eC (.int 1)) (eCall F__law_take (aCons (eVar 0) (aCons (eC (.int 2)) aNil))))) aNil)) (gNm 3)
    (sAsg (eCall F__law_spoilt (aCons (eVar 0) (aCons (eVar 1) aNil))) (gNm 1)))
    (sRet (eVar 1)))
def F__law_bent : Fn := fnD 4 b__law_bent
theorem ok__law_bent (T : Top K w P mg) : FnG P w K mg base 10 T.D__law_bent.f T.D__law_bent.d ["c", "value", "turn"] (spD ⟨K, w, P⟩ 3 F__law_bent) := fnG_ok T.D__law_bent.F sc__law_bent (by decide) fun cdv A outer s H E hG hr =>
    (ss_cons (st_for (vs := [3]) PassesOwn.never rfl (it_range1 (pi_range1 (by rfl) T.z_range (aq_cons (b_of (e_bin op_mulW mul_d (b_of (e_cb (pe_callTy call_int1 (by rfl) T.z_int bt_int (aq_cons (b_of (e_cmp op_gt gt_d (b_var (pv 2)) (b_of e_int))) aq_nil)) int_c)) (b_of (e_bin op_addD add_d (b_of e_int) (b_of (e_call (pe_callG hG (ok__law_take T) (hr.mono (by decide)) (by rfl) T.D__law_take.m T.D__law_take.k T.D__law_take.b (a_cons (e_var (pv 0)) (a_cons e_int a_nil))) (alS (alS al0)))))))) aq_nil)) (alS al0)) (g_name (pg_name sc__law_bent.nd rfl (by first | exact Or.inl rfl | exact Or.inr rfl)) (by decide))
    (ss_one (st_set (ps_set (i := 1) sc__law_bent.nd rfl (by first | exact Or.inl rfl | exact Or.inr rfl) (e_call (pe_callG hG (ok__law_spoilt T) (hr.mono (by decide)) (by rfl) T.D__law_spoilt.m T.D__law_spoilt.k T.D__law_spoilt.b (a_cons (e_var (pv 0)) (a_cons (e_var (pv 1)) a_nil))) (alS (alS al0)))))))
    (ss_one (st_ret (e_var (pv 1)))))
end
end W13

set_option Elab.async false
set_option linter.all false
set_option maxRecDepth 100000
set_option maxHeartbeats 4000000
namespace W13
open PySem PySem.Spec PyProof.Rows L2 DL
/-! ## the class Closing, by hand: where the sayings are closed already, nothing is added -/
theorem kWS : ¬ (("way" : Str) = "steps") := by decide +kernel
theorem kWO : ¬ (("way" : Str) = "order") := by decide +kernel
theorem kSO : ¬ (("steps" : Str) = "order") := by decide +kernel
def flds (way : Str) (d l : Addr) : List (Str × V) := putF "order" (.ref l) (putF "steps" (.ref d) (putF "way" (.str way) []))
theorem flds_way (way : Str) (d l : Addr) : (flds way d l).lookup ("way" : Str) = some (.str way) := by
  unfold flds
  rw [lookup_putF, if_neg kWO, lookup_putF, if_neg kWS, lookup_putF, if_pos rfl]
theorem flds_steps (way : Str) (d l : Addr) : (flds way d l).lookup ("steps" : Str) = some (.ref d) := by
  unfold flds
  rw [lookup_putF, if_neg kSO, lookup_putF, if_pos rfl]
theorem flds_order (way : Str) (d l : Addr) : (flds way d l).lookup ("order" : Str) = some (.ref l) := by
  unfold flds
  rw [lookup_putF, if_pos rfl]
theorem flds_no (way : Str) (d l : Addr) {m : Str} (h1 : ¬ m = "way") (h2 : ¬ m = "steps") (h3 : ¬ m = "order") : (flds way d l).lookup m = none := by
  unfold flds
  rw [lookup_putF, if_neg h3, lookup_putF, if_neg h2, lookup_putF, if_neg h1]
  rfl
section
variable {K : Fw} {W W' : Wd} {H H' : Hp}
mutual
theorem rp_frz (f : ∀ b o u, H b = some (.frz o u) → H' b = some (.frz o u)) : ∀ {d : D} {v : V} {k : NestedKey}, d.nk = some k → Rp K W H v d → Rp K W' H' v d
  | .non, _, _, _, r => by cases r; exact .non
  | .bl b, _, _, _, r => by cases r; exact .bl b
  | .int i, _, _, _, r => by cases r; exact .int i
  | .str x, _, _, _, r => by cases r; exact .str x
  | .tup xs, _, _, h, r => by
    cases r with
    | tup q z rs =>
      simp only [D.nk] at h
      obtain ⟨ks, hk, _⟩ := Option.map_eq_some_iff.mp h
      exact .tup (q.step f) z (rps_frz f hk rs)
  | .lst _, _, _, h, _ => by simp [D.nk] at h
  | .ty _, _, _, h, _ => by simp [D.nk] at h
  | .ref _, _, _, h, _ => by simp [D.nk] at h
  | .scr _, _, _, h, _ => by simp [D.nk] at h
  | .dct _ _, _, _, h, _ => by simp [D.nk] at h
theorem rps_frz (f : ∀ b o u, H b = some (.frz o u) → H' b = some (.frz o u)) : ∀ {ds : List D} {vs : List V} {ks : List NestedKey}, D.nks ds = some ks → Rps K W H vs ds → Rps K W' H' vs ds
  | [], _, _, _, r => by cases r; exact .nil
  | d :: ds, _, _, h, r => by
    simp only [D.nks] at h
    obtain ⟨k, h1, h2⟩ := Option.bind_eq_some_iff.mp h
    obtain ⟨ks, h3, _⟩ := Option.map_eq_some_iff.mp h2
    cases r with
    | cons a b => exact .cons (rp_frz f h1 a) (rps_frz f h3 b)
end
theorem keyOk_nk {d : D} {k : NestedKey} (h : d.keyOk true = some k) : d.nk = some k := by
  cases d with
  | tup xs =>
    unfold D.keyOk at h
    obtain ⟨k', e1, e2⟩ := Option.bind_eq_some_iff.mp h
    by_cases z : k'.depth ≤ 8
    · rw [if_pos z] at e2; cases e2; exact e1
    · rw [if_neg z] at e2; cases e2
  | _ => cases h
theorem rps_key (f : ∀ b o u, H b = some (.frz o u) → H' b = some (.frz o u)) : ∀ {ks : List D} {vs : List V}, (∀ x ∈ ks, ∃ k, D.keyOk true x = some k) → Rps K W H vs ks → Rps K W' H' vs ks
  | [], _, _, r => by cases r; exact .nil
  | d :: ds, _, h, r => by
    cases r with
    | cons a b =>
      obtain ⟨k, hk⟩ := h d (.head _)
      exact .cons (rp_frz f (keyOk_nk hk) a) (rps_key f (fun x hx => h x (.tail _ hx)) b)
end
/-- a Closing stands at p, its steps at d, its order at l: the sayings ks, each once -/
structure Ob (K : Fw) (C : Addr) (W : Wd) (H : Hp) (p d l : Addr) (way : Str) (ks : List D) : Prop where
  ins : ∃ dx, H p = some (.ins C dx (flds way d l))
  dn : ∃ xs o, H d = some (DnAt K.pg K.wd d xs o) ∧ Rps K W H (xs.map fun x => V.ref x.2.1) ks ∧ ks.map D.nk = xs.map (fun x => some x.1) ∧ ∀ x ∈ xs, x.1.depth ≤ 8
  ls : ∃ vs, H l = some (.lst vs) ∧ Rps K W H vs ks
  np : ¬ Mu W p
  nd : ¬ Mu W d
  nl : ¬ Mu W l
  key : ∀ x ∈ ks, ∃ k, D.keyOk true x = some k
  z : ks.length ≤ 1000
section
variable {K : Fw} {C : Addr} {W : Wd} {H H' : Hp} {p d l : Addr} {way : Str} {ks : List D}
theorem th_of {b : Addr} (n : ¬ Mu W b) : b ∉ W.θ := fun z => n (.inr (.inl z))
theorem Ob.stepE (h : Ob K C W H p d l way ks) (s : StepE W.θ H H') : Ob K C W H' p d l way ks := by
  obtain ⟨dx, h1⟩ := h.ins
  obtain ⟨xs, o, h2, h3, h4, h5⟩ := h.dn
  obtain ⟨vs, h6, h7⟩ := h.ls
  exact ⟨⟨dx, s.keep p _ h1 (th_of h.np)⟩, ⟨xs, o, s.keep d _ h2 (th_of h.nd), h3.stepE s, h4, h5⟩, ⟨vs, s.keep l _ h6 (th_of h.nl), h7.stepE s⟩, h.np, h.nd, h.nl, h.key, h.z⟩
theorem Ob.ne (h : Ob K C W H p d l way ks) : p ≠ d ∧ p ≠ l ∧ d ≠ l := by
  obtain ⟨dx, h1⟩ := h.ins
  obtain ⟨xs, o, h2, _⟩ := h.dn
  obtain ⟨vs, h6, _⟩ := h.ls
  refine ⟨fun e => ?_, fun e => ?_, fun e => ?_⟩
  · rw [e, h2] at h1; cases h1
  · rw [e, h6] at h1; cases h1
  · rw [e, h6] at h2; cases h2
theorem find_none {k : NestedKey} : ∀ {xs : DnX}, findN xs k = none ↔ ∀ x ∈ xs, x.1 ≠ k
  | [] => by simp [findN]
  | x :: xs => by
    by_cases e : x.1 = k
    · simp [findN, e]
    · have := find_none (k := k) (xs := xs)
      simp only [findN, Option.map_eq_none_iff] at this
      simp [findN, e, this]
theorem find_mem {k : NestedKey} {xs : DnX} (h4 : ks.map D.nk = xs.map (fun x => some x.1)) {x : D} (hx : x ∈ ks) (hk : x.nk = some k) : (findN xs k).isSome = true := by
  cases e : findN xs k with
  | some v => rfl
  | none =>
    have a := find_none.mp e
    have : some k ∈ ks.map D.nk := List.mem_map.mpr ⟨x, hx, hk⟩
    rw [h4] at this
    obtain ⟨y, hy, e2⟩ := List.mem_map.mp this
    exact absurd (Option.some.inj e2) (a y hy)
theorem find_new {k : NestedKey} {xs : DnX} (h4 : ks.map D.nk = xs.map (fun x => some x.1)) (hn : ∀ x ∈ ks, x.nk ≠ some k) : findN xs k = none := find_none.mpr fun y hy e => by
  have : some y.1 ∈ xs.map (fun x => some x.1) := List.mem_map.mpr ⟨y, hy, rfl⟩
  rw [← h4] at this
  obtain ⟨x, hx, e2⟩ := List.mem_map.mp this
  exact hn x hx (by rw [e2, e])
/-- one saying more -/
theorem Ob.add (h : Ob K C W H p d l way ks) {b : Addr} {dv : D} {v : V} {k : NestedKey} {xs : DnX} {o o' : Obj} {vs : List V} (hd : H d = some (DnAt K.pg K.wd d xs o)) (h3 : Rps K W H (xs.map fun x => V.ref x.2.1) ks) (h4 : ks.map D.nk = xs.map (fun x => some x.1)) (h5 : ∀ x ∈ xs, x.1.depth ≤ 8)
    (hl : H l = some (.lst vs)) (h7 : Rps K W H vs ks) (r : Rp K W H (.ref b) dv) (hk : dv.keyOk true = some k) (hdp : k.depth ≤ 8) (hn : ∀ x ∈ ks, x.nk ≠ some k) (z : ks.length < 1000) :
    Ob K C W (upd (upd H d (DnAt K.pg K.wd d (putN xs k b v) o')) l (.lst (vs ++ [.ref b]))) p d l way (ks ++ [dv]) := by
  obtain ⟨n1, n2, n3⟩ := h.ne
  obtain ⟨dx, h1⟩ := h.ins
  have e : putN xs k b v = xs ++ [(k, b, v)] := by
    unfold putN
    rw [find_new h4 hn]
    rfl
  have f : ∀ c oo u, H c = some (.frz oo u) → upd (upd H d (DnAt K.pg K.wd d (putN xs k b v) o')) l (.lst (vs ++ [.ref b])) c = some (.frz oo u) := fun c oo u hc => by
    have c1 : c ≠ l := fun z => by rw [z, hl] at hc; cases hc
    have c2 : c ≠ d := fun z => by rw [z, hd] at hc; cases hc
    rw [upd_ne c1, upd_ne c2]
    exact hc
  have rd := rp_frz (W' := W) f (keyOk_nk hk) r
  refine ⟨⟨dx, by rw [upd_ne n2, upd_ne n1]; exact h1⟩, ⟨putN xs k b v, o', by rw [upd_ne n3, upd_same], ?_, ?_, ?_⟩, ⟨_, upd_same, (rps_key f h.key h7).append (.cons rd .nil)⟩, h.np, h.nd, h.nl, ?_, by rw [List.length_append, List.length_singleton]; omega⟩
  · have e2 : (putN xs k b v).map (fun x => V.ref x.2.1) = xs.map (fun x => V.ref x.2.1) ++ [V.ref b] := by
      rw [e, List.map_append]
      rfl
    rw [e2]
    exact (rps_key f h.key h3).append (.cons rd .nil)
  · rw [e, List.map_append, List.map_append, h4, List.map_cons, List.map_cons, keyOk_nk hk]
    rfl
  · rw [e]
    intro x hx
    rcases List.mem_append.mp hx with hx | hx
    · exact h5 x hx
    · rw [List.mem_singleton.mp hx]; exact hdp
  · intro x hx
    rcases List.mem_append.mp hx with hx | hx
    · exact h.key x hx
    · rw [List.mem_singleton.mp hx]; exact ⟨k, hk⟩
end
def spAdd (K : Fw) (C : Addr) : Sp := fun vs H Q _ => ∃ (W : Wd) (p d l : Addr) (way : Str) (ks : List D) (dv : D) (v st : V), vs = [.ref p, v, st] ∧ Ob K C W H p d l way ks ∧ Rp K W H v dv ∧
  (((dv = .non ∨ dv ∈ ks) ∧ Q .non H) ∨ (∃ k, dv.keyOk true = some k ∧ (∀ x ∈ ks, x.nk ≠ some k) ∧ ks.length < 1000 ∧ ∀ H', (∀ b, b ≠ d → b ≠ l → H' b = H b) → Ob K C W H' p d l way (ks ++ [dv]) → Q .non H'))
section
variable {P : Program} {w : World} {K : PySem.W.Frag} {mg : Str → Option Value} {base : Heap}
theorem sc_C_add : FnScope ["self", "saying", "step"] ["self", "saying", "step"] (defScope s_C_add) := ⟨rfl, rfl, rfl, by decide +kernel, rfl, by decide +kernel, by decide +kernel⟩
theorem ok_C_add (T : Top K w P mg) : FnG P w K mg base 1 T.cl.add.f T.cl.add.d ["self", "saying", "step"] (spAdd ⟨K, w, P⟩ T.cl.C) := by
  refine funG_ok T.cl.add.F sc_C_add (fun vs H Q E h => ?_) (fun cdv A outer s H vs Q E hG hr h => ?_)
  · obtain ⟨W, p, d, l, way, ks, dv, v, st, rfl, _⟩ := h
    rfl
  · obtain ⟨W, p, d, l, way, ks, dv, v, st, rfl, O, rv, h⟩ := h
    obtain ⟨n1, n2, n3⟩ := O.ne
    obtain ⟨dx, h1⟩ := O.ins
    obtain ⟨xs, o, h2, h3, h4, h5⟩ := O.dn
    obtain ⟨vs, h6, h7⟩ := O.ls
    have hu := Nat.lt_of_le_of_lt (Nat.add_le_add_left (show 16 ≤ 64 by decide) _) hr.units
    refine ⟨_, pss_one (ps_if (PW.pt (pw_and (pt_cmpR op_notN (pv 1) pe_non (nomark _)) (pw_and1 (pt_cmp (pc_dnnotin hu (pv 1) (pe_fld (pv 0) rfl))))))
      (pss_cons (ps_dnput hu (pe_fld (pv 0) rfl) (pv 1) (pv 2)) (pss_one (ps_expr (pe_bm PySem.F.plainAttrs_list PySem.F.slot_list_append PySem.F.type_list_append mt_append (pe_fld (pv 0) rfl) (pa_cons (pv 1) pa_nil))))) pss_nil), ?_⟩
    refine ⟨v, rfl, rfl, _, rfl, ?_⟩
    have full : ∀ k, dv.keyOk true = some k → ∃ b, v = .ref b ∧ NkIs (cxOf CX0 P w K mg base ["self", "saying", "step"] "Closing.add" (defScope s_C_add) T.cl.add.f cdv A outer s H E).nox H b k ∧ dv.nk = some k ∧ k.depth ≤ 8 := fun k hk => keyOk_ref rv hk
    rcases h with ⟨h | h, q⟩ | ⟨k, hk, hn, hz, q⟩
    · subst h
      cases rv
      exact q
    · obtain ⟨k, hk⟩ := O.key dv h
      obtain ⟨b, rfl, nk, hk2, hdp⟩ := full k hk
      have hf := find_mem h4 h hk2
      refine (iteT (A := _) (B := _) ?_ : if true = true then _ else _)
      refine ⟨_, rfl, _, rfl, p, T.cl.C, dx, _, _, rfl, h1, T.cl.cl, T.cl.nS, flds_steps _ _ _, d, xs, b, k, rfl, rfl, dnIs_of h2 h3 h4 h5, nk, _, rfl, ?_⟩
      rw [hf]
      exact q
    · obtain ⟨b, rfl, nk, hk2, hdp⟩ := full k hk
      have hf := find_new h4 hn
      refine (iteT (A := _) (B := _) ?_ : if true = true then _ else _)
      refine ⟨_, rfl, _, rfl, p, T.cl.C, dx, _, _, rfl, h1, T.cl.cl, T.cl.nS, flds_steps _ _ _, d, xs, b, k, rfl, rfl, dnIs_of h2 h3 h4 h5, nk, _, rfl, ?_⟩
      rw [hf]
      refine (iteT (A := _) (B := _) ?_ : if true = true then _ else _)
      have hl : xs.length = ks.length := by have := h3.length; rwa [List.length_map] at this
      refine ⟨_, rfl, _, rfl, p, T.cl.C, dx, _, _, rfl, h1, T.cl.cl, T.cl.nS, flds_steps _ _ _, _, rfl, d, xs, b, k, rfl, rfl, dnIs_of h2 h3 h4 h5, nk, by rw [hl]; exact Nat.lt_of_lt_of_le hz (by decide), fun o' => ?_⟩
      refine ⟨_, rfl, p, T.cl.C, dx, _, _, rfl, by rw [upd_ne n1]; exact h1, T.cl.cl, T.cl.nO, flds_order _ _ _, .inl ⟨rfl, _, SqL.of (by rw [upd_ne n3.symm]; exact h6)⟩, _, rfl, l, vs, _, rfl, rfl, by rw [upd_ne n3.symm]; exact h6, by rw [h7.length]; exact Nat.lt_of_lt_of_le hz (by decide), ?_⟩
      exact q _ (fun c c1 c2 => by rw [upd_ne c2, upd_ne c1]) (O.add h2 h3 h4 h5 h6 h7 rv hk hdp hn hz)
end
end W13

set_option Elab.async false
set_option linter.all false
set_option maxRecDepth 100000
set_option maxHeartbeats 4000000
namespace W13
open PySem PySem.Spec PyProof.Rows L2 DL
/-- nothing is added by the rules of the way -/
structure ClosedC (ks : List D) (way : Str) (S : Sto) : Prop where
  tur : ∀ x ∈ ks, ∃ y, F_turned [x] S = some (y, S) ∧ y ∈ ks
  par : ∀ x ∈ ks, ∃ a b c ps, x = .tup [a, b, c] ∧ F_parts_of [b] S = some (.lst ps, S) ∧ ∀ q ∈ ps, D.tup [a, q, c] ∈ ks ∧ ∃ y, F_weak [x, q] S = some (y, S) ∧ y ∈ ks
  joi : ∀ x ∈ ks, ∀ y ∈ ks, ∃ z, F_joined [x, y] S = some (z, S) ∧ (z = .non ∨ z ∈ ks)
  cro : way = "above" → ∀ x ∈ ks, ∀ y ∈ ks, ∃ z, F_crossed [x, y] S = some (z, S) ∧ (z = .non ∨ z ∈ ks)
def spPair (K : Fw) (C : Addr) : Sp := fun vs H Q _ => ∃ (W : Wd) (S : Sto) (p d l : Addr) (way : Str) (ks : List D) (d1 d2 : D) (v1 v2 : V), vs = [.ref p, v1, v2] ∧ Ob K C W H p d l way ks ∧ StOk K W H S ∧ WfW W H ∧ Rp K W H v1 d1 ∧ Rp K W H v2 d2 ∧
  (∃ z, F_joined [d1, d2] S = some (z, S) ∧ (z = .non ∨ z ∈ ks)) ∧ (way = "above" → ∃ z, F_crossed [d1, d2] S = some (z, S) ∧ (z = .non ∨ z ∈ ks)) ∧ ∀ H', StepE W.θ H H' → StOk K W H' S → Q .non H'
section
variable {P : Program} {w : World} {K : PySem.W.Frag} {mg : Str → Option Value} {base : Heap}
theorem sc_C_pair : FnScope ["self", "one", "two"] ["self", "one", "two"] (defScope s_C_pair) := ⟨rfl, rfl, rfl, by decide +kernel, rfl, by decide +kernel, by decide +kernel⟩
theorem ok_C_pair (T : Top K w P mg) : FnG P w K mg base 3 T.cl.pair.f T.cl.pair.d ["self", "one", "two"] (spPair ⟨K, w, P⟩ T.cl.C) := by
  refine funG_ok T.cl.pair.F sc_C_pair (fun vs H Q E h => ?_) (fun cdv A outer s H vs Q E hG hr h => ?_)
  · obtain ⟨W, S, p, d, l, way, ks, d1, d2, v1, v2, rfl, _⟩ := h
    rfl
  · obtain ⟨W, S, p, d, l, way, ks, d1, d2, v1, v2, rfl, O, st, wf, r1, r2, ⟨z, fz, hz⟩, hc, q⟩ := h
    obtain ⟨dx, h1⟩ := O.ins
    refine ⟨_, pss_cons (ps_expr (pe_methG hG (pv 0) T.cl.cl T.cl.add.m (ok_C_add T) (hr.mono (by decide)) T.cl.add.b (pa_cons (pe_callG hG (ok_joined T) hr (by rfl) T.D_joined.m T.D_joined.k T.D_joined.b (pa_cons (pv 1) (pa_cons (pv 2) pa_nil))) (pa_cons (pe_tupZ (pa_cons pe_str (pa_cons (pv 1) (pa_cons (pv 2) pa_nil)))) pa_nil))))
      (pss_one (ps_if (pt_cmpR op_eq (pe_fld (pv 0) rfl) pe_str (nomark _)) (pss_one (ps_expr (pe_methG hG (pv 0) T.cl.cl T.cl.add.m (ok_C_add T) (hr.mono (by decide)) T.cl.add.b (pa_cons (pe_callG hG (ok_crossed T) hr (by rfl) T.D_crossed.m T.D_crossed.k T.D_crossed.b (pa_cons (pv 1) (pa_cons (pv 2) pa_nil))) (pa_cons (pe_tupZ (pa_cons pe_str (pa_cons (pv 1) (pa_cons (pv 2) pa_nil)))) pa_nil))))) pss_nil)), ?_⟩
    refine ⟨_, rfl, p, dx, _, rfl, h1, flds_no _ _ _ (by decide +kernel) (by decide +kernel) (by decide +kernel), _, rfl, _, rfl, W, [d1, d2], S, z, S, rfl, .cons r1 (.cons r2 .nil), st, wf, fz, fun v H1 s1 st1 rz => ?_⟩
    refine ⟨_, rfl, _, rfl, by show 3 ≤ sizeLine; decide, fun t o nt od => ?_⟩
    have sm := upd_Same (o := .frz o (.tup [V.str "joined", v1, v2])) nt
    have s2 := s1.trans (.same sm)
    have st2 := st1.same sm
    have O2 := O.stepE s2
    refine ⟨W, p, d, l, way, ks, z, v, _, rfl, O2, (rz.stepE (.same sm)), .inl ⟨hz, ?_⟩⟩
    obtain ⟨dx2, h2⟩ := O2.ins
    refine ⟨_, rfl, p, T.cl.C, dx2, _, _, rfl, h2, T.cl.cl, T.cl.nW, flds_way _ _ _, rfl, _, rfl, ?_⟩
    by_cases c : way = "above"
    · obtain ⟨y, fy, hy⟩ := hc c
      have e : decide (V.str way = V.str "above") = true := decide_eq_true (by rw [c])
      rw [e]
      refine (iteT (A := _) (B := _) ?_ : if true = true then _ else _)
      refine ⟨_, rfl, p, dx2, _, rfl, h2, flds_no _ _ _ (by decide +kernel) (by decide +kernel) (by decide +kernel), _, rfl, _, rfl, W, [d1, d2], S, y, S, rfl, .cons (r1.stepE s2) (.cons (r2.stepE s2) .nil), st2, wf.stepE s2, fy, fun v H3 s3 st3 ry => ?_⟩
      refine ⟨_, rfl, _, rfl, by show 3 ≤ sizeLine; decide, fun t o nt od => ?_⟩
      have sm := upd_Same (o := .frz o (.tup [V.str "crossed", v1, v2])) nt
      have s4 := (s2.trans s3).trans (.same sm)
      refine ⟨W, p, d, l, way, ks, y, v, _, rfl, O.stepE s4, (ry.stepE (.same sm)), .inl ⟨hy, ?_⟩⟩
      exact q _ s4 (st3.same sm)
    · have e : decide (V.str way = V.str "above") = false := decide_eq_false fun e => c (V.str.inj e)
      rw [e]
      exact q _ s2 st2
end
end W13

set_option Elab.async false
set_option linter.all false
set_option maxRecDepth 100000
set_option maxHeartbeats 4000000
namespace W13
open PySem PySem.Spec PyProof.Rows L2 DL
theorem for_walk {K : Fw} {W : Wd} {H0 : Hp} {J : It} {xs : List D} {g : TG} {tb : TS} {Z : Ends} {σ : L2.St} (wk : Walk K W false H0 J xs) (Pv : Nat → L2.St → Hp → Prop) (h0 : Pv 0 σ H0) (hl : ∀ i σ H, Pv i σ H → LaterE W H0 W H)
    (hs : ∀ i d v σ H H', xs[i]? = some d → Pv i σ H → Same H H' → Rp K W H' v d → g v σ H' fun σ2 H2 => tb { Z with nx := Pv (i + 1), ct := Pv (i + 1), bk := Z.nx } σ2 H2) (hd : ∀ σ H, Pv xs.length σ H → Z.nx σ H) :
    ∃ W' : Nat → Nat → L2.St → Hp → Prop, (∃ m, W' 0 m σ H0) ∧ ∀ i m σ H, W' i m σ H →
      (J.stop i H ∧ Z.nx σ H) ∨ (J.go i H ∧ ∃ N : L2.St → Hp → Prop, (∀ σ' H', N σ' H' → ∃ m', m' < m ∧ W' (i + 1) m' σ' H') ∧ ∀ x H', J.yld i H x H' → g x σ H' fun σ2 H2 => tb { Z with nx := N, ct := N, bk := Z.nx } σ2 H2) := by
  refine ⟨fun i m σ H => m = xs.length - i ∧ i ≤ xs.length ∧ Pv i σ H, ⟨xs.length, by simp, Nat.zero_le _, h0⟩, ?_⟩
  rintro i m σ H ⟨rfl, hi, p⟩
  obtain ⟨w1, w2⟩ := wk W H (hl i σ H p)
  by_cases hlt : i < xs.length
  · obtain ⟨go, y⟩ := w1 i xs[i] (List.getElem?_eq_getElem hlt)
    refine .inr ⟨go, Pv (i + 1), fun σ' H' p' => ⟨xs.length - (i + 1), by omega, rfl, hlt, p'⟩, fun x H' hy => ?_⟩
    obtain ⟨sm, r⟩ := y x H' hy
    exact hs i xs[i] x σ H H' (List.getElem?_eq_getElem hlt) p sm r
  · have e : i = xs.length := by omega
    subst e
    exact .inl ⟨w2, hd σ H p⟩
def atN (σ : L2.St) : Nat := match σ[1]? with
  | some (some (V.int j)) => j.toNat
  | _ => 0
theorem at0 {α : Type} (x : α) (xs : List α) : atI (x :: xs) 0 = some x := atI_nat (j := 0) rfl
theorem at1' {α : Type} (x y : α) (xs : List α) : atI (x :: y :: xs) 1 = some y := atI_nat (j := 1) rfl
theorem at2' {α : Type} (x y z : α) (xs : List α) : atI (x :: y :: z :: xs) 2 = some z := atI_nat (j := 2) rfl
theorem cut_in {xs : List D} {lo hi : Option Int} {x : D} (h : x ∈ cutD xs lo hi) : x ∈ xs := List.mem_of_mem_drop (List.mem_of_mem_take h)
theorem tup3_of {K : Fw} {W : Wd} {H : Hp} {v : V} {a b c : D} (r : Rp K W H v (.tup [a, b, c])) : ∃ t va vb vc, v = .ref t ∧ SqT K.fr H t [va, vb, vc] ∧ Rp K W H va a ∧ Rp K W H vb b ∧ Rp K W H vc c := by
  cases r with
  | tup q z rs =>
    cases rs with
    | cons r1 rs =>
      cases rs with
      | cons r2 rs =>
        cases rs with
        | cons r3 rs =>
          cases rs
          exact ⟨_, _, _, _, rfl, q.sqt, r1, r2, r3⟩
def spClose (K : Fw) (C : Addr) : Sp := fun vs H Q _ => ∃ (W : Wd) (S : Sto) (p d l : Addr) (way : Str) (ks : List D), vs = [.ref p] ∧ Ob K C W H p d l way ks ∧ StOk K W H S ∧ WfW W H ∧ ClosedC ks way S ∧ ∀ H', StepE W.θ H H' → StOk K W H' S → Q .non H'
section
variable {P : Program} {w : World} {K : PySem.W.Frag} {mg : Str → Option Value} {base : Heap}
theorem sc_C_close : FnScope ["self", "at", "saying", "part", "other"] ["self"] (defScope s_C_close) := ⟨rfl, rfl, rfl, by decide +kernel, rfl, by decide +kernel, by decide +kernel⟩
theorem ok_C_close (T : Top K w P mg) : FnG P w K mg base 4 T.cl.close.f T.cl.close.d ["self"] (spClose ⟨K, w, P⟩ T.cl.C) := by
  refine funG_ok T.cl.close.F sc_C_close (fun vs H Q E h => ?_) (fun cdv A outer s H vs Q E hG hr h => ?_)
  · obtain ⟨W, S, p, d, l, way, ks, rfl, _⟩ := h
    rfl
  · obtain ⟨W, S, p, d, l, way, ks, rfl, O, st, wf, cc, q⟩ := h
    refine ⟨_, pss_cons (ps_set (i := 1) sc_C_close.nd rfl (Or.inl rfl) pe_int)
      (pss_one (ps_while PassesOwn.never (pt_cmpR op_lt (pv 1) (pe_callB call_len_seq (by rfl) T.z_len bt_len (pa_cons (pe_fld (pv 0) rfl) pa_nil)) (nomark _))
        (pss_cons (ps_set (i := 2) sc_C_close.nd rfl (Or.inl rfl) (pe_ix ix_list (pe_fld (pv 0) rfl) (pv 1) (fun _ _ => rfl)))
        (pss_cons (ps_expr (pe_methG hG (pv 0) T.cl.cl T.cl.add.m (ok_C_add T) (hr.mono (by decide)) T.cl.add.b (pa_cons (pe_callG hG (ok_turned T) (hr.mono (by decide)) (by rfl) T.D_turned.m T.D_turned.k T.D_turned.b (pa_cons (pv 2) pa_nil)) (pa_cons (pe_tupZ (pa_cons pe_str (pa_cons (pv 2) pa_nil))) pa_nil))))
        (pss_cons (ps_for PassesOwn.never rfl (pi_list (pe_callG hG (ok_parts_of T) (hr.mono (by decide)) (by rfl) T.D_parts_of.m T.D_parts_of.k T.D_parts_of.b (pa_cons (pe_ix ix_tup (pv 2) pe_int (fun _ _ => rfl)) pa_nil))) (pg_name (i := 3) sc_C_close.nd rfl (Or.inl rfl))
          (pss_cons (ps_expr (pe_methG hG (pv 0) T.cl.cl T.cl.add.m (ok_C_add T) (hr.mono (by decide)) T.cl.add.b (pa_cons (pe_tupZ (pa_cons (pe_ix ix_tup (pv 2) pe_int (fun _ _ => rfl)) (pa_cons (pv 3) (pa_cons (pe_ix ix_tup (pv 2) pe_int (fun _ _ => rfl)) pa_nil)))) (pa_cons (pe_tupZ (pa_cons pe_str (pa_cons (pv 2) (pa_cons (pv 3) pa_nil)))) pa_nil))))
          (pss_one (ps_expr (pe_methG hG (pv 0) T.cl.cl T.cl.add.m (ok_C_add T) (hr.mono (by decide)) T.cl.add.b (pa_cons (pe_callG hG (ok_weak T) (hr.mono (by decide)) (by rfl) T.D_weak.m T.D_weak.k T.D_weak.b (pa_cons (pv 2) (pa_cons (pv 3) pa_nil))) (pa_cons (pe_tupZ (pa_cons pe_str (pa_cons (pv 2) (pa_cons (pv 3) pa_nil)))) pa_nil)))))))
        (pss_cons (ps_for PassesOwn.never rfl (pi_list (pe_slice sl_list (pe_fld (pv 0) rfl) po_none (po_some (pe_op op_add (pv 1) pe_int)))) (pg_name (i := 4) sc_C_close.nd rfl (Or.inl rfl))
          (pss_cons (ps_expr (pe_methG hG (pv 0) T.cl.cl T.cl.pair.m (ok_C_pair T) hr T.cl.pair.b (pa_cons (pv 2) (pa_cons (pv 4) pa_nil))))
          (pss_one (ps_expr (pe_methG hG (pv 0) T.cl.cl T.cl.pair.m (ok_C_pair T) hr T.cl.pair.b (pa_cons (pv 4) (pa_cons (pv 2) pa_nil)))))))
        (pss_one (ps_aug (i := 1) sc_C_close.nd rfl (Or.inl rfl) pe_int ip_add)))))))), ?_⟩
    refine while_by (fun σ H' => ∃ (i : Nat) (a b c : Option V), σ = [some (.ref p), some (.int (i : Int)), a, b, c] ∧ i ≤ ks.length ∧ StepE W.θ H H' ∧ StOk ⟨K, w, P⟩ W H' S)
      (fun σ _ => ks.length - atN σ) ⟨0, none, none, none, rfl, Nat.zero_le _, StepE.refl _ _, st⟩ ?_ ?_
    · rintro σ H1 ⟨i, a, b, c, rfl, hi, s1, st1⟩
      have O1 := O.stepE s1
      obtain ⟨dx1, g1⟩ := O1.ins
      obtain ⟨vs, g6, g7⟩ := O1.ls
      refine ⟨_, rfl, _, rfl, p, T.cl.C, dx1, _, _, rfl, g1, T.cl.cl, T.cl.nO, flds_order _ _ _, l, vs, rfl, .inl (SqL.of g6), _, _, rfl, rfl, _, rfl, ?_⟩
      have hl : vs.length = ks.length := g7.length
      by_cases lt : i < ks.length
      · have e : decide ((i : Int) < (vs.length : Int)) = true := decide_eq_true (by omega)
        rw [e]
        refine (iteT (A := _) (B := _) ?_ : if true = true then _ else _)
        obtain ⟨v, hv, rx⟩ := g7.get (List.getElem?_eq_getElem lt)
        have hx : ks[i] ∈ ks := List.getElem_mem lt
        generalize ks[i] = x at rx hx
        obtain ⟨y, fy, hy⟩ := cc.tur x hx
        obtain ⟨da, db, dc, ps, rfl, fps, hps⟩ := cc.par x hx
        refine ⟨_, rfl, p, T.cl.C, dx1, _, _, rfl, g1, T.cl.cl, T.cl.nO, flds_order _ _ _, _, rfl, l, vs, _, v, rfl, rfl, SqL.of g6, atI_nat hv, ?_⟩
        refine ⟨_, rfl, p, dx1, _, rfl, g1, flds_no _ _ _ (by decide +kernel) (by decide +kernel) (by decide +kernel), _, rfl, W, [_], S, y, S, rfl, .cons rx .nil, st1, wf.stepE s1, fy, fun v2 H2 s2 st2 ry => ?_⟩
        refine ⟨_, rfl, by show 2 ≤ sizeLine; decide, fun t o nt od => ?_⟩
        have sm := upd_Same (o := .frz o (.tup [V.str "turned", v])) nt
        have s3 := (s1.trans s2).trans (.same sm)
        have st3 := st2.same sm
        refine ⟨W, p, d, l, way, ks, y, v2, _, rfl, O.stepE s3, ry.stepE (.same sm), .inl ⟨.inr hy, ?_⟩⟩
        have rx3 := rx.stepE (s2.trans (.same sm))
        obtain ⟨tx, va, vb, vc, rfl, q3, ra, rb, rc⟩ := tup3_of rx3
        refine ⟨_, rfl, tx, _, _, vb, rfl, rfl, q3, at1' _ _ _, W, [db], S, _, S, rfl, .cons rb .nil, st3, wf.stepE s3, fps, fun v4 H4 s4 st4 r4 => ?_⟩
        cases r4 with
        | @lst pl pvs _ pn ph pz prs =>
        have s4' := s3.trans s4
        refine ⟨pl, rfl, ⟨_, SqL.of ph⟩, for_walk (walk_own ph ⟨th_of pn, fun z => pn (.inl z)⟩ prs) (fun j σ H' => ∃ b c, σ = [some (.ref p), some (.int (i : Int)), some (.ref tx), b, c] ∧ StepE W.θ _ H' ∧ StOk ⟨K, w, P⟩ W H' S) ⟨b, c, rfl, StepE.refl _ _, st4⟩ (fun j σ H' ⟨_, _, _, z, _⟩ => z.later) ?_ ?_⟩
        · rintro j qd vq σ Hx Hy hq ⟨b, c, rfl, sx, stx⟩ sm rq
          have hq' := hps qd (List.mem_of_getElem? hq)
          obtain ⟨hl1, yw, fyw, hyw⟩ := hq'
          have sy := sx.trans (.same sm)
          have sty := stx.same sm
          have sY := s4'.trans sy
          have OY := O.stepE sY
          obtain ⟨dxY, gY⟩ := OY.ins
          have rxY := (rx3.stepE s4).stepE sy
          obtain ⟨tx', va', vb', vc', etx, q3', ra', rb', rc'⟩ := tup3_of rxY
          cases etx
          refine ⟨_, rfl, p, dxY, _, rfl, gY, flds_no _ _ _ (by decide +kernel) (by decide +kernel) (by decide +kernel), ?_⟩
          refine ⟨_, rfl, tx, _, _, va', rfl, rfl, q3', at0 _ _, _, rfl, _, rfl, tx, _, _, vc', rfl, rfl, q3', at2' _ _ _ _, by show 3 ≤ sizeLine; decide, fun t1 o1 n1 od1 => ?_⟩
          have sm1 := upd_Same (o := .frz o1 (.tup [va', vq, vc'])) n1
          refine ⟨_, rfl, _, rfl, by show 3 ≤ sizeLine; decide, fun t2 o2 n2 od2 => ?_⟩
          have sm2 := upd_Same (o := .frz o2 (.tup [V.str "less", .ref tx, vq])) n2
          have rt1 : Rp ⟨K, w, P⟩ W (upd Hy t1 (.frz o1 (.tup [va', vq, vc']))) (.ref t1) (.tup [da, qd, dc]) := .tup (TupAt.new od1) (by show 3 ≤ sizeLine; decide) (.cons (ra'.stepE (.same sm1)) (.cons (rq.stepE (.same sm1)) (.cons (rc'.stepE (.same sm1)) .nil)))
          have sZ := (sY.trans (.same sm1)).trans (.same sm2)
          have stZ := (sty.same sm1).same sm2
          have OZ := O.stepE sZ
          refine ⟨W, p, d, l, way, ks, _, _, _, rfl, OZ, rt1.stepE (.same sm2), .inl ⟨.inr hl1, ?_⟩⟩
          obtain ⟨dxZ, gZ⟩ := OZ.ins
          refine ⟨_, rfl, p, dxZ, _, rfl, gZ, flds_no _ _ _ (by decide +kernel) (by decide +kernel) (by decide +kernel), ?_⟩
          have sYZ := StepE.trans (StepE.same (θ := W.θ) sm1) (StepE.same sm2)
          refine ⟨_, rfl, _, rfl, W, [_, _], S, yw, S, rfl, .cons (rxY.stepE sYZ) (.cons (rq.stepE sYZ) .nil), stZ, wf.stepE sZ, fyw, fun v5 H5 s5 st5 r5 => ?_⟩
          refine ⟨_, rfl, _, rfl, by show 3 ≤ sizeLine; decide, fun t3 o3 n3 od3 => ?_⟩
          have sm3 := upd_Same (o := .frz o3 (.tup [V.str "weak", .ref tx, vq])) n3
          have sE := (sZ.trans s5).trans (.same sm3)
          refine ⟨W, p, d, l, way, ks, yw, v5, _, rfl, O.stepE sE, r5.stepE (.same sm3), .inl ⟨.inr hyw, ?_⟩⟩
          exact ⟨_, _, rfl, ((sy.trans sYZ).trans s5).trans (.same sm3), st5.same sm3⟩
        · rintro σ H5 ⟨b, c, rfl, s5, st5⟩
          have s6 := s4'.trans s5
          have O6 := O.stepE s6
          obtain ⟨dx6, g61⟩ := O6.ins
          obtain ⟨vs6, g66, g67⟩ := O6.ls
          have wf6 := wf.stepE s6
          refine ⟨_, rfl, p, T.cl.C, dx6, _, _, rfl, g61, T.cl.cl, T.cl.nO, flds_order _ _ _, _, rfl, _, _, rfl, rfl, _, rfl, l, vs6, rfl, SqL.of g66, fun pc nc => ?_⟩
          have smc := upd_Same (o := .lst (cutV vs6 none (some ((i : Int) + 1)))) nc
          have nM : ¬ Mu W pc := fun z => by
            obtain ⟨o, e⟩ := wf6.dom pc z
            rw [nc] at e
            cases e
          refine ⟨pc, rfl, ⟨_, SqL.of upd_same⟩, for_walk (walk_own upd_same ⟨th_of nM, fun z => nM (.inl z)⟩ ((g67.cut none (some ((i : Int) + 1))).stepE (.same smc))) (fun j σ H' => ∃ b c, σ = [some (.ref p), some (.int (i : Int)), some (.ref tx), b, c] ∧ StepE W.θ _ H' ∧ StOk ⟨K, w, P⟩ W H' S) ⟨b, c, rfl, StepE.refl _ _, st5.same smc⟩ (fun j σ H' ⟨_, _, _, z, _⟩ => z.later) ?_ ?_⟩
          · rintro j yd vy σ Hx Hy hq ⟨b, c, rfl, sx, stx⟩ sm ry
            have hyd := cut_in (List.mem_of_getElem? hq)
            have sy := sx.trans (.same sm)
            have sY := (s6.trans (.same smc)).trans sy
            have OY := O.stepE sY
            obtain ⟨dxY, gY⟩ := OY.ins
            have rxY := (((rx3.stepE s4).stepE s5).stepE (.same smc)).stepE sy
            refine ⟨_, rfl, p, dxY, _, rfl, gY, flds_no _ _ _ (by decide +kernel) (by decide +kernel) (by decide +kernel), _, rfl, _, rfl, W, S, p, d, l, way, ks, _, _, _, _, rfl, OY, stx.same sm, wf.stepE sY, rxY, ry, cc.joi _ hx _ hyd, fun c => cc.cro c _ hx _ hyd, fun H7 s7 st7 => ?_⟩
            have O7 := OY.stepE s7
            obtain ⟨dx7, g7⟩ := O7.ins
            refine ⟨_, rfl, p, dx7, _, rfl, g7, flds_no _ _ _ (by decide +kernel) (by decide +kernel) (by decide +kernel), _, rfl, _, rfl, W, S, p, d, l, way, ks, _, _, _, _, rfl, O7, st7, wf.stepE (sY.trans s7), ry.stepE s7, rxY.stepE s7, cc.joi _ hyd _ hx, fun c => cc.cro c _ hyd _ hx, fun H8 s8 st8 => ?_⟩
            exact ⟨_, _, rfl, (sy.trans s7).trans s8, st8⟩
          · rintro σ H7 ⟨b, c, rfl, s7, st7⟩
            refine ⟨_, rfl, _, _, rfl, rfl, ⟨i + 1, _, _, _, rfl, lt, (s6.trans (.same smc)).trans s7, st7⟩, ?_⟩
            show ks.length - ((i : Int) + 1).toNat < ks.length - ((i : Int)).toNat
            omega
      · have e : decide ((i : Int) < (vs.length : Int)) = false := decide_eq_false (by omega)
        rw [e]
        exact q H1 s1 st1
    · intro σ H Q Q' m h
      obtain ⟨v1, e1, v0, e0, a, C, dx, fs, v, q1, q2, q3, q4, q5, pp, ys, q6, q7, i, j, q8, q9, k, q10, q11⟩ := h
      exact ⟨v1, e1, v0, e0, a, C, dx, fs, v, q1, q2, q3, q4, q5, pp, ys, q6, q7, i, j, q8, q9, k, q10, m _ _ q11⟩
end
end W13

set_option Elab.async false
set_option linter.all false
set_option maxRecDepth 100000
set_option maxHeartbeats 4000000
namespace W13
open PySem PySem.Spec PyProof.Rows L2 DL
structure KsOk (ks : List D) : Prop where
  z : ks.length ≤ 1000
  key : ∀ x ∈ ks, ∃ k, D.keyOk true x = some k
  nd : (ks.map D.nk).Nodup
theorem nks_of : ∀ {ks : List D}, (∀ x ∈ ks, ∃ k, D.keyOk true x = some k) → ∃ l, D.nks ks = some l
  | [], _ => ⟨[], rfl⟩
  | x :: xs, h => by
    obtain ⟨k, hk⟩ := h x (.head _)
    obtain ⟨l, hl⟩ := nks_of fun y hy => h y (.tail _ hy)
    exact ⟨k :: l, by simp only [D.nks, keyOk_nk hk, hl, Option.bind_some, Option.map_some]⟩
theorem KsOk.fresh {ks : List D} (h : KsOk ks) {j : Nat} {x : D} {k : NestedKey} (hq : ks[j]? = some x) (hk : x.nk = some k) : ∀ y ∈ ks.take j, y.nk ≠ some k := fun y hy e => by
  have hn := h.nd
  rw [← List.take_append_drop j ks, List.map_append] at hn
  obtain ⟨_, _, dis⟩ := List.nodup_append.mp hn
  have hx : x ∈ ks.drop j := List.mem_of_getElem? (i := 0) (by rw [List.getElem?_drop]; exact hq)
  exact dis _ (List.mem_map.mpr ⟨y, hy, rfl⟩) _ (List.mem_map.mpr ⟨x, hx, rfl⟩) (by rw [e, hk])
theorem tup2_of {K : Fw} {W : Wd} {H : Hp} {v : V} {a b : D} (r : Rp K W H v (.tup [a, b])) : ∃ t va vb, v = .ref t ∧ SqT K.fr H t [va, vb] ∧ Rp K W H va a ∧ Rp K W H vb b := by
  cases r with
  | tup q z rs =>
    cases rs with
    | cons r1 rs =>
      cases rs with
      | cons r2 rs =>
        cases rs
        exact ⟨_, _, _, rfl, q.sqt, r1, r2⟩
def spInit (K : Fw) (C : Addr) : Sp := fun vs H Q _ => ∃ (W : Wd) (p dx : Addr) (ks : List D) (way : Str) (vg : V), vs = [.ref p, vg, .str way] ∧ H p = some (.ins C dx []) ∧ ¬ Mu W p ∧ (∀ b, Mu W b → ∃ o, H b = some o) ∧ Rp K W H vg (.tup ks) ∧ KsOk ks ∧
  ∀ (d l : Addr) (H' : Hp), (∀ b o, H b = some o → b ≠ p → H' b = some o) → Ob K C W H' p d l way ks → Q .non H'
section
variable {P : Program} {w : World} {K : PySem.W.Frag} {mg : Str → Option Value} {base : Heap}
theorem sc_C_init : FnScope ["self", "given", "way", "k", "saying"] ["self", "given", "way"] (defScope s_C_init) := ⟨rfl, rfl, rfl, by decide +kernel, rfl, by decide +kernel, by decide +kernel⟩
theorem ok_C_init (T : Top K w P mg) : FnG P w K mg base 2 T.cl.init.f T.cl.init.d ["self", "given", "way"] (spInit ⟨K, w, P⟩ T.cl.C) := by
  refine funG_ok T.cl.init.F sc_C_init (fun vs H Q E h => ?_) (fun cdv A outer s H vs Q E hG hr h => ?_)
  · obtain ⟨W, p, dx, ks, way, vg, rfl, _⟩ := h
    rfl
  · obtain ⟨W, p, dx, ks, way, vg, rfl, hp, np, dom, rg, ok, q⟩ := h
    refine ⟨_, pss_cons (ps_fld (pv 0) (pv 2) rfl) (pss_cons (ps_fld (pv 0) pe_dnnew rfl) (pss_cons (ps_fld (pv 0) (pe_lst pa_nil) rfl)
      (pss_one (ps_for PassesOwn.never rfl (pi_enumTZ (by rfl) T.z_enumerate (pa_cons (pv 1) pa_nil)) (pg_tup rfl (pgs_cons (pg_name (i := 3) sc_C_init.nd rfl (Or.inl rfl)) (pgs_cons (pg_name (i := 4) sc_C_init.nd rfl (Or.inl rfl)) pgs_nil)))
        (pss_one (ps_expr (pe_methG hG (pv 0) T.cl.cl T.cl.add.m (ok_C_add T) hr T.cl.add.b (pa_cons (pv 4) (pa_cons (pe_tupZ (pa_cons pe_str (pa_cons (pv 3) pa_nil))) pa_nil))))))))), ?_⟩
    refine ⟨_, rfl, _, rfl, p, T.cl.C, dx, _, rfl, hp, T.cl.cl, T.cl.nW, by show 0 < 1000; decide, ?_⟩
    intro d hd
    have npd : p ≠ d := fun z => by rw [← z, upd_same] at hd; cases hd
    have hd0 : H d = none := by rwa [upd_ne npd.symm] at hd
    have l1 : (putF "way" (V.str way) ([] : List (Str × V))).length < 1000 := by
      have := length_putF "way" (V.str way) ([] : List (Str × V))
      simp only [List.length_nil] at this
      omega
    refine ⟨_, rfl, p, T.cl.C, dx, _, rfl, by rw [upd_ne npd, upd_same], T.cl.cl, T.cl.nS, l1, ?_⟩
    refine ⟨by show 0 ≤ sizeLine; exact Nat.zero_le _, fun l hl => ?_⟩
    have npl : p ≠ l := fun z => by rw [← z, upd_same] at hl; cases hl
    have ndl : d ≠ l := fun z => by rw [← z, upd_ne npd.symm, upd_same] at hl; cases hl
    have hl0 : H l = none := by rwa [upd_ne npl.symm, upd_ne ndl.symm, upd_ne npl.symm] at hl
    have l2 : (putF "steps" (V.ref d) (putF "way" (V.str way) ([] : List (Str × V)))).length < 1000 := by
      have a := length_putF "way" (V.str way) ([] : List (Str × V))
      have b := length_putF "steps" (V.ref d) (putF "way" (V.str way) ([] : List (Str × V)))
      simp only [List.length_nil] at a
      omega
    refine ⟨_, rfl, p, T.cl.C, dx, _, rfl, by rw [upd_ne npl, upd_same], T.cl.cl, T.cl.nO, l2, ?_⟩
    have nd : ¬ Mu W d := fun z => by obtain ⟨o, e⟩ := dom d z; rw [hd0] at e; cases e
    have nl : ¬ Mu W l := fun z => by obtain ⟨o, e⟩ := dom l z; rw [hl0] at e; cases e
    obtain ⟨H3, hH⟩ : ∃ H3, upd (upd (upd (upd (upd H p (.ins T.cl.C dx (putF "way" (V.str way) []))) d (DnAt P w d [] dictNew)) p (.ins T.cl.C dx (putF "steps" (V.ref d) (putF "way" (V.str way) [])))) l (.lst [])) p (.ins T.cl.C dx (putF "order" (V.ref l) (putF "steps" (V.ref d) (putF "way" (V.str way) [])))) = H3 := ⟨_, rfl⟩
    have kp3 : ∀ b o, H b = some o → b ≠ p → H3 b = some o := fun b o e n => by
      have b1 : b ≠ d := fun z => by rw [z, hd0] at e; cases e
      have b2 : b ≠ l := fun z => by rw [z, hl0] at e; cases e
      rw [← hH, upd_ne n, upd_ne b2, upd_ne n, upd_ne b1, upd_ne n]
      exact e
    have O0 : Ob ⟨K, w, P⟩ T.cl.C W H3 p d l way (ks.take 0) := by
      refine ⟨⟨dx, by rw [← hH, upd_same]; rfl⟩, ⟨[], dictNew, by rw [← hH, upd_ne npd.symm, upd_ne ndl, upd_ne npd.symm, upd_same], .nil, rfl, (fun x hx => nomatch hx)⟩, ⟨[], by rw [← hH, upd_ne npl.symm, upd_same], .nil⟩, np, nd, nl, (fun x hx => nomatch hx), Nat.zero_le _⟩
    have f3 : ∀ b o u, H b = some (.frz o u) → H3 b = some (.frz o u) := fun b o u e => kp3 b _ e fun z => by rw [z, hp] at e; cases e
    cases rg with
    | @tup ta vs _ qt qz qs =>
    have kall : ∀ x ∈ ks, ∃ k, D.keyOk true x = some k := ok.key
    have qt3 := qt.step f3
    have wk : Walk ⟨K, w, P⟩ ⟨W.θ, fun b => W.M0 b ∨ b = d ∨ b = l, W.α⟩ false H3 (IteTZ K ta) (enumD ks) := walk_enumT qt3 (rps_key f3 kall qs)
    subst hH
    refine ⟨_, rfl, ta, vs, rfl, qt3.sqt, ?_⟩
    refine for_walk wk (fun j σ H' => ∃ a b, σ = [some (.ref p), some (.ref ta), some (.str way), a, b] ∧ (∀ b o, upd (upd (upd (upd (upd H p (.ins T.cl.C dx (putF "way" (V.str way) []))) d (DnAt P w d [] dictNew)) p (.ins T.cl.C dx (putF "steps" (V.ref d) (putF "way" (V.str way) [])))) l (.lst [])) p (.ins T.cl.C dx (putF "order" (V.ref l) (putF "steps" (V.ref d) (putF "way" (V.str way) [])))) b = some o → b ≠ d → b ≠ l → H' b = some o) ∧ Ob ⟨K, w, P⟩ T.cl.C W H' p d l way (ks.take j)) ⟨none, none, rfl, fun _ _ e _ _ => e, O0⟩ ?_ ?_ ?_
    · rintro j σ H' ⟨a, b, _, kp, O⟩
      obtain ⟨xs, o, g1, _⟩ := O0.dn
      obtain ⟨vs', g2, _⟩ := O0.ls
      refine ⟨rfl, fun b o e _ n => kp b o e (fun z => n (.inr (.inl z))) (fun z => n (.inr (.inr z))), fun _ _ _ n => n, fun b xs' e => kp b _ e (fun z => ?_) (fun z => ?_), fun b o u e => kp b _ e (fun z => ?_) (fun z => ?_)⟩
      · rw [z] at e; have e2 := g1.symm.trans e; cases e2
      · rw [z] at e; have e2 := g2.symm.trans e; cases e2
      · rw [z] at e; have e2 := g1.symm.trans e; cases e2
      · rw [z] at e; have e2 := g2.symm.trans e; cases e2
    · rintro j dd v σ Hx Hy hq ⟨a, b, rfl, kp, O⟩ sm rv
      obtain ⟨x, hx, rfl⟩ := enumD_some hq
      obtain ⟨t, va, vb, rfl, sq, ra, rb⟩ := tup2_of rv
      obtain ⟨k, hk⟩ := ok.key x (List.mem_of_getElem? hx)
      have rb' : Rp ⟨K, w, P⟩ W Hy vb x := rp_frz (fun _ _ _ e => e) (keyOk_nk hk) rb
      have Oy := O.stepE (.same sm)
      obtain ⟨dxy, gy⟩ := Oy.ins
      refine ⟨t, [va, vb], rfl, sq, rfl, va, [vb], rfl, vb, [], rfl, rfl, ?_⟩
      refine ⟨_, rfl, p, dxy, _, rfl, gy, flds_no _ _ _ (by decide +kernel) (by decide +kernel) (by decide +kernel), _, rfl, _, rfl, by show 2 ≤ sizeLine; decide, fun t1 o1 n1 od1 => ?_⟩
      have sm1 := upd_Same (o := .frz o1 (.tup [V.str "given", va])) n1
      have hj : j < ks.length := (List.getElem?_eq_some_iff.mp hx).1
      have hz : (ks.take j).length < 1000 := by
        rw [List.length_take]
        have := ok.z
        omega
      refine ⟨W, p, d, l, way, ks.take j, x, vb, _, rfl, Oy.stepE (.same sm1), rb'.stepE (.same sm1), .inr ⟨k, hk, ok.fresh hx (keyOk_nk hk), hz, fun H' same O' => ?_⟩⟩
      refine ⟨_, _, rfl, fun b o e n1 n2 => ?_, ?_⟩
      · rw [same b n1 n2]
        exact sm1 b o (sm b o (kp b o e n1 n2))
      · rw [List.take_add_one, hx]
        exact O'
    · rintro σ H' ⟨a, b, _, kp, O⟩
      rw [enumD_length, List.take_length] at O
      refine q d l H' (fun b o e n => kp b o (kp3 b o e n) (fun z => ?_) (fun z => ?_)) O
      · rw [z, hd0] at e; cases e
      · rw [z, hl0] at e; cases e
end
open Classical in
/-- closed(n, given, way), where nothing is to be added -/
noncomputable def F_closed : Fn := fun ds S => match ds with
  | [.int _, .tup ks, .str way] => if KsOk ks ∧ ClosedC ks way S ∧ canSort ks = true then some (.tup (ks.mergeSort D.le'), S) else none
  | _ => none
theorem closed_s {n : Int} {ks : List D} {way : Str} {S : Sto} (h1 : KsOk ks) (h2 : ClosedC ks way S) (h3 : canSort ks = true) : F_closed [.int n, .tup ks, .str way] S = some (.tup (ks.mergeSort D.le'), S) := by
  unfold F_closed
  exact if_pos ⟨h1, h2, h3⟩
section
variable {P : Program} {w : World} {K : PySem.W.Frag} {mg : Str → Option Value} {base : Heap}
theorem sc_closed : FnScope ["n", "given", "way", "work"] ["n", "given", "way"] (defScope s_closed) := ⟨rfl, rfl, rfl, by decide +kernel, rfl, by decide +kernel, by decide +kernel⟩
theorem ok_closed (T : Top K w P mg) : FnG P w K mg base 5 T.D_closed.f T.D_closed.d ["n", "given", "way"] (spD ⟨K, w, P⟩ 3 F_closed) := by
  refine funG_ok T.D_closed.F sc_closed (fun vs H Q E h => ?_) (fun cdv A outer s H vs Q E hG hr h => ?_)
  · obtain ⟨W, ds, S, d, S', hl, rs, _⟩ := h
    rw [rs.length]
    exact hl
  · obtain ⟨W, ds, S, dd, S', hl, rs, st, wf, hf, kk⟩ := h
    unfold F_closed at hf
    split at hf
    · rename_i n ks way
      by_cases c : KsOk ks ∧ ClosedC ks way S ∧ canSort ks = true
      · rw [if_pos c] at hf
        cases hf
        obtain ⟨ok, cc, cs⟩ := c
        cases rs with
        | cons r1 rs =>
        cases rs with
        | @cons v2 _ _ _ r2 rs =>
        cases rs with
        | cons r3 rs =>
        cases rs
        cases r1
        cases r3
        refine ⟨_, pss_cons (ps_set (i := 3) sc_closed.nd rfl (Or.inl rfl) (pe_makeG hG T.cl.M (ok_C_init T) (hr.mono (by decide)) (by rfl) T.cl.mC T.cl.init.b (pa_cons (pv 1) (pa_cons (pv 2) pa_nil))))
          (pss_cons (ps_expr (pe_methG0 hG (pv 3) T.cl.cl T.cl.close.m (ok_C_close T) hr T.cl.close.b))
          (pss_one (ps_ret (pe_callTy call_tupleZ (by rfl) T.z_tuple bt_tuple (pa_cons (pe_callB (cr_sortedN rfl hr.units) (by rfl) T.z_sorted bt_sorted (pa_cons (pe_fld (pv 3) rfl) pa_nil)) pa_nil))))), ?_⟩
        refine ⟨_, rfl, _, rfl, fun x dx nx ndx ne => ?_⟩
        have sm0 : Same H (upd (upd H dx (.own x)) x (.ins T.cl.C dx [])) := fun b o e => by
          rw [upd_ne (ne_of_none e nx), upd_ne (ne_of_none e ndx)]
          exact e
        have nM : ¬ Mu W x := fun z => by
          obtain ⟨o, e⟩ := wf.dom x z
          rw [nx] at e
          cases e
        refine ⟨W, x, dx, ks, way, v2, rfl, upd_same, nM, fun b hb => ?_, r2.stepE (.same sm0), ok, fun d l H1 kp O => ⟨rfl, ?_⟩⟩
        · obtain ⟨o, e⟩ := wf.dom b hb
          exact ⟨o, sm0 b o e⟩
        have sm1 : Same H H1 := fun b o e => kp b o (sm0 b o e) (ne_of_none e nx)
        obtain ⟨dx1, g1⟩ := O.ins
        refine ⟨_, rfl, x, dx1, _, rfl, g1, flds_no _ _ _ (by decide +kernel) (by decide +kernel) (by decide +kernel), W, S, x, d, l, way, ks, rfl, O, st.same sm1, wf.stepE (.same sm1), cc, fun H2 s2 st2 => ?_⟩
        have O2 := O.stepE s2
        obtain ⟨dx2, g2⟩ := O2.ins
        obtain ⟨xs, ob, g3, g4, g5, g6⟩ := O2.dn
        obtain ⟨c1, c2, c3, c4⟩ := canSort_split cs
        obtain ⟨q1, q2⟩ := sort_pairs (xs.map fun x => V.ref x.2.1) ks g4.length
        have hz : xs.length ≤ sizeLine := by
          have := g4.length
          rw [List.length_map] at this
          rw [this]
          exact Nat.le_trans ok.z (by decide)
        have rs' : Rps ⟨K, w, P⟩ W H2 ((((xs.map fun x => V.ref x.2.1).zip ks).mergeSort fun p q => D.le' p.2 q.2).map (·.1)) (ks.mergeSort D.le') := by
          rw [q2]
          exact rps_pairs fun p hp => rps_zip g4 p ((List.mergeSort_perm _ _).mem_iff.mp hp)
        refine ⟨_, rfl, x, T.cl.C, dx2, _, _, rfl, g2, T.cl.cl, T.cl.nS, flds_steps _ _ _, d, xs, ob, D.toPs ks, rfl, g3, fits_dp c1 g4, c2, c3, c4, fun p hp => ?_⟩
        rw [toPs_map, q1]
        refine ⟨p, _, rfl, .inl ⟨SqL.of upd_same, fun t o nt od => ?_⟩⟩
        have sm2 := upd_Same (o := .lst ((((xs.map fun x => V.ref x.2.1).zip ks).mergeSort fun p q => D.le' p.2 q.2).map (·.1))) hp
        have sm3 := upd_Same (o := .frz o (.tup ((((xs.map fun x => V.ref x.2.1).zip ks).mergeSort fun p q => D.le' p.2 q.2).map (·.1)))) nt
        have sE : StepE W.θ H _ := (((StepE.same sm1).trans s2).trans (.same sm2)).trans (.same sm3)
        refine kk _ _ sE ((st2.same sm2).same sm3) (.tup (TupAt.new od) ?_ ((rs'.stepE (.same sm2)).stepE (.same sm3)))
        rw [List.length_map, List.length_mergeSort, List.length_zip, List.length_map]
        exact Nat.le_trans (Nat.min_le_left _ _) hz
      · rw [if_neg c] at hf; cases hf
    · cases hf
end
end W13

set_option Elab.async false
set_option linter.all false
set_option maxRecDepth 100000
set_option maxHeartbeats 4000000
namespace W13
open PySem PySem.Spec PyProof.Rows L2 DL
section
variable {P : Program} {w : World} {K : PySem.W.Frag} {mg : Str → Option Value} {base : Heap}
theorem sc_law : FnScope ["script", "c", "n", "sizes", "world", "rows", "sayings", "found", "saying", "full", "turn", "fails", "paper", "again", "bent", "told", "v", "row", "one"] ["script"] (defScope s_law) := ⟨rfl, rfl, rfl, by decide +kernel, rfl, by decide +kernel, by decide +kernel⟩
noncomputable def b_law : Stm :=
    (sSeq (sOwn (eCall F__law_start (aCons (eVar 0) aNil)) 1)
    (sPub 1 (sSeq (sAsg (eBin D.add (eC (.int 2)) (eCall F__law_take (aCons (eVar 1) (aCons (eC (.int 2)) aNil)))) (gNm 2))
    (sSeq (sAsg (eCB gTuple (aCons (eLc (iRng (aCons (bVar 2) aNil)) (gNm 16) tYs (eBin D.ix (eLst (aCons (eC (.int 2)) (aCons (eC (.int 2)) (aCons (eC (.int 2)) (aCons (eC (.int 3)) aNil))))) (eCall F__law_take (aCons (eVar 1) (aCons (eC (.int 4)) aNil)))) [16]) aNil)) (gNm 3))
    (sSeq (sAsg (eIf (tBl (eBin D.gt (eCall F__law_take (aCons (eVar 1) (aCons (eC (.int 3)) aNil))) (eC (.int 0)))) (eCall F__law_times_worlds (aCons (eVar 1) (aCons (eVar 3) aNil))) (eCall F__law_world (aCons (eVar 1) (aCons (eVar 3) aNil)))) (gNm 4))
    (sSeq (sPar 5 6 (aCons (eCall F__law_values (aCons (eVar 3) aNil)) (aCons (eCall F_all_sayings (aCons (eVar 2) aNil)) aNil)))
    (sSeq (sOwn (eLst aNil) 7)
    (sSeq (sFor (iSeq (eVar 6)) (gNm 8)
    (sIf (tNo (tTru (eCB gAny (aCons (eLc (iSeq (bVar 5)) (gNm 17) tYs (eCall F__law_fails_at (aCons (eVar 4) (aCons (eVar 8) (aCons (eVar 17) aNil)))) [17]) aNil)))) (sMut gAppend 7 (aCons (eVar 8) aNil)) sNx))
    (sFz 7 (sSeq (sIf (tNo (tTru (eCall F__law_alike (aCons (eCall F_sayings_of (aCons (eVar 4) aNil)) (aCons (eCB gTuple (aCons (bVar 7) aNil)) aNil))))) (sRet (eC (.bl false))) sNx)
    (sSeq (sAsg (eCB gAll (aCons (eLc (iSeq (eBin D.ix (bVar 4) (eC (.int 1)))) (gNm 18) tYs (eBin D.gt (eBin D.ix (bVar 18) (eC (.int 0))) (eC (.int 0))) [18]) aNil)) (gNm 9))
    (sSeq (sIf (tBl (eBin D.ne (eCall F_closed (aCons (eVar 2) (aCons (eCB gTuple (aCons (bVar 7) aNil)) (aCons (eIf (tTru (bVar 9)) (eC (.str "above")) (eC (.str "all"))) aNil)))) (eCB gTuple (aCons (bVar 7) aNil)))) (sRet (eC (.bl false))) sNx)
    (sSeq (sFor (iRng (aCons (eC (.int 3)) aNil)) (gNm 10)
    (sSeq (sAsg (eBin D.ix (bVar 6) (eCall F__law_take (aCons (eVar 1) (aCons (eCB gLen (aCons (bVar 6) aNil)) aNil)))) (gNm 8))
    (sSeq (sAsg (eLc (iSeq (bVar 5)) (gNm 17) (tTru (eCall F__law_fails_at (aCons (eVar 4) (aCons (eVar 8) (aCons (eVar 17) aNil))))) (eVar 17) [17]) (gNm 11))
    (sSeq (sAsg (eCall F_holding_paper (aCons (eVar 4) (aCons (eVar 8) aNil))) (gNm 12))
    (sSeq (sIf (tNo (tTru (eCall F__law_alike (aCons (eVar 12) (aCons (eIf (tTru (bVar 11)) (eTup (aCons (eC (.str "fails")) (aCons (eBin D.ix (bVar 11) (eC (.int 0))) aNil))) (eTup (aCons (eC (.str "holds")) aNil))) aNil))))) (sRet (eC (.bl false))) sNx)
    (sFor (iRng (aCons (eC (.int 4)) aNil)) (gNm 13)
    (sSeq (sAsg (eCall F__law_bent (aCons (eVar 1) (aCons (eVar 12) (aCons (eVar 13) aNil)))) (gNm 14))
    (sSeq (sIf (tBl (eBin D.eq (bVar 13) (eC (.int 3)))) (sAsg (eTup (aCons (eC (.str "fails")) (aCons (eBin D.ix (bVar 5) (eCall F__law_take (aCons (eVar 1) (aCons (eCB gLen (aCons (bVar 5) aNil)) aNil)))) aNil))) (gNm 14)) sNx)
    (sSeq (sAsg (eCall F_judge_holding (aCons (eVar 4) (aCons (eVar 8) (aCons (eVar 14) aNil)))) (gNm 15))
    (sIf (tOr (tNo (tTru (eCB gIsi (aCons (bVar 15) (aCons (eC (.ty "bool")) aNil))))) (tBl (eBin D.ne (bVar 15) (eCall F__law_is_paper (aCons (eVar 4) (aCons (eVar 8) (aCons (eVar 11) (aCons (eVar 14) aNil)))))))) (sRet (eC (.bl false))) sNx))))))))))
    (sRet (eC (.bl true))))))))))))))))
theorem ok_law (T : Top K w P mg) (math : ∀ ns : List Int, ns.length ≤ 63 → ∃ S', b_law (rho0 19 [.scr ns]) [] = some (.rt (.bl true) S')) : FnG P w K mg base 11 T.D_law.f T.D_law.d ["script"] (DL.spLaw K) := fnGL_ok T.D_law.F sc_law (by decide) rfl (fun cdv A outer s H E hG hr =>
    (ss_cons (st_own (ps_set (i := 1) sc_law.nd rfl (by first | exact Or.inl rfl | exact Or.inr rfl) (n_call (pe_callG hG (ok__law_start T) (hr.mono (by decide)) (by rfl) T.D__law_start.m T.D__law_start.k T.D__law_start.b (a_cons (e_var (pv 0)) a_nil)) (alS al0))))
    (ss_pub 1 (ss_cons (st_set (ps_set (i := 2) sc_law.nd rfl (by first | exact Or.inl rfl | exact Or.inr rfl) (e_bin op_addD add_d (b_of e_int) (b_of (e_call (pe_callG hG (ok__law_take T) (hr.mono (by decide)) (by rfl) T.D__law_take.m T.D__law_take.k T.D__law_take.b (a_cons (e_var (pv 1)) (a_cons e_int a_nil))) (alS (alS al0)))))))
    (ss_cons (st_set (ps_set (i := 3) sc_law.nd rfl (by first | exact Or.inl rfl | exact Or.inr rfl) (e_cb (pe_callTy call_tupleZ (by rfl) T.z_tuple bt_tuple (aq_cons (b_of (e_of (n_lc (own := [("v", 16)]) rfl sc_law.nd (it_range1 (pi_range1 (by rfl) T.z_range (aq_cons (b_var (pv 2)) aq_nil)) (alS al0)) (blkOk_by (by kernel_rfl)) (fun _ _ _ _ _ => (g_name (pg_name sc_law.nd rfl (by first | exact Or.inl rfl | exact Or.inr rfl)) (by decide))) (fun _ _ _ _ _ => ts_nil) (fun _ _ _ _ _ => (e_ix (b_of (e_of (n_lst (a_cons e_int (a_cons e_int (a_cons e_int (a_cons e_int a_nil))))))) (b_of (e_call (pe_callG hG (ok__law_take T) (hr.mono (by decide)) (by rfl) T.D__law_take.m T.D__law_take.k T.D__law_take.b (a_cons (e_var (pv 1)) (a_cons e_int a_nil))) (alS (alS al0))))))))) aq_nil)) tuple_d)))
    (ss_cons (st_set (ps_set (i := 4) sc_law.nd rfl (by first | exact Or.inl rfl | exact Or.inr rfl) (e_if (t_cmp op_gt gt_d (b_of (e_call (pe_callG hG (ok__law_take T) (hr.mono (by decide)) (by rfl) T.D__law_take.m T.D__law_take.k T.D__law_take.b (a_cons (e_var (pv 1)) (a_cons e_int a_nil))) (alS (alS al0)))) (b_of e_int)) (e_call (pe_callG hG (ok__law_times_worlds T) (hr.mono (by decide)) (by rfl) T.D__law_times_worlds.m T.D__law_times_worlds.k T.D__law_times_worlds.b (a_cons (e_var (pv 1)) (a_cons (e_var (pv 3)) a_nil))) (alS (alS al0))) (e_call (pe_callG hG (ok__law_world T) (hr.mono (by decide)) (by rfl) T.D__law_world.m T.D__law_world.k T.D__law_world.b (a_cons (e_var (pv 1)) (a_cons (e_var (pv 3)) a_nil))) (alS (alS al0))))))
    (ss_cons (st_par (ps_par (i := 5) (j := 6) rfl sc_law.nd rfl rfl (by decide) rfl rfl (a_cons (e_call (pe_callG hG (ok__law_values T) (hr.mono (by decide)) (by rfl) T.D__law_values.m T.D__law_values.k T.D__law_values.b (a_cons (e_var (pv 3)) a_nil)) (alS al0)) (a_cons (e_call (pe_callG hG (ok_all_sayings T) (hr.mono (by decide)) (by rfl) T.D_all_sayings.m T.D_all_sayings.k T.D_all_sayings.b (a_cons (e_var (pv 2)) a_nil)) (alS al0)) a_nil)) (by rfl)))
    (ss_cons (st_own (ps_set (i := 7) sc_law.nd rfl (by first | exact Or.inl rfl | exact Or.inr rfl) (n_lst a_nil)))
    (ss_cons (st_for (vs := [8]) PassesOwn.never rfl (it_seq (e_var (pv 6))) (g_name (pg_name sc_law.nd rfl (by first | exact Or.inl rfl | exact Or.inr rfl)) (by decide))
    (ss_one (st_if (t_not (t_tru (b_of (e_cb (pe_callB (cr_any (by rfl)) (by rfl) T.z_any bt_any (aq_cons (b_of (e_of (n_lc (own := [("row", 17)]) rfl sc_law.nd (ib_seq (b_var (pv 5))) (blkOk_by (by kernel_rfl)) (fun _ _ _ _ _ => (g_name (pg_name sc_law.nd rfl (by first | exact Or.inl rfl | exact Or.inr rfl)) (by decide))) (fun _ _ _ _ _ => ts_nil) (fun _ _ _ _ _ => (e_call (pe_callG hG (ok__law_fails_at T) (hr.mono (by decide)) (by rfl) T.D__law_fails_at.m T.D__law_fails_at.k T.D__law_fails_at.b (a_cons (e_var (pv 4)) (a_cons (e_var (pv 8)) (a_cons (e_var (pv 17)) a_nil)))) (alS (alS (alS al0)))))))) aq_nil)) any_d)))) (ss_one (st_mut (ps_expr (pe_bm PySem.F.plainAttrs_list PySem.F.slot_list_append PySem.F.type_list_append mt_append (pv 7) (a_cons (e_var (pv 8)) a_nil))) append_d append_l)) ss_nil)))
    (ss_fz 7 (ss_cons (st_if (t_not (t_tru (b_of (e_call (pe_callG hG (ok__law_alike T) (hr.mono (by decide)) (by rfl) T.D__law_alike.m T.D__law_alike.k T.D__law_alike.b (a_cons (e_call (pe_callG hG (ok_sayings_of T) (hr.mono (by decide)) (by rfl) T.D_sayings_of.m T.D_sayings_of.k T.D_sayings_of.b (a_cons (e_var (pv 4)) a_nil)) (alS al0)) (a_cons (e_cb (pe_callTy call_tupleZ (by rfl) T.z_tuple bt_tuple (aq_cons (b_var (pv 7)) aq_nil)) tuple_d) a_nil))) (alS (alS al0)))))) (ss_one (st_ret e_bl)) ss_nil)
    (ss_cons (st_set (ps_set (i := 9) sc_law.nd rfl (by first | exact Or.inl rfl | exact Or.inr rfl) (e_cb (pe_callB (cr_all (by rfl)) (by rfl) T.z_all bt_all (aq_cons (b_of (e_of (n_lc (own := [("one", 18)]) rfl sc_law.nd (ib_seq (b_of (e_ix (b_var (pv 4)) (b_of e_int)))) (blkOk_by (by kernel_rfl)) (fun _ _ _ _ _ => (g_name (pg_name sc_law.nd rfl (by first | exact Or.inl rfl | exact Or.inr rfl)) (by decide))) (fun _ _ _ _ _ => ts_nil) (fun _ _ _ _ _ => (e_cmp op_gt gt_d (b_of (e_ix (b_var (pv 18)) (b_of e_int))) (b_of e_int)))))) aq_nil)) all_d)))
    (ss_cons (st_if (t_cmp (op_neP hr.units) ne_d (b_of (e_call (pe_callG hG (ok_closed T) (hr.mono (by decide)) (by rfl) T.D_closed.m T.D_closed.k T.D_closed.b (a_cons (e_var (pv 2)) (a_cons (e_cb (pe_callTy call_tupleZ (by rfl) T.z_tuple bt_tuple (aq_cons (b_var (pv 7)) aq_nil)) tuple_d) (a_cons (e_if (t_tru (b_var (pv 9))) e_str e_str) a_nil)))) (alS (alS (alS al0))))) (b_of (e_cb (pe_callTy call_tupleZ (by rfl) T.z_tuple bt_tuple (aq_cons (b_var (pv 7)) aq_nil)) tuple_d))) (ss_one (st_ret e_bl)) ss_nil)
    (ss_cons (st_for (vs := [10]) PassesOwn.never rfl (it_range1 (pi_range1 (by rfl) T.z_range (aq_cons (b_of e_int) aq_nil)) (alS al0)) (g_name (pg_name sc_law.nd rfl (by first | exact Or.inl rfl | exact Or.inr rfl)) (by decide))
    (ss_cons (st_set (ps_set (i := 8) sc_law.nd rfl (by first | exact Or.inl rfl | exact Or.inr rfl) (e_ix (b_var (pv 6)) (b_of (e_call (pe_callG hG (ok__law_take T) (hr.mono (by decide)) (by rfl) T.D__law_take.m T.D__law_take.k T.D__law_take.b (a_cons (e_var (pv 1)) (a_cons (e_cb (pe_callB call_len (by rfl) T.z_len bt_len (aq_cons (b_var (pv 6)) aq_nil)) len_d) a_nil))) (alS (alS al0)))))))
    (ss_cons (st_set (asg_imp (ps_setLc (i := 11) (own := [("row", 17)]) rfl sc_law.nd rfl rfl (by rfl) (ib_seq (b_var (pv 5))) (blkOk_by (by kernel_rfl)) (fun _ _ _ _ _ => (g_name (pg_name sc_law.nd rfl (by first | exact Or.inl rfl | exact Or.inr rfl)) (by decide))) (fun _ _ _ _ _ => (ts_one (t_tru (b_of (e_call (pe_callG hG (ok__law_fails_at T) (hr.mono (by decide)) (by rfl) T.D__law_fails_at.m T.D__law_fails_at.k T.D__law_fails_at.b (a_cons (e_var (pv 4)) (a_cons (e_var (pv 8)) (a_cons (e_var (pv 17)) a_nil)))) (alS (alS (alS al0)))))))) (fun _ _ _ _ _ => (e_var (pv 17)))) fun _ _ _ h => lc_f (tF_D h)))
    (ss_cons (st_set (ps_set (i := 12) sc_law.nd rfl (by first | exact Or.inl rfl | exact Or.inr rfl) (e_call (pe_callG hG (ok_holding_paper T) (hr.mono (by decide)) (by rfl) T.D_holding_paper.m T.D_holding_paper.k T.D_holding_paper.b (a_cons (e_var (pv 4)) (a_cons (e_var (pv 8)) a_nil))) (alS (alS al0)))))
    (ss_cons (st_if (t_not (t_tru (b_of (e_call (pe_callG hG (ok__law_alike T) (hr.mono (by decide)) (by rfl) T.D__law_alike.m T.D__law_alike.k T.D__law_alike.b (a_cons (e_var (pv 12)) (a_cons (e_if (t_tru (b_var (pv 11))) (e_tup (a_cons e_str (a_cons (e_ix (b_var (pv 11)) (b_of e_int)) a_nil))) (e_tup (a_cons e_str a_nil))) a_nil))) (alS (alS al0)))))) (ss_one (st_ret e_bl)) ss_nil)
    (ss_one (st_for (vs := [13]) PassesOwn.never rfl (it_range1 (pi_range1 (by rfl) T.z_range (aq_cons (b_of e_int) aq_nil)) (alS al0)) (g_name (pg_name sc_law.nd rfl (by first | exact Or.inl rfl | exact Or.inr rfl)) (by decide))
    (ss_cons (st_set (ps_set (i := 14) sc_law.nd rfl (by first | exact Or.inl rfl | exact Or.inr rfl) (e_call (pe_callG hG (ok__law_bent T) (hr.mono (by decide)) (by rfl) T.D__law_bent.m T.D__law_bent.k T.D__law_bent.b (a_cons (e_var (pv 1)) (a_cons (e_var (pv 12)) (a_cons (e_var (pv 13)) a_nil)))) (alS (alS (alS al0))))))
    (ss_cons (st_if (t_cmp (op_eqP hr.units) eq_d (b_var (pv 13)) (b_of e_int)) (ss_one (st_set (ps_set (i := 14) sc_law.nd rfl (by first | exact Or.inl rfl | exact Or.inr rfl) (e_tup (a_cons e_str (a_cons (e_ix (b_var (pv 5)) (b_of (e_call (pe_callG hG (ok__law_take T) (hr.mono (by decide)) (by rfl) T.D__law_take.m T.D__law_take.k T.D__law_take.b (a_cons (e_var (pv 1)) (a_cons (e_cb (pe_callB call_len (by rfl) T.z_len bt_len (aq_cons (b_var (pv 5)) aq_nil)) len_d) a_nil))) (alS (alS al0))))) a_nil)))))) ss_nil)
    (ss_cons (st_set (ps_set (i := 15) sc_law.nd rfl (by first | exact Or.inl rfl | exact Or.inr rfl) (e_call (pe_callG hG (ok_judge_holding T) (hr.mono (by decide)) (by rfl) T.D_judge_holding.m T.D_judge_holding.k T.D_judge_holding.b (a_cons (e_var (pv 4)) (a_cons (e_var (pv 8)) (a_cons (e_var (pv 14)) a_nil)))) (alS (alS (alS al0))))))
    (ss_one (st_if (PW.pt (tw_or (t_not (t_tru (b_of (e_cb (pe_callB call_isi (by rfl) T.z_isinstance bt_isinstance (aq_cons (b_var (pv 15)) (aq_cons (b_of (e_ty (by rfl) T.z_bool bt_bool)) aq_nil))) isi_d)))) (tw_or1 (t_cmp (op_neP hr.units) ne_d (b_var (pv 15)) (b_of (e_call (pe_callG hG (ok__law_is_paper T) (hr.mono (by decide)) (by rfl) T.D__law_is_paper.m T.D__law_is_paper.k T.D__law_is_paper.b (a_cons (e_var (pv 4)) (a_cons (e_var (pv 8)) (a_cons (e_var (pv 11)) (a_cons (e_var (pv 14)) a_nil))))) (alS (alS (alS (alS al0)))))))))) (ss_one (st_ret e_bl)) ss_nil))))))))))))
    (ss_one (st_ret e_bl)))))))))))))))) math
end
end W13

set_option Elab.async false
set_option linter.all false
set_option maxRecDepth 100000
namespace DL
open L2
/-! ## meanings: small laws -/
theorem log_lt {x : Int} {k : Nat} (h0 : 0 < k) (h : x.natAbs < 2 ^ k) : x.natAbs.log2 < k := PySem.Flt.log2_lt_of h0 h
theorem okDiv_t {j : Int} (h : 0 < j) (b : j.natAbs < 2 ^ 8999) : okDiv j = true := decide_eq_true ⟨h, Nat.lt_succ_of_lt (log_lt (by decide) b)⟩
theorem okMul_t {i j : Int} (a : i.natAbs < 2 ^ 8999) (b : j.natAbs < 2 ^ 8999) : okMul i j = true := decide_eq_true (by have := log_lt (by decide) a; have := log_lt (by decide) b; omega)
theorem sz0 : ((0 : Nat) ≤ PySem.sizeLine) = True := eq_true (Nat.zero_le _)
theorem sz1 : ((1 : Nat) ≤ PySem.sizeLine) = True := eq_true (by decide)
theorem sz2 : ((2 : Nat) ≤ PySem.sizeLine) = True := eq_true (by decide)
theorem sz4 : ((4 : Nat) ≤ PySem.sizeLine) = True := eq_true (by decide)
theorem sz5 : ((5 : Nat) ≤ PySem.sizeLine) = True := eq_true (by decide)
theorem szle {n : Nat} (h : n ≤ 100000) : n ≤ PySem.sizeLine := Nat.le_trans h (by decide)
theorem atI_lt {α : Type} {xs : List α} {j : Nat} (h : j < xs.length) : atI xs (j : Int) = some xs[j] := atI_nat (List.getElem?_eq_getElem h)
theorem at0 {α : Type} (x : α) (xs : List α) : atI (x :: xs) 0 = some x := atI_nat (j := 0) rfl
theorem at1 {α : Type} (x y : α) (xs : List α) : atI (x :: y :: xs) 1 = some y := atI_nat (j := 1) rfl
theorem at2 {α : Type} (x y z : α) (xs : List α) : atI (x :: y :: z :: xs) 2 = some z := atI_nat (j := 2) rfl
theorem at3 {α : Type} (x y z u : α) (xs : List α) : atI (x :: y :: z :: u :: xs) 3 = some u := atI_nat (j := 3) rfl
theorem eq_int (i j : Int) : D.eq (.int i) (.int j) = some (.bl (decide (i = j))) := by
  have e : ((D.int i).fit 60 && (D.int j).fit 60) = true := by simp [D.fit]
  unfold D.eq
  rw [if_pos e]
  simp only [D.eqv, D.toP, PySem.PyData.eqv]
  first | done | (congr 2)
theorem ne_int (i j : Int) : D.ne (.int i) (.int j) = some (.bl (!decide (i = j))) := by
  have e : ((D.int i).fit 60 && (D.int j).fit 60) = true := by simp [D.fit]
  unfold D.ne
  rw [if_pos e]
  simp only [D.eqv, D.toP, PySem.PyData.eqv]
  first | done | (congr 2)
theorem compF_map {α : Type} {g : Tg} {tt : Tx} {te : Ex} {ρ : Rho} {S : Sto} (enc : α → D) (p : α → Bool) (f : α → D) : ∀ (xs : List α), (∀ x ∈ xs, ∃ ρ2, g (enc x) ρ = some ρ2 ∧ tt ρ2 S = some (p x, S) ∧ (p x = true → te ρ2 S = some (f x, S))) →
    compF g tt te ρ (xs.map enc) S = some ((xs.filter p).map f, S)
  | [], _ => rfl
  | x :: xs, h => by
    obtain ⟨ρ2, h1, h2, h3⟩ := h x List.mem_cons_self
    have ih := compF_map enc p f xs fun y hy => h y (List.mem_cons_of_mem _ hy)
    rw [List.map_cons]
    unfold compF
    rw [h1, Option.bind_some, h2, Option.bind_some]
    cases hp : p x with
    | true => rw [if_pos rfl, h3 hp, Option.bind_some, ih, List.filter_cons, if_pos hp]; rfl
    | false => rw [if_neg Bool.false_ne_true, ih, List.filter_cons, if_neg (by rw [hp]; exact Bool.false_ne_true)]
theorem compF_all {α : Type} {g : Tg} {te : Ex} {ρ : Rho} {S : Sto} (enc : α → D) (f : α → D) (xs : List α) (h : ∀ x ∈ xs, ∃ ρ2, g (enc x) ρ = some ρ2 ∧ te ρ2 S = some (f x, S)) : compF g tYs te ρ (xs.map enc) S = some (xs.map f, S) := by
  rw [compF_map enc (fun _ => true) f xs fun x hx => by
    obtain ⟨ρ2, h1, h2⟩ := h x hx
    exact ⟨ρ2, h1, rfl, fun _ => h2⟩]
  rw [List.filter_eq_self.mpr fun _ _ => rfl]
theorem compO_all {α : Type} {g g1 : Tg} {tt1 : Tx} {it1 : Ars} {te : Ex} {vs1 : List Nat} {ρ : Rho} {S : Sto} (enc : α → D) (f : α → List D) : ∀ (xs : List α), (∀ x ∈ xs, ∃ ρ2 ys, g (enc x) ρ = some ρ2 ∧ it1 ρ2 S = some (ys, S) ∧ compF g1 tt1 te (wipeR ρ2 vs1) ys S = some (f x, S)) →
    compO g tYs it1 g1 tt1 te vs1 ρ (xs.map enc) S = some (xs.flatMap f, S)
  | [], _ => rfl
  | x :: xs, h => by
    obtain ⟨ρ2, ys, h1, h2, h3⟩ := h x List.mem_cons_self
    have ih := compO_all enc f xs fun y hy => h y (List.mem_cons_of_mem _ hy)
    rw [List.map_cons]
    unfold compO
    rw [h1, Option.bind_some]
    show ((some (true, S) : Option (Bool × Sto))).bind _ = _
    rw [Option.bind_some, if_pos rfl, h2, Option.bind_some, h3, Option.bind_some, ih, List.flatMap_cons]
    rfl
theorem forF_nil {g : Tg} {b : Stm} {ρ : Rho} {S : Sto} : forF g b [] ρ S = some (.nx ρ S) := rfl
theorem forF_step {g : Tg} {b : Stm} {x : D} {xs : List D} {ρ ρ1 ρ2 : Rho} {S S2 : Sto} (h1 : g x ρ = some ρ1) (h2 : b ρ1 S = some (.nx ρ2 S2)) : forF g b (x :: xs) ρ S = forF g b xs ρ2 S2 := by
  show ((g x ρ).bind fun ρ1 => (b ρ1 S).bind fun o => o.turn (forF g b xs)) = _
  rw [h1, Option.bind_some, h2]
  rfl
theorem forF_ret {g : Tg} {b : Stm} {x d : D} {xs : List D} {ρ ρ1 : Rho} {S S2 : Sto} (h1 : g x ρ = some ρ1) (h2 : b ρ1 S = some (.rt d S2)) : forF g b (x :: xs) ρ S = some (.rt d S2) := by
  show ((g x ρ).bind fun ρ1 => (b ρ1 S).bind fun o => o.turn (forF g b xs)) = _
  rw [h1, Option.bind_some, h2]
  rfl
theorem rangeD_nat (n : Nat) : rangeD 0 n = (List.range n).map fun (i : Nat) => D.int (i : Int) := by
  unfold rangeD
  exact List.map_congr_left fun i _ => by rw [Int.zero_add]
theorem rangeOf_nat {n : Nat} (h : n ≤ 100000) : rangeOf [.int (n : Int)] = some ((List.range n).map fun (i : Nat) => D.int (i : Int)) := by
  have hz : n ≤ PySem.sizeLine := szle h
  have hc : -(2 ^ 62 : Int) ≤ (n : Int) ∧ (n : Int) < 2 ^ 62 ∧ ((n : Int)).toNat ≤ PySem.sizeLine := ⟨by omega, by omega, by simpa using hz⟩
  simp only [rangeOf, hc, hz, and_self, if_true, rangeD_nat, Int.toNat_natCast]
theorem iRng_of {fs : Ars} {ρ : Rho} {S S1 : Sto} {ds xs : List D} (h1 : fs ρ S = some (ds, S1)) (h2 : rangeOf ds = some xs) : iRng fs ρ S = some (xs, S1) := by
  unfold iRng
  rw [h1, Option.bind_some, h2]
  rfl
theorem sAsg_of {f : Ex} {g : Tg} {ρ ρ' : Rho} {S S1 : Sto} {d : D} (h : f ρ S = some (d, S1)) (hg : g d ρ = some ρ') : sAsg f g ρ S = some (.nx ρ' S1) := by
  unfold sAsg
  rw [h, Option.bind_some, hg]
  rfl
theorem eBin_of {g : D → D → Option D} {f1 f2 : Ex} {ρ : Rho} {S S1 S2 : Sto} {d1 d2 d : D} (h1 : f1 ρ S = some (d1, S1)) (h2 : f2 ρ S1 = some (d2, S2)) (h3 : g d1 d2 = some d) : eBin g f1 f2 ρ S = some (d, S2) := by
  unfold eBin
  rw [h1, Option.bind_some, h2, Option.bind_some, h3]
  rfl
theorem eLc_of {it : Ars} {g : Tg} {tt : Tx} {te : Ex} {vs : List Nat} {ρ : Rho} {S S1 S2 : Sto} {xs ys : List D} (h1 : it ρ S = some (xs, S1)) (h2 : compF g tt te (wipeR ρ vs) xs S1 = some (ys, S2)) : eLc it g tt te vs ρ S = some (.lst ys, S2) := by
  unfold eLc
  rw [h1, Option.bind_some, h2]
  rfl
theorem sSeq_of {a b : Stm} {ρ ρ' : Rho} {S S1 : Sto} {o : Option Out} (h1 : a ρ S = some (.nx ρ' S1)) (h2 : b ρ' S1 = o) : sSeq a b ρ S = o := by
  unfold sSeq
  rw [h1, Option.bind_some]
  exact h2
theorem sSeq_rt {a b : Stm} {ρ : Rho} {S S1 : Sto} {d : D} (h1 : a ρ S = some (.rt d S1)) : sSeq a b ρ S = some (.rt d S1) := by
  unfold sSeq
  rw [h1, Option.bind_some]
  rfl
theorem sFor_of {it : Ars} {g : Tg} {b : Stm} {ρ : Rho} {S S1 : Sto} {xs : List D} {o : Option Out} (h1 : it ρ S = some (xs, S1)) (h2 : forF g b xs ρ S1 = o) : sFor it g b ρ S = o := by
  unfold sFor
  rw [h1, Option.bind_some]
  exact h2
theorem sIf_t {c : Tx} {a b : Stm} {ρ : Rho} {S S1 : Sto} {o : Option Out} (h1 : c ρ S = some (true, S1)) (h2 : a ρ S1 = o) : sIf c a b ρ S = o := by
  unfold sIf
  rw [h1, Option.bind_some, if_pos rfl]
  exact h2
theorem sIf_f {c : Tx} {a b : Stm} {ρ : Rho} {S S1 : Sto} {o : Option Out} (h1 : c ρ S = some (false, S1)) (h2 : b ρ S1 = o) : sIf c a b ρ S = o := by
  unfold sIf
  rw [h1, Option.bind_some, if_neg Bool.false_ne_true]
  exact h2
theorem tBl_of {f : Ex} {ρ : Rho} {S S1 : Sto} {b : Bool} (h : f ρ S = some (.bl b, S1)) : tBl f ρ S = some (b, S1) := by
  unfold tBl
  rw [h, Option.bind_some]
theorem tTru_of {f : Ex} {ρ : Rho} {S S1 : Sto} {d : D} {b : Bool} (h : f ρ S = some (d, S1)) (ht : d.truth = some b) : tTru f ρ S = some (b, S1) := by
  unfold tTru
  rw [h, Option.bind_some, ht]
  rfl
theorem sRet_of {f : Ex} {ρ : Rho} {S S1 : Sto} {d : D} (h : f ρ S = some (d, S1)) : sRet f ρ S = some (.rt d S1) := by
  unfold sRet
  rw [h]
  rfl
theorem eCall_of {F : Fn} {fs : Ars} {ρ : Rho} {S S1 S2 : Sto} {ds : List D} {d : D} (h1 : fs ρ S = some (ds, S1)) (h2 : F ds S1 = some (d, S2)) : eCall F fs ρ S = some (d, S2) := by
  unfold eCall
  rw [h1, Option.bind_some]
  exact h2
theorem eCB_of {g : List D → Option D} {fs : Ars} {ρ : Rho} {S S1 : Sto} {ds : List D} {d : D} (h1 : fs ρ S = some (ds, S1)) (h2 : g ds = some d) : eCB g fs ρ S = some (d, S1) := by
  unfold eCB
  rw [h1, Option.bind_some, h2]
  rfl
theorem eTup_of {fs : Ars} {ρ : Rho} {S S1 : Sto} {ds : List D} (h1 : fs ρ S = some (ds, S1)) (h2 : ds.length ≤ PySem.sizeLine) : eTup fs ρ S = some (.tup ds, S1) := by
  unfold eTup
  rw [h1, Option.bind_some, if_pos h2]
theorem aCons_of {f : Ex} {fs : Ars} {ρ : Rho} {S S1 S2 : Sto} {d : D} {ds : List D} (h1 : f ρ S = some (d, S1)) (h2 : fs ρ S1 = some (ds, S2)) : aCons f fs ρ S = some (d :: ds, S2) := by
  unfold aCons
  rw [h1, Option.bind_some, h2]
  rfl
theorem iSeq_of {f : Ex} {ρ : Rho} {S S1 : Sto} {d : D} {xs : List D} (h : f ρ S = some (d, S1)) (he : d.elems = some xs) : iSeq f ρ S = some (xs, S1) := by
  unfold iSeq
  rw [h, Option.bind_some, he]
  rfl
theorem fnD_rt {n : Nat} {b : Stm} {ds : List D} {S S' : Sto} {d : D} (h : b (rho0 n ds) S = some (.rt d S')) (hl : S'.length = S.length) : fnD n b ds S = some (d, S') := by
  unfold fnD
  rw [h]
  show (if S'.length = S.length then some (d, S') else none) = _
  rw [if_pos hl]
theorem add_lst {xs ys : List D} (h : xs.length + ys.length ≤ PySem.sizeLine) : D.add (.lst xs) (.lst ys) = some (.lst (xs ++ ys)) := by simp only [D.add, h, if_true]
theorem add_tup {xs ys : List D} (h : xs.length + ys.length ≤ PySem.sizeLine) : D.add (.tup xs) (.tup ys) = some (.tup (xs ++ ys)) := by simp only [D.add, h, if_true]
/-! fractions in lowest terms -/
def nf (a b : Int) : Int × Int := (a / (Nat.gcd a.natAbs b.natAbs : Int), b / (Nat.gcd a.natAbs b.natAbs : Int))
def frD (p : Int × Int) : D := .tup [.int p.1, .int p.2]
theorem gcd_pos {a b : Int} (hb : 0 < b) : (0 : Int) < (Nat.gcd a.natAbs b.natAbs : Int) := by
  have : 0 < Nat.gcd a.natAbs b.natAbs := Nat.gcd_pos_of_pos_right _ (by omega)
  omega
theorem gcd_le {a b : Int} (hb : 0 < b) : (Nat.gcd a.natAbs b.natAbs) ≤ b.natAbs := Nat.gcd_le_right _ (by omega)
theorem gcd_dvd1 (a b : Int) : (Nat.gcd a.natAbs b.natAbs : Int) ∣ a := Int.ofNat_dvd_left.mpr (Nat.gcd_dvd_left _ _)
theorem gcd_dvd2 (a b : Int) : (Nat.gcd a.natAbs b.natAbs : Int) ∣ b := Int.ofNat_dvd_left.mpr (Nat.gcd_dvd_right _ _)
theorem nf_cross (a b : Int) : (nf a b).1 * b = a * (nf a b).2 := by
  unfold nf
  generalize hg : (Nat.gcd a.natAbs b.natAbs : Int) = g
  obtain ⟨x, hx⟩ : g ∣ a := hg ▸ gcd_dvd1 a b
  obtain ⟨y, hy⟩ : g ∣ b := hg ▸ gcd_dvd2 a b
  by_cases h0 : g = 0
  · subst h0; simp
  · simp only
    rw [hx, hy, Int.mul_ediv_cancel_left _ h0, Int.mul_ediv_cancel_left _ h0, Int.mul_left_comm, Int.mul_assoc]
theorem nf_pos {a b : Int} (hb : 0 < b) : 0 < (nf a b).2 := by
  unfold nf
  have hg := gcd_pos (a := a) hb
  exact Int.ediv_pos_of_pos_of_dvd hb (Int.le_of_lt hg) (gcd_dvd2 a b)
theorem ediv_abs_le (x : Int) {g : Int} (hg : 0 < g) (hd : g ∣ x) : (x / g).natAbs ≤ x.natAbs := by
  obtain ⟨y, rfl⟩ := hd
  rw [Int.mul_ediv_cancel_left _ (by omega), Int.natAbs_mul]
  exact Nat.le_mul_of_pos_left _ (by omega)
theorem nf_le1 {a b : Int} (hb : 0 < b) : (nf a b).1.natAbs ≤ a.natAbs := ediv_abs_le a (gcd_pos hb) (gcd_dvd1 a b)
theorem nf_le2 {a b : Int} (hb : 0 < b) : (nf a b).2.natAbs ≤ b.natAbs := ediv_abs_le b (gcd_pos hb) (gcd_dvd2 a b)
theorem nf_scale (a b : Int) {k : Int} (hk : 0 < k) : nf (a * k) (b * k) = nf a b := by
  have e : (Nat.gcd (a * k).natAbs (b * k).natAbs : Int) = (Nat.gcd a.natAbs b.natAbs : Int) * k := by
    rw [Int.natAbs_mul, Int.natAbs_mul, Nat.gcd_mul_right, Int.natCast_mul, Int.natAbs_of_nonneg (Int.le_of_lt hk)]
  unfold nf
  rw [e, Int.mul_ediv_mul_of_pos_left _ _ hk, Int.mul_ediv_mul_of_pos_left _ _ hk]
theorem nf_eq {a b c d : Int} (hb : 0 < b) (hd : 0 < d) (h : a * d = c * b) : nf a b = nf c d := by
  rw [← nf_scale a b hd, ← nf_scale c d hb, h, Int.mul_comm b d]
/-- the fraction is of at most k bits -/
structure Fb (k : Nat) (p : Int × Int) : Prop where
  n : p.1.natAbs < 2 ^ k
  pos : 0 < p.2
  d : p.2.natAbs < 2 ^ k
theorem Fb.mono {j k : Nat} {p : Int × Int} (h : Fb j p) (l : j ≤ k) : Fb k p := ⟨Nat.lt_of_lt_of_le h.n (Nat.pow_le_pow_right (by decide) l), h.pos, Nat.lt_of_lt_of_le h.d (Nat.pow_le_pow_right (by decide) l)⟩
theorem mul_bd {a b : Int} {j k : Nat} (ha : a.natAbs < 2 ^ j) (hb : b.natAbs < 2 ^ k) : (a * b).natAbs < 2 ^ (j + k) := L2.wide_lt ha hb
theorem add_bd {a b : Int} {k : Nat} (ha : a.natAbs < 2 ^ k) (hb : b.natAbs < 2 ^ k) : (a + b).natAbs < 2 ^ (k + 1) := by
  rw [Nat.pow_succ]; omega
theorem bd_mono {a : Int} {j k : Nat} (h : a.natAbs < 2 ^ j) (l : j ≤ k) : a.natAbs < 2 ^ k := Nat.lt_of_lt_of_le h (Nat.pow_le_pow_right (by decide) l)
theorem nf_fb {a b : Int} {k : Nat} (ha : a.natAbs < 2 ^ k) (hb : 0 < b) (h2 : b.natAbs < 2 ^ k) : Fb k (nf a b) := ⟨Nat.lt_of_le_of_lt (nf_le1 hb) ha, nf_pos hb, Nat.lt_of_le_of_lt (nf_le2 hb) h2⟩
/-- what plus gives -/
def plF (p q : Int × Int) : Int × Int := nf (p.1 * q.2 + q.1 * p.2) (p.2 * q.2)
theorem plF_fb {j k : Nat} {p q : Int × Int} (hp : Fb j p) (hq : Fb k q) : Fb (j + k + 1) (plF p q) := by
  refine nf_fb (add_bd (mul_bd hp.n hq.d) (by rw [Nat.add_comm j k]; exact mul_bd hq.n hp.d)) (Int.mul_pos hp.pos hq.pos) (bd_mono (mul_bd hp.d hq.d) (Nat.le_succ _))
theorem plF_congr (p : Int × Int) {q r : Int × Int} (hp : 0 < p.2) (hq : 0 < q.2) (hr : 0 < r.2) (h : q.1 * r.2 = r.1 * q.2) : plF p q = plF p r := by
  unfold plF
  refine nf_eq (Int.mul_pos hp hq) (Int.mul_pos hp hr) ?_
  have e1 : (p.1 * q.2 + q.1 * p.2) * (p.2 * r.2) = p.1 * q.2 * p.2 * r.2 + (q.1 * r.2) * (p.2 * p.2) := by
    rw [Int.add_mul]
    congr 1
    · simp only [Int.mul_assoc]
    · simp only [Int.mul_assoc, Int.mul_left_comm, Int.mul_comm]
  have e2 : (p.1 * r.2 + r.1 * p.2) * (p.2 * q.2) = p.1 * q.2 * p.2 * r.2 + (r.1 * q.2) * (p.2 * p.2) := by
    rw [Int.add_mul]
    congr 1
    · simp only [Int.mul_assoc, Int.mul_left_comm, Int.mul_comm]
    · simp only [Int.mul_assoc, Int.mul_left_comm, Int.mul_comm]
  rw [e1, e2, h]
end DL

set_option Elab.async false
set_option linter.all false
set_option maxRecDepth 100000
namespace DL
open L2
/-! ## rows, events -/
def rowD (r : List Int) : D := .tup (r.map D.int)
def pD (p : Nat × Int) : D := .tup [.int (p.1 : Nat), .int p.2]
abbrev Ev := List (Nat × Int)
def evD (e : Ev) : D := .tup (e.map pD)
def szD (s : List Nat) : D := .tup (s.map fun (n : Nat) => D.int (n : Int))
def rowsStep (n : Nat) (r : List Int) : List (List Int) := (List.range n).map fun (x : Nat) => r ++ [(x : Int)]
def rowsM (found : List (List Int)) : List Nat → List (List Int)
  | [] => found
  | n :: s => rowsM (found.flatMap (rowsStep n)) s
/-- sizes at most 3, few enough -/
def Small (found : List (List Int)) (s : List Nat) : Prop := (∀ n ∈ s, n ≤ 3) ∧ found.length * 3 ^ s.length ≤ 1000 ∧ ∀ r ∈ found, r.length + s.length ≤ 100
theorem flat_len {α β : Type} {f : α → List β} {k : Nat} : ∀ {xs : List α}, (∀ x ∈ xs, (f x).length ≤ k) → (xs.flatMap f).length ≤ xs.length * k
  | [], _ => by simp
  | x :: xs, h => by
    rw [List.flatMap_cons, List.length_append, List.length_cons, Nat.succ_mul]
    have := flat_len (xs := xs) (f := f) fun y hy => h y (List.mem_cons_of_mem _ hy)
    have := h x List.mem_cons_self
    omega
theorem Small.next {found : List (List Int)} {n : Nat} {s : List Nat} (h : Small found (n :: s)) : Small (found.flatMap (rowsStep n)) s := by
  obtain ⟨h1, h2, h3⟩ := h
  refine ⟨fun m hm => h1 m (List.mem_cons_of_mem _ hm), ?_, fun r hr => ?_⟩
  · have hn := h1 n List.mem_cons_self
    have := flat_len (f := rowsStep n) (k := 3) (xs := found) fun r _ => by unfold rowsStep; simpa using hn
    rw [List.length_cons, Nat.pow_succ] at h2
    calc (found.flatMap (rowsStep n)).length * 3 ^ s.length ≤ found.length * 3 * 3 ^ s.length := Nat.mul_le_mul_right _ this
      _ = found.length * (3 ^ s.length * 3) := by rw [Nat.mul_assoc, Nat.mul_comm 3]
      _ ≤ 1000 := h2
  · obtain ⟨r', hr', hx⟩ := List.mem_flatMap.mp hr
    unfold rowsStep at hx
    obtain ⟨x, _, rfl⟩ := List.mem_map.mp hx
    have := h3 r' hr'
    rw [List.length_cons] at this
    rw [List.length_append, List.length_singleton]
    omega
theorem Small.len {found : List (List Int)} {s : List Nat} (h : Small found s) : found.length ≤ 1000 := Nat.le_trans (Nat.le_mul_of_pos_right _ (Nat.pow_pos (by decide))) h.2.1
theorem rowsM_len : ∀ {s : List Nat} {found : List (List Int)}, Small found s → (rowsM found s).length ≤ 1000
  | [], found, h => h.len
  | n :: s, found, h => rowsM_len (s := s) h.next
theorem rowsM_rowlen : ∀ {s : List Nat} {found : List (List Int)} {k : Nat}, (∀ r ∈ found, r.length = k) → ∀ r ∈ rowsM found s, r.length = k + s.length
  | [], found, k, h, r, hr => h r hr
  | n :: s, found, k, h, r, hr => by
    have := rowsM_rowlen (s := s) (found := found.flatMap (rowsStep n)) (k := k + 1) (fun r hr => by
      obtain ⟨r', hr', hx⟩ := List.mem_flatMap.mp hr
      unfold rowsStep at hx
      obtain ⟨x, _, rfl⟩ := List.mem_map.mp hx
      rw [List.length_append, h r' hr']; rfl) r hr
    rw [List.length_cons]; omega
theorem nf_zero {w : Int} (h : 0 < w) : nf 0 w = (0, 1) := by
  have e : (Nat.gcd (0 : Int).natAbs w.natAbs : Int) = w := by
    show ((Nat.gcd 0 w.natAbs : Nat) : Int) = w
    rw [Nat.gcd_zero_left]; omega
  unfold nf
  rw [e, Int.zero_ediv, Int.ediv_self (by omega)]
theorem plF_same (a b : Int) {w : Int} (h : 0 < w) : plF (nf a w) (nf b w) = nf (a + b) w := by
  have ha := nf_cross a w
  have hb := nf_cross b w
  unfold plF
  refine nf_eq (Int.mul_pos (nf_pos h) (nf_pos h)) h ?_
  generalize (nf a w).1 = a1 at *
  generalize (nf a w).2 = a2 at *
  generalize (nf b w).1 = b1 at *
  generalize (nf b w).2 = b2 at *
  calc (a1 * b2 + b1 * a2) * w = (a1 * w) * b2 + (b1 * w) * a2 := by
        rw [Int.add_mul]; congr 1 <;> simp only [Int.mul_assoc, Int.mul_comm, Int.mul_left_comm]
    _ = (a * a2) * b2 + (b * b2) * a2 := by rw [ha, hb]
    _ = (a + b) * (a2 * b2) := by
        rw [Int.add_mul]; congr 1 <;> simp only [Int.mul_assoc, Int.mul_comm, Int.mul_left_comm]
def fitsB (r : List Int) (e : Ev) : Bool := e.all fun p => decide (r[p.1]? = some p.2)
end DL
namespace W13
open DL
open L2 (atI atI_nat)
theorem fraction_s (a b : Int) (S : Sto) (hb : 0 < b) (h2 : b.natAbs < 2 ^ 8999) : F_fraction [.int a, .int b] S = some (frD (nf a b), S) := by
  have o : okDiv (Nat.gcd a.natAbs b.natAbs : Int) = true := okDiv_t (gcd_pos hb) (by have := gcd_le (a := a) hb; omega)
  unfold F_fraction b_fraction
  simp only [fnD, fnE, fnOut, rho0, eVar, bVar, Sl.rd, eC, eBin, eTup, eLst, aNil, aCons, eCB, eCall, tTru, tBl, tAn, DL.tOr, tNo, eAn, DL.eOr, eNo, eIf, eIxR, eSl, pNo, pIs, iSeq, iZp, gNm, gTp, gsNil, gsCons, sNx, sBk, sCt, sSeq, Out.seq, sIf, sAsg, sOwn, sPar, sPar3, sRet, sFz, sPub, sDn, sAug, D.iadd, D.imul, sParDF, sParFF, cellOf, iEn, D.isB, D.notB, sSetR, sSetIx, sMut, sDrop, sFor, eLc, tYs, wipeR, D.elems, D.truth, D.add, D.sub, D.mul, D.fdiv, D.mod, D.pow, D.lt, D.le, D.gt, D.ge, D.isN, D.notN, D.ix, D.cat, liftI, Option.bind_some, Option.bind_none, Option.map_some, Option.map_none, List.map_cons, List.map_nil, List.length_cons, List.length_nil, List.cons_append, List.nil_append, List.replicate, List.set_cons_zero, List.set_cons_succ, List.getElem?_cons_zero, List.getElem?_cons_succ, Nat.reduceAdd, Nat.reduceSub, Nat.reduceLeDiff, if_true, if_false, ↓reduceIte, List.isEmpty_nil, List.isEmpty_cons, Bool.not_true, Bool.not_false, Bool.false_eq_true, decide_true, decide_false, decide_eq_true_eq, gGcd, o, sz2]
  rfl
theorem plus_s {j k : Nat} {p q : Int × Int} (S : Sto) (hp : Fb j p) (hq : Fb k q) (l : j + k ≤ 8990) : F_plus [frD p, frD q] S = some (frD (plF p q), S) := by
  have m := fun {x : Int} {i : Nat} (h : x.natAbs < 2 ^ i) (l : i ≤ 8999) => bd_mono h l
  have o1 := okMul_t (m hp.n (by omega)) (m hq.d (by omega))
  have o2 := okMul_t (m hq.n (by omega)) (m hp.d (by omega))
  have o3 := okMul_t (m hp.d (by omega)) (m hq.d (by omega))
  have fs := fraction_s (p.1 * q.2 + q.1 * p.2) (p.2 * q.2) S (Int.mul_pos hp.pos hq.pos) (m (mul_bd hp.d hq.d) (by omega))
  unfold F_plus b_plus frD
  simp only [fnD, fnE, fnOut, rho0, eVar, bVar, Sl.rd, eC, eBin, eTup, eLst, aNil, aCons, eCB, eCall, tTru, tBl, tAn, DL.tOr, tNo, eAn, DL.eOr, eNo, eIf, eIxR, eSl, pNo, pIs, iSeq, iZp, gNm, gTp, gsNil, gsCons, sNx, sBk, sCt, sSeq, Out.seq, sIf, sAsg, sOwn, sPar, sPar3, sRet, sFz, sPub, sDn, sAug, D.iadd, D.imul, sParDF, sParFF, cellOf, iEn, D.isB, D.notB, sSetR, sSetIx, sMut, sDrop, sFor, eLc, tYs, wipeR, D.elems, D.truth, D.add, D.sub, D.mul, D.fdiv, D.mod, D.pow, D.lt, D.le, D.gt, D.ge, D.isN, D.notN, D.ix, D.cat, liftI, Option.bind_some, Option.bind_none, Option.map_some, Option.map_none, List.map_cons, List.map_nil, List.length_cons, List.length_nil, List.cons_append, List.nil_append, List.replicate, List.set_cons_zero, List.set_cons_succ, List.getElem?_cons_zero, List.getElem?_cons_succ, Nat.reduceAdd, Nat.reduceSub, Nat.reduceLeDiff, if_true, if_false, ↓reduceIte, List.isEmpty_nil, List.isEmpty_cons, Bool.not_true, Bool.not_false, Bool.false_eq_true, decide_true, decide_false, decide_eq_true_eq, at0, at1, o1, o2, o3, fs]
  rfl
def tmF (p q : Int × Int) : Int × Int := nf (p.1 * q.1) (p.2 * q.2)
theorem times_s {j k : Nat} {p q : Int × Int} (S : Sto) (hp : Fb j p) (hq : Fb k q) (l : j + k ≤ 8990) : F_times [frD p, frD q] S = some (frD (tmF p q), S) := by
  have m := fun {x : Int} {i : Nat} (h : x.natAbs < 2 ^ i) (l : i ≤ 8999) => bd_mono h l
  have o1 := okMul_t (m hp.n (by omega)) (m hq.n (by omega))
  have o3 := okMul_t (m hp.d (by omega)) (m hq.d (by omega))
  have fs := fraction_s (p.1 * q.1) (p.2 * q.2) S (Int.mul_pos hp.pos hq.pos) (m (mul_bd hp.d hq.d) (by omega))
  unfold F_times b_times frD
  simp only [fnD, fnE, fnOut, rho0, eVar, bVar, Sl.rd, eC, eBin, eTup, eLst, aNil, aCons, eCB, eCall, tTru, tBl, tAn, DL.tOr, tNo, eAn, DL.eOr, eNo, eIf, eIxR, eSl, pNo, pIs, iSeq, iZp, gNm, gTp, gsNil, gsCons, sNx, sBk, sCt, sSeq, Out.seq, sIf, sAsg, sOwn, sPar, sPar3, sRet, sFz, sPub, sDn, sAug, D.iadd, D.imul, sParDF, sParFF, cellOf, iEn, D.isB, D.notB, sSetR, sSetIx, sMut, sDrop, sFor, eLc, tYs, wipeR, D.elems, D.truth, D.add, D.sub, D.mul, D.fdiv, D.mod, D.pow, D.lt, D.le, D.gt, D.ge, D.isN, D.notN, D.ix, D.cat, liftI, Option.bind_some, Option.bind_none, Option.map_some, Option.map_none, List.map_cons, List.map_nil, List.length_cons, List.length_nil, List.cons_append, List.nil_append, List.replicate, List.set_cons_zero, List.set_cons_succ, List.getElem?_cons_zero, List.getElem?_cons_succ, Nat.reduceAdd, Nat.reduceSub, Nat.reduceLeDiff, if_true, if_false, ↓reduceIte, List.isEmpty_nil, List.isEmpty_cons, Bool.not_true, Bool.not_false, Bool.false_eq_true, decide_true, decide_false, decide_eq_true_eq, at0, at1, o1, o3, fs]
  rfl
/-- the running total -/
def totM (f : Int × Int) : List (Int × Int) → Int × Int
  | [] => f
  | p :: ps => totM (plF f p) ps
theorem total_s {k : Nat} (S : Sto) (ps : List (Int × Int)) (inv : ∀ (pre : List (Int × Int)) (x : Int × Int) (suf : List (Int × Int)), ps = pre ++ x :: suf → Fb k (totM (0, 1) pre) ∧ Fb k x) (l : k + k ≤ 8990) : F_total [.lst (ps.map frD)] S = some (frD (totM (0, 1) ps), S) := by
  have loop : ∀ (suf pre : List (Int × Int)) (a z : Sl), ps = pre ++ suf → ∃ z', forF (gNm 2) (sAsg (eCall F_plus (aCons (eVar 1) (aCons (eVar 2) aNil))) (gNm 1)) (suf.map frD) [a, .sh (frD (totM (0, 1) pre)), z] S = some (.nx [a, .sh (frD (totM (0, 1) ps)), z'] S) := by
    intro suf
    induction suf with
    | nil => intro pre a z h; rw [List.append_nil] at h; subst h; exact ⟨z, rfl⟩
    | cons x suf ih =>
      intro pre a z h
      obtain ⟨f1, f2⟩ := inv pre x suf h
      have ps1 := plus_s S f1 f2 l
      have e : totM (0, 1) (pre ++ [x]) = plF (totM (0, 1) pre) x := by
        have : ∀ (l : List (Int × Int)) (f : Int × Int), totM f (l ++ [x]) = plF (totM f l) x := fun l => by
          induction l with
          | nil => intro f; rfl
          | cons y l ih2 => intro f; exact ih2 _
        exact this pre _
      obtain ⟨z', hz⟩ := ih (pre ++ [x]) a (.sh (frD x)) (by rw [h, List.append_assoc]; rfl)
      refine ⟨z', ?_⟩
      rw [List.map_cons, forF_step (ρ1 := [a, .sh (frD (totM (0, 1) pre)), .sh (frD x)]) (ρ2 := [a, .sh (frD (plF (totM (0, 1) pre) x)), .sh (frD x)]) (S2 := S) rfl (by simp only [fnD, fnE, fnOut, rho0, eVar, bVar, Sl.rd, eC, eBin, eTup, eLst, aNil, aCons, eCB, eCall, tTru, tBl, tAn, DL.tOr, tNo, eAn, DL.eOr, eNo, eIf, eIxR, eSl, pNo, pIs, iSeq, iZp, gNm, gTp, gsNil, gsCons, sNx, sBk, sCt, sSeq, Out.seq, sIf, sAsg, sOwn, sPar, sPar3, sRet, sFz, sPub, sDn, sAug, D.iadd, D.imul, sParDF, sParFF, cellOf, iEn, D.isB, D.notB, sSetR, sSetIx, sMut, sDrop, sFor, eLc, tYs, wipeR, D.elems, D.truth, D.add, D.sub, D.mul, D.fdiv, D.mod, D.pow, D.lt, D.le, D.gt, D.ge, D.isN, D.notN, D.ix, D.cat, liftI, Option.bind_some, Option.bind_none, Option.map_some, Option.map_none, List.map_cons, List.map_nil, List.length_cons, List.length_nil, List.cons_append, List.nil_append, List.replicate, List.set_cons_zero, List.set_cons_succ, List.getElem?_cons_zero, List.getElem?_cons_succ, Nat.reduceAdd, Nat.reduceSub, Nat.reduceLeDiff, if_true, if_false, ↓reduceIte, List.isEmpty_nil, List.isEmpty_cons, Bool.not_true, Bool.not_false, Bool.false_eq_true, decide_true, decide_false, decide_eq_true_eq, ps1]), ← e]
      exact hz
  obtain ⟨z', hz⟩ := loop ps [] (.sh (.lst (ps.map frD))) .un rfl
  unfold F_total b_total
  simp only [fnD, fnE, fnOut, rho0, eVar, bVar, Sl.rd, eC, eBin, eTup, eLst, aNil, aCons, eCB, eCall, tTru, tBl, tAn, DL.tOr, tNo, eAn, DL.eOr, eNo, eIf, eIxR, eSl, pNo, pIs, iSeq, iZp, gNm, gTp, gsNil, gsCons, sNx, sBk, sCt, sSeq, Out.seq, sIf, sAsg, sOwn, sPar, sPar3, sRet, sFz, sPub, sDn, sAug, D.iadd, D.imul, sParDF, sParFF, cellOf, iEn, D.isB, D.notB, sSetR, sSetIx, sMut, sDrop, sFor, eLc, tYs, wipeR, D.elems, D.truth, D.add, D.sub, D.mul, D.fdiv, D.mod, D.pow, D.lt, D.le, D.gt, D.ge, D.isN, D.notN, D.ix, D.cat, liftI, Option.bind_some, Option.bind_none, Option.map_some, Option.map_none, List.map_cons, List.map_nil, List.length_cons, List.length_nil, List.cons_append, List.nil_append, List.replicate, List.set_cons_zero, List.set_cons_succ, List.getElem?_cons_zero, List.getElem?_cons_succ, Nat.reduceAdd, Nat.reduceSub, Nat.reduceLeDiff, if_true, if_false, ↓reduceIte, List.isEmpty_nil, List.isEmpty_cons, Bool.not_true, Bool.not_false, Bool.false_eq_true, decide_true, decide_false, decide_eq_true_eq, sz2]
  have e0 : (D.tup [D.int 0, D.int 1]) = frD (totM (0, 1) []) := rfl
  rw [e0, hz]
  simp only [fnD, fnE, fnOut, rho0, eVar, bVar, Sl.rd, eC, eBin, eTup, eLst, aNil, aCons, eCB, eCall, tTru, tBl, tAn, DL.tOr, tNo, eAn, DL.eOr, eNo, eIf, eIxR, eSl, pNo, pIs, iSeq, iZp, gNm, gTp, gsNil, gsCons, sNx, sBk, sCt, sSeq, Out.seq, sIf, sAsg, sOwn, sPar, sPar3, sRet, sFz, sPub, sDn, sAug, D.iadd, D.imul, sParDF, sParFF, cellOf, iEn, D.isB, D.notB, sSetR, sSetIx, sMut, sDrop, sFor, eLc, tYs, wipeR, D.elems, D.truth, D.add, D.sub, D.mul, D.fdiv, D.mod, D.pow, D.lt, D.le, D.gt, D.ge, D.isN, D.notN, D.ix, D.cat, liftI, Option.bind_some, Option.bind_none, Option.map_some, Option.map_none, List.map_cons, List.map_nil, List.length_cons, List.length_nil, List.cons_append, List.nil_append, List.replicate, List.set_cons_zero, List.set_cons_succ, List.getElem?_cons_zero, List.getElem?_cons_succ, Nat.reduceAdd, Nat.reduceSub, Nat.reduceLeDiff, if_true, if_false, ↓reduceIte, List.isEmpty_nil, List.isEmpty_cons, Bool.not_true, Bool.not_false, Bool.false_eq_true, decide_true, decide_false, decide_eq_true_eq]
theorem fits_s (r : List Int) (e : Ev) (S : Sto) (h : ∀ p ∈ e, p.1 < r.length) : F_fits [rowD r, evD e] S = some (.bl (fitsB r e), S) := by
  have c := compF_all (g := gTp 2 (gsCons (gNm 2) (gsCons (gNm 3) gsNil))) (te := eBin D.eq (eBin D.ix (bVar 0) (bVar 2)) (bVar 3)) (ρ := [.sh (rowD r), .sh (evD e), .un, .un]) (S := S) pD (fun p => D.bl (decide (r[p.1]? = some p.2))) e fun p hp => by
    have hl := h p hp
    have a : atI (r.map D.int) ((p.1 : Nat) : Int) = some (.int r[p.1]) := by
      rw [atI_lt (by simpa using hl), List.getElem_map]
    refine ⟨_, by unfold pD; simp only [fnD, fnE, fnOut, rho0, eVar, bVar, Sl.rd, eC, eBin, eTup, eLst, aNil, aCons, eCB, eCall, tTru, tBl, tAn, DL.tOr, tNo, eAn, DL.eOr, eNo, eIf, eIxR, eSl, pNo, pIs, iSeq, iZp, gNm, gTp, gsNil, gsCons, sNx, sBk, sCt, sSeq, Out.seq, sIf, sAsg, sOwn, sPar, sPar3, sRet, sFz, sPub, sDn, sAug, D.iadd, D.imul, sParDF, sParFF, cellOf, iEn, D.isB, D.notB, sSetR, sSetIx, sMut, sDrop, sFor, eLc, tYs, wipeR, D.elems, D.truth, D.add, D.sub, D.mul, D.fdiv, D.mod, D.pow, D.lt, D.le, D.gt, D.ge, D.isN, D.notN, D.ix, D.cat, liftI, Option.bind_some, Option.bind_none, Option.map_some, Option.map_none, List.map_cons, List.map_nil, List.length_cons, List.length_nil, List.cons_append, List.nil_append, List.replicate, List.set_cons_zero, List.set_cons_succ, List.getElem?_cons_zero, List.getElem?_cons_succ, Nat.reduceAdd, Nat.reduceSub, Nat.reduceLeDiff, if_true, if_false, ↓reduceIte, List.isEmpty_nil, List.isEmpty_cons, Bool.not_true, Bool.not_false, Bool.false_eq_true, decide_true, decide_false, decide_eq_true_eq]; rfl, ?_⟩
    unfold rowD
    simp only [fnD, fnE, fnOut, rho0, eVar, bVar, Sl.rd, eC, eBin, eTup, eLst, aNil, aCons, eCB, eCall, tTru, tBl, tAn, DL.tOr, tNo, eAn, DL.eOr, eNo, eIf, eIxR, eSl, pNo, pIs, iSeq, iZp, gNm, gTp, gsNil, gsCons, sNx, sBk, sCt, sSeq, Out.seq, sIf, sAsg, sOwn, sPar, sPar3, sRet, sFz, sPub, sDn, sAug, D.iadd, D.imul, sParDF, sParFF, cellOf, iEn, D.isB, D.notB, sSetR, sSetIx, sMut, sDrop, sFor, eLc, tYs, wipeR, D.elems, D.truth, D.add, D.sub, D.mul, D.fdiv, D.mod, D.pow, D.lt, D.le, D.gt, D.ge, D.isN, D.notN, D.ix, D.cat, liftI, Option.bind_some, Option.bind_none, Option.map_some, Option.map_none, List.map_cons, List.map_nil, List.length_cons, List.length_nil, List.cons_append, List.nil_append, List.replicate, List.set_cons_zero, List.set_cons_succ, List.getElem?_cons_zero, List.getElem?_cons_succ, Nat.reduceAdd, Nat.reduceSub, Nat.reduceLeDiff, if_true, if_false, ↓reduceIte, List.isEmpty_nil, List.isEmpty_cons, Bool.not_true, Bool.not_false, Bool.false_eq_true, decide_true, decide_false, decide_eq_true_eq, a, eq_int]
    rw [List.getElem?_eq_getElem hl]
    congr 3
    simp
  have b := boolsOf_map (e.map fun p => decide (r[p.1]? = some p.2))
  rw [List.map_map] at b
  unfold evD at c
  unfold F_fits b_fits evD
  simp only [fnD, fnE, fnOut, rho0, eVar, bVar, Sl.rd, eC, eBin, eTup, eLst, aNil, aCons, eCB, eCall, tTru, tBl, tAn, DL.tOr, tNo, eAn, DL.eOr, eNo, eIf, eIxR, eSl, pNo, pIs, iSeq, iZp, gNm, gTp, gsNil, gsCons, sNx, sBk, sCt, sSeq, Out.seq, sIf, sAsg, sOwn, sPar, sPar3, sRet, sFz, sPub, sDn, sAug, D.iadd, D.imul, sParDF, sParFF, cellOf, iEn, D.isB, D.notB, sSetR, sSetIx, sMut, sDrop, sFor, eLc, tYs, wipeR, D.elems, D.truth, D.add, D.sub, D.mul, D.fdiv, D.mod, D.pow, D.lt, D.le, D.gt, D.ge, D.isN, D.notN, D.ix, D.cat, liftI, Option.bind_some, Option.bind_none, Option.map_some, Option.map_none, List.map_cons, List.map_nil, List.length_cons, List.length_nil, List.cons_append, List.nil_append, List.replicate, List.set_cons_zero, List.set_cons_succ, List.getElem?_cons_zero, List.getElem?_cons_succ, Nat.reduceAdd, Nat.reduceSub, Nat.reduceLeDiff, if_true, if_false, ↓reduceIte, List.isEmpty_nil, List.isEmpty_cons, Bool.not_true, Bool.not_false, Bool.false_eq_true, decide_true, decide_false, decide_eq_true_eq, c, gAll]
  have b' : boolsOf (e.map fun p => D.bl (decide (r[p.1]? = some p.2))) = some (e.map fun p => decide (r[p.1]? = some p.2)) := b
  simp only [fnD, fnE, fnOut, rho0, eVar, bVar, Sl.rd, eC, eBin, eTup, eLst, aNil, aCons, eCB, eCall, tTru, tBl, tAn, DL.tOr, tNo, eAn, DL.eOr, eNo, eIf, eIxR, eSl, pNo, pIs, iSeq, iZp, gNm, gTp, gsNil, gsCons, sNx, sBk, sCt, sSeq, Out.seq, sIf, sAsg, sOwn, sPar, sPar3, sRet, sFz, sPub, sDn, sAug, D.iadd, D.imul, sParDF, sParFF, cellOf, iEn, D.isB, D.notB, sSetR, sSetIx, sMut, sDrop, sFor, eLc, tYs, wipeR, D.elems, D.truth, D.add, D.sub, D.mul, D.fdiv, D.mod, D.pow, D.lt, D.le, D.gt, D.ge, D.isN, D.notN, D.ix, D.cat, liftI, Option.bind_some, Option.bind_none, Option.map_some, Option.map_none, List.map_cons, List.map_nil, List.length_cons, List.length_nil, List.cons_append, List.nil_append, List.replicate, List.set_cons_zero, List.set_cons_succ, List.getElem?_cons_zero, List.getElem?_cons_succ, Nat.reduceAdd, Nat.reduceSub, Nat.reduceLeDiff, if_true, if_false, ↓reduceIte, List.isEmpty_nil, List.isEmpty_cons, Bool.not_true, Bool.not_false, Bool.false_eq_true, decide_true, decide_false, decide_eq_true_eq, b']
  unfold fitsB
  rw [List.all_map]
  rfl
theorem totM_nf {w : Int} (h : 0 < w) : ∀ (l : List Int) (a : Int), totM (nf a w) (l.map fun x => nf x w) = nf (a + l.sum) w
  | [], a => by simp [totM]
  | x :: l, a => by
    rw [List.map_cons]
    show totM (plF (nf a w) (nf x w)) _ = _
    rw [plF_same a x h, totM_nf h l, List.sum_cons, Int.add_assoc]
theorem totM_nf0 {w : Int} (h : 0 < w) (l : List Int) : totM (0, 1) (l.map fun x => nf x w) = nf l.sum w := by
  rw [← nf_zero h, totM_nf h, Int.zero_add]
theorem add_row {r : List Int} (i : Nat) (h : r.length ≤ 1000) : D.add (.tup (r.map D.int)) (.tup [D.int (i : Int)]) = some (rowD (r ++ [(i : Int)])) := by
  have : (r.map D.int).length + [D.int (i : Int)].length ≤ PySem.sizeLine := szle (by simp; omega)
  simp only [D.add, rowD, this, if_true, List.map_append, List.map_cons, List.map_nil]
theorem row_ext (a b c : Sl) (r : List Int) (i : Nat) (S : Sto) (h : r.length ≤ 1000) : eBin D.add (bVar 3) (eTup (aCons (eVar 4) aNil)) [a, b, c, .sh (rowD r), .sh (.int (i : Int))] S = some (rowD (r ++ [(i : Int)]), S) := by
  have e := add_row (r := r) i h
  simp only [eBin, bVar, eTup, aCons, aNil, eVar, Sl.rd, List.getElem?_cons_zero, List.getElem?_cons_succ, Option.bind_some, Option.map_some, List.length_cons, List.length_nil, rowD]
  simp only [Nat.zero_add, sz1, if_true, Option.bind_some]
  rw [e]
  simp only [Option.map_some, rowD]
theorem row_ext2 (a b c d : Sl) (r : List Int) (i : Nat) (S : Sto) (h : r.length ≤ 1000) : eBin D.add (bVar 4) (eTup (aCons (eVar 5) aNil)) [a, b, c, d, .sh (rowD r), .sh (.int (i : Int))] S = some (rowD (r ++ [(i : Int)]), S) := by
  have e := add_row (r := r) i h
  simp only [eBin, bVar, eTup, aCons, aNil, eVar, Sl.rd, List.getElem?_cons_zero, List.getElem?_cons_succ, Option.bind_some, Option.map_some, List.length_cons, List.length_nil, rowD]
  simp only [Nat.zero_add, sz1, if_true, Option.bind_some]
  rw [e]
  simp only [Option.map_some, rowD]
theorem rows_fin {it1 : Ars} {te : Ex} {found : List (List Int)} {n : Nat} {ρ : Rho} {S : Sto} (hn : n ≤ 3) (hf : found.length ≤ 1000) (h1 : iSeq (bVar 1) ρ S = some (found.map rowD, S))
    (c : compO (gNm 3) tYs it1 (gNm 4) tYs te [4] (wipeR ρ [3, 4]) (found.map rowD) S = some (found.flatMap fun r => (rowsStep n r).map rowD, S)) :
    eLc2 (iSeq (bVar 1)) (gNm 3) tYs it1 (gNm 4) tYs te [3, 4] [4] ρ S = some (.lst ((found.flatMap (rowsStep n)).map rowD), S) := by
  unfold eLc2
  rw [h1, Option.bind_some, c, Option.bind_some]
  have fl : (found.flatMap fun r => (rowsStep n r).map rowD) = (found.flatMap (rowsStep n)).map rowD := by rw [List.map_flatMap]
  have len : ((found.flatMap (rowsStep n)).map rowD).length ≤ PySem.sizeLine := szle (by
    rw [List.length_map]
    have := flat_len (f := rowsStep n) (k := 3) (xs := found) fun r _ => by unfold rowsStep; simpa using hn
    omega)
  show (if (found.flatMap fun r => (rowsStep n r).map rowD).length ≤ PySem.sizeLine then some (D.lst (found.flatMap fun r => (rowsStep n r).map rowD), S) else none) = _
  rw [fl, if_pos len]
theorem rows_step (found : List (List Int)) (n : Nat) (a w1 w2 : Sl) (S : Sto) (hn : n ≤ 3) (hf : found.length ≤ 1000) (hr : ∀ r ∈ found, r.length ≤ 1000) :
    eLc2 (iSeq (bVar 1)) (gNm 3) tYs (iRng (aCons (bVar 2) aNil)) (gNm 4) tYs (eBin D.add (bVar 3) (eTup (aCons (eVar 4) aNil))) [3, 4] [4] [a, .sh (.lst (found.map rowD)), .sh (.int (n : Int)), w1, w2] S = some (.lst ((found.flatMap (rowsStep n)).map rowD), S) := by
  have c := compO_all (g := gNm 3) (g1 := gNm 4) (tt1 := tYs) (it1 := iRng (aCons (bVar 2) aNil)) (te := eBin D.add (bVar 3) (eTup (aCons (eVar 4) aNil))) (vs1 := [4]) (ρ := [a, .sh (.lst (found.map rowD)), .sh (.int (n : Int)), .un, .un]) (S := S) rowD (fun r => (rowsStep n r).map rowD) found fun r hr' => by
    refine ⟨_, (List.range n).map fun (i : Nat) => D.int (i : Int), rfl, ?_, ?_⟩
    · exact iRng_of (ds := [.int (n : Int)]) rfl (rangeOf_nat (Nat.le_trans hn (by decide)))
    · have c1 := compF_all (g := gNm 4) (te := eBin D.add (bVar 3) (eTup (aCons (eVar 4) aNil))) (ρ := [a, .sh (.lst (found.map rowD)), .sh (.int (n : Int)), .sh (rowD r), .un]) (S := S) (fun (i : Nat) => D.int (i : Int)) (fun (i : Nat) => rowD (r ++ [(i : Int)])) (List.range n) fun i _ => by
        exact ⟨_, rfl, row_ext _ _ _ r i S (hr r hr')⟩
      unfold rowsStep
      rw [List.map_map]
      exact c1
  exact rows_fin hn hf rfl c
theorem rows_of_s (s : List Nat) (S : Sto) (h : Small [[]] s) : F_rows_of [szD s] S = some (.tup ((rowsM [[]] s).map rowD), S) := by
  have loop : ∀ (suf : List Nat) (found : List (List Int)) (a z w1 w2 : Sl), Small found suf → ∃ z' w1' w2', forF (gNm 2) (sAsg (eLc2 (iSeq (bVar 1)) (gNm 3) tYs (iRng (aCons (bVar 2) aNil)) (gNm 4) tYs (eBin D.add (bVar 3) (eTup (aCons (eVar 4) aNil))) [3, 4] [4]) (gNm 1)) (suf.map fun (n : Nat) => D.int (n : Int)) [a, .sh (.lst (found.map rowD)), z, w1, w2] S =
      some (.nx [a, .sh (.lst ((rowsM found suf).map rowD)), z', w1', w2'] S) := by
    intro suf
    induction suf with
    | nil => intro found a z w1 w2 _; exact ⟨z, w1, w2, rfl⟩
    | cons n suf ih =>
      intro found a z w1 w2 hs
      obtain ⟨z', w1', w2', hz⟩ := ih (found.flatMap (rowsStep n)) a (.sh (.int (n : Int))) w1 w2 hs.next
      refine ⟨z', w1', w2', ?_⟩
      have st := rows_step found n a w1 w2 S (hs.1 n List.mem_cons_self) hs.len fun r hr => by have := hs.2.2 r hr; omega
      rw [List.map_cons, forF_step (ρ1 := [a, .sh (.lst (found.map rowD)), .sh (.int (n : Int)), w1, w2]) (S2 := S) rfl (by simp only [sAsg]; rw [st]; rfl)]
      exact hz
  obtain ⟨z', w1', w2', hz⟩ := loop s [[]] (.sh (szD s)) .un .un .un h
  have e0 : D.tup [] = rowD [] := rfl
  have e1 : ([rowD []] : List D) = [[]].map rowD := rfl
  unfold F_rows_of b_rows_of
  unfold szD at hz ⊢
  simp only [fnD, fnE, fnOut, rho0, eVar, bVar, Sl.rd, eC, eBin, eTup, eLst, aNil, aCons, eCB, eCall, tTru, tBl, tAn, DL.tOr, tNo, eAn, DL.eOr, eNo, eIf, eIxR, eSl, pNo, pIs, iSeq, iZp, gNm, gTp, gsNil, gsCons, sNx, sBk, sCt, sSeq, Out.seq, sIf, sAsg, sOwn, sPar, sPar3, sRet, sFz, sPub, sDn, sAug, D.iadd, D.imul, sParDF, sParFF, cellOf, iEn, D.isB, D.notB, sSetR, sSetIx, sMut, sDrop, sFor, eLc, tYs, wipeR, D.elems, D.truth, D.add, D.sub, D.mul, D.fdiv, D.mod, D.pow, D.lt, D.le, D.gt, D.ge, D.isN, D.notN, D.ix, D.cat, liftI, Option.bind_some, Option.bind_none, Option.map_some, Option.map_none, List.map_cons, List.map_nil, List.length_cons, List.length_nil, List.cons_append, List.nil_append, List.replicate, List.set_cons_zero, List.set_cons_succ, List.getElem?_cons_zero, List.getElem?_cons_succ, Nat.reduceAdd, Nat.reduceSub, Nat.reduceLeDiff, if_true, if_false, ↓reduceIte, List.isEmpty_nil, List.isEmpty_cons, Bool.not_true, Bool.not_false, Bool.false_eq_true, decide_true, decide_false, decide_eq_true_eq, sz0, sz1]
  rw [e0, e1, hz]
  simp only [fnD, fnE, fnOut, rho0, eVar, bVar, Sl.rd, eC, eBin, eTup, eLst, aNil, aCons, eCB, eCall, tTru, tBl, tAn, DL.tOr, tNo, eAn, DL.eOr, eNo, eIf, eIxR, eSl, pNo, pIs, iSeq, iZp, gNm, gTp, gsNil, gsCons, sNx, sBk, sCt, sSeq, Out.seq, sIf, sAsg, sOwn, sPar, sPar3, sRet, sFz, sPub, sDn, sAug, D.iadd, D.imul, sParDF, sParFF, cellOf, iEn, D.isB, D.notB, sSetR, sSetIx, sMut, sDrop, sFor, eLc, tYs, wipeR, D.elems, D.truth, D.add, D.sub, D.mul, D.fdiv, D.mod, D.pow, D.lt, D.le, D.gt, D.ge, D.isN, D.notN, D.ix, D.cat, liftI, Option.bind_some, Option.bind_none, Option.map_some, Option.map_none, List.map_cons, List.map_nil, List.length_cons, List.length_nil, List.cons_append, List.nil_append, List.replicate, List.set_cons_zero, List.set_cons_succ, List.getElem?_cons_zero, List.getElem?_cons_succ, Nat.reduceAdd, Nat.reduceSub, Nat.reduceLeDiff, if_true, if_false, ↓reduceIte, List.isEmpty_nil, List.isEmpty_cons, Bool.not_true, Bool.not_false, Bool.false_eq_true, decide_true, decide_false, decide_eq_true_eq, gTuple]
end W13

set_option Elab.async false
set_option linter.all false
set_option maxRecDepth 100000
namespace DL
open L2 (atI atI_nat)
theorem rem_half {a b k : Nat} (hb : b < 2 ^ (k + 1)) (hr : 0 < a % b) (h0 : 0 < b) : b % (a % b) < 2 ^ k := by
  have hlt : a % b < b := Nat.mod_lt _ h0
  generalize a % b = r at *
  rw [Nat.pow_succ] at hb
  by_cases h : r ≤ 2 ^ k
  · exact Nat.lt_of_lt_of_le (Nat.mod_lt _ hr) h
  · rw [Nat.mod_eq_sub_mod (Nat.le_of_lt hlt), Nat.mod_eq_of_lt (by omega)]; omega
theorem fmod_nat (a b : Nat) : Int.fmod (a : Int) (b : Int) = ((a % b : Nat) : Int) := by
  rw [Int.fmod_eq_emod_of_nonneg _ (by omega)]; rfl
theorem mod_nat {a b : Nat} (h : b ≠ 0) : D.mod (.int (a : Int)) (.int (b : Int)) = some (.int ((a % b : Nat) : Int)) := by
  have h' : (b : Int) ≠ 0 := by omega
  simp only [D.mod, liftI, fmod_nat, if_pos h']
/-! dict -/
theorem put_mem {kvs : List (L2.Key × D)} {k : L2.Key} {v : D} {x : L2.Key × D} (h : x ∈ putD kvs k v) : x.1 = k ∨ ∃ y ∈ kvs, y.1 = x.1 := by
  unfold putD at h
  split at h
  · obtain ⟨y, hy, rfl⟩ := List.mem_map.mp h
    by_cases e : y.1 = k
    · simp only [e, if_pos]; exact .inl trivial
    · simp only [if_neg e]; exact .inr ⟨y, hy, rfl⟩
  · rcases List.mem_append.mp h with h | h
    · exact .inr ⟨x, h, rfl⟩
    · simp at h; subst h; exact .inl rfl
theorem merge_mem : ∀ {more acc : List (L2.Key × D)} {x : L2.Key × D}, x ∈ mergeD acc more → (∃ y ∈ acc, y.1 = x.1) ∨ ∃ y ∈ more, y.1 = x.1
  | [], acc, x, h => .inl ⟨x, h, rfl⟩
  | m :: more, acc, x, h => by
    have h' : x ∈ mergeD (putD acc m.1 m.2) more := h
    rcases merge_mem h' with ⟨y, hy, e⟩ | ⟨y, hy, e⟩
    · rcases put_mem hy with e1 | ⟨z, hz, e1⟩
      · exact .inr ⟨m, List.mem_cons_self, e1.symm.trans e⟩
      · exact .inl ⟨z, hz, e1.trans e⟩
    · exact .inr ⟨y, List.mem_cons_of_mem _ hy, e⟩
theorem dFind_none {kvs : List (L2.Key × D)} {k : L2.Key} (h : ∀ x ∈ kvs, x.1 ≠ k) : dFind (kvs.map (·.1)) (kvs.map (·.2)) k = none := by
  unfold dFind
  rw [List.find?_eq_none.mpr]
  · rfl
  · intro x hx
    have := (List.of_mem_zip hx).1
    obtain ⟨y, hy, e⟩ := List.mem_map.mp this
    simpa [← e] using h y hy
def kvE (e : Ev) : List (L2.Key × D) := e.map fun p => (Sum.inl ((p.1 : Nat) : Int), D.int p.2)
theorem pairsOf_ev : ∀ e : Ev, pairsOf (e.map pD) = some (kvE e)
  | [] => rfl
  | p :: e => by
    rw [List.map_cons]
    unfold pD
    simp only [pairsOf, D.key, Option.bind_some]
    have := pairsOf_ev e
    unfold pD at this
    rw [this]
    rfl
theorem find_ev {e : Ev} {v : Nat} (h : ∀ p ∈ e, p.1 ≠ v) : dFind ((mergeD [] (kvE e)).map (·.1)) ((mergeD [] (kvE e)).map (·.2)) (Sum.inl (v : Int)) = none := dFind_none fun x hx => by
  rcases merge_mem hx with ⟨y, hy, _⟩ | ⟨y, hy, ey⟩
  · simp at hy
  · unfold kvE at hy
    obtain ⟨p, hp, rfl⟩ := List.mem_map.mp hy
    rw [← ey]
    intro z
    have z' : ((p.1 : Nat) : Int) = (v : Int) := Sum.inl.inj z
    exact h p hp (by omega)
end DL
namespace W13
open DL
open L2 (atI atI_nat)
theorem div_loop (S : Sto) : ∀ (k : Nat) (xs : List D) (a b : Nat) (z : Sl), b < 2 ^ k → 2 * k + 1 ≤ xs.length →
    forF (gNm 2) (sSeq (sIf (tBl (eBin D.eq (bVar 1) (eC (.int 0)))) (sRet (eCB gAbs (aCons (bVar 0) aNil))) sNx) (sPar 0 1 (aCons (eVar 1) (aCons (eBin D.mod (bVar 0) (bVar 1)) aNil)))) xs [.sh (.int (a : Int)), .sh (.int (b : Int)), z] S = some (.rt (.int ((Nat.gcd a b : Nat) : Int)) S) := by
  have fin : ∀ (x : D) (xs : List D) (a : Nat) (z : Sl), forF (gNm 2) (sSeq (sIf (tBl (eBin D.eq (bVar 1) (eC (.int 0)))) (sRet (eCB gAbs (aCons (bVar 0) aNil))) sNx) (sPar 0 1 (aCons (eVar 1) (aCons (eBin D.mod (bVar 0) (bVar 1)) aNil)))) (x :: xs) [.sh (.int (a : Int)), .sh (.int ((0 : Nat) : Int)), z] S = some (.rt (.int (a : Int)) S) := fun x xs a z => by
    refine forF_ret (ρ1 := [.sh (.int (a : Int)), .sh (.int ((0 : Nat) : Int)), .sh x]) rfl (sSeq_rt (sIf_t (S1 := S) (tBl_of ?_) (sRet_of ?_)))
    · simp only [fnD, fnE, fnOut, rho0, eVar, bVar, Sl.rd, eC, eBin, eTup, eLst, aNil, aCons, eCB, eCall, tTru, tBl, tAn, DL.tOr, tNo, eAn, DL.eOr, eNo, eIf, eIxR, eSl, pNo, pIs, iSeq, iZp, gNm, gTp, gsNil, gsCons, sNx, sBk, sCt, sSeq, Out.seq, sIf, sAsg, sOwn, sPar, sPar3, sRet, sFz, sPub, sDn, sAug, D.iadd, D.imul, sParDF, sParFF, cellOf, iEn, D.isB, D.notB, sSetR, sSetIx, sMut, sDrop, sFor, eLc, tYs, wipeR, D.elems, D.truth, D.add, D.sub, D.mul, D.fdiv, D.mod, D.pow, D.lt, D.le, D.gt, D.ge, D.isN, D.notN, D.ix, D.cat, liftI, Option.bind_some, Option.bind_none, Option.map_some, Option.map_none, List.map_cons, List.map_nil, List.length_cons, List.length_nil, List.cons_append, List.nil_append, List.replicate, List.set_cons_zero, List.set_cons_succ, List.getElem?_cons_zero, List.getElem?_cons_succ, Nat.reduceAdd, Nat.reduceSub, Nat.reduceLeDiff, if_true, if_false, ↓reduceIte, List.isEmpty_nil, List.isEmpty_cons, Bool.not_true, Bool.not_false, Bool.false_eq_true, decide_true, decide_false, decide_eq_true_eq, eq_int]; rfl
    · simp only [fnD, fnE, fnOut, rho0, eVar, bVar, Sl.rd, eC, eBin, eTup, eLst, aNil, aCons, eCB, eCall, tTru, tBl, tAn, DL.tOr, tNo, eAn, DL.eOr, eNo, eIf, eIxR, eSl, pNo, pIs, iSeq, iZp, gNm, gTp, gsNil, gsCons, sNx, sBk, sCt, sSeq, Out.seq, sIf, sAsg, sOwn, sPar, sPar3, sRet, sFz, sPub, sDn, sAug, D.iadd, D.imul, sParDF, sParFF, cellOf, iEn, D.isB, D.notB, sSetR, sSetIx, sMut, sDrop, sFor, eLc, tYs, wipeR, D.elems, D.truth, D.add, D.sub, D.mul, D.fdiv, D.mod, D.pow, D.lt, D.le, D.gt, D.ge, D.isN, D.notN, D.ix, D.cat, liftI, Option.bind_some, Option.bind_none, Option.map_some, Option.map_none, List.map_cons, List.map_nil, List.length_cons, List.length_nil, List.cons_append, List.nil_append, List.replicate, List.set_cons_zero, List.set_cons_succ, List.getElem?_cons_zero, List.getElem?_cons_succ, Nat.reduceAdd, Nat.reduceSub, Nat.reduceLeDiff, if_true, if_false, ↓reduceIte, List.isEmpty_nil, List.isEmpty_cons, Bool.not_true, Bool.not_false, Bool.false_eq_true, decide_true, decide_false, decide_eq_true_eq, gAbs]
      rw [if_neg (by omega)]
  have step : ∀ (x : D) (xs : List D) (a b : Nat) (z : Sl), b ≠ 0 → forF (gNm 2) (sSeq (sIf (tBl (eBin D.eq (bVar 1) (eC (.int 0)))) (sRet (eCB gAbs (aCons (bVar 0) aNil))) sNx) (sPar 0 1 (aCons (eVar 1) (aCons (eBin D.mod (bVar 0) (bVar 1)) aNil)))) (x :: xs) [.sh (.int (a : Int)), .sh (.int (b : Int)), z] S =
      forF (gNm 2) (sSeq (sIf (tBl (eBin D.eq (bVar 1) (eC (.int 0)))) (sRet (eCB gAbs (aCons (bVar 0) aNil))) sNx) (sPar 0 1 (aCons (eVar 1) (aCons (eBin D.mod (bVar 0) (bVar 1)) aNil)))) xs [.sh (.int (b : Int)), .sh (.int ((a % b : Nat) : Int)), .sh x] S := fun x xs a b z hb => by
    have e0 : decide ((b : Int) = 0) = false := decide_eq_false (by omega)
    refine forF_step (ρ1 := [.sh (.int (a : Int)), .sh (.int (b : Int)), .sh x]) (S2 := S) rfl (sSeq_of (S1 := S) (ρ' := [.sh (.int (a : Int)), .sh (.int (b : Int)), .sh x]) (sIf_f (S1 := S) (tBl_of ?_) rfl) ?_)
    · simp only [fnD, fnE, fnOut, rho0, eVar, bVar, Sl.rd, eC, eBin, eTup, eLst, aNil, aCons, eCB, eCall, tTru, tBl, tAn, DL.tOr, tNo, eAn, DL.eOr, eNo, eIf, eIxR, eSl, pNo, pIs, iSeq, iZp, gNm, gTp, gsNil, gsCons, sNx, sBk, sCt, sSeq, Out.seq, sIf, sAsg, sOwn, sPar, sPar3, sRet, sFz, sPub, sDn, sAug, D.iadd, D.imul, sParDF, sParFF, cellOf, iEn, D.isB, D.notB, sSetR, sSetIx, sMut, sDrop, sFor, eLc, tYs, wipeR, D.elems, D.truth, D.add, D.sub, D.mul, D.fdiv, D.mod, D.pow, D.lt, D.le, D.gt, D.ge, D.isN, D.notN, D.ix, D.cat, liftI, Option.bind_some, Option.bind_none, Option.map_some, Option.map_none, List.map_cons, List.map_nil, List.length_cons, List.length_nil, List.cons_append, List.nil_append, List.replicate, List.set_cons_zero, List.set_cons_succ, List.getElem?_cons_zero, List.getElem?_cons_succ, Nat.reduceAdd, Nat.reduceSub, Nat.reduceLeDiff, if_true, if_false, ↓reduceIte, List.isEmpty_nil, List.isEmpty_cons, Bool.not_true, Bool.not_false, Bool.false_eq_true, decide_true, decide_false, decide_eq_true_eq, eq_int, e0]
    · have m : eBin D.mod (bVar 0) (bVar 1) [.sh (.int (a : Int)), .sh (.int (b : Int)), .sh x] S = some (.int ((a % b : Nat) : Int), S) := eBin_of (d1 := .int (a : Int)) (d2 := .int (b : Int)) (S1 := S) (S2 := S) rfl rfl (mod_nat hb)
      simp only [sPar, aCons, aNil, eVar, m, List.getElem?_cons_zero, List.getElem?_cons_succ, Option.bind_some, List.set_cons_zero, List.set_cons_succ]
  intro k
  induction k with
  | zero =>
    intro xs a b z hb hx
    obtain ⟨x, xs, rfl⟩ : ∃ x r, xs = x :: r := by cases xs with | nil => simp at hx | cons x r => exact ⟨x, r, rfl⟩
    have : b = 0 := by simpa using hb
    subst this
    rw [fin, Nat.gcd_zero_right]
  | succ k ih =>
    intro xs a b z hb hx
    obtain ⟨x, y, xs, rfl⟩ : ∃ x y r, xs = x :: y :: r := by
      match xs, hx with
      | x :: y :: r, _ => exact ⟨x, y, r, rfl⟩
      | [x], h => simp at h
      | [], h => simp at h
    by_cases h0 : b = 0
    · subst h0; rw [fin, Nat.gcd_zero_right]
    · rw [step x _ a b z h0]
      by_cases h1 : a % b = 0
      · rw [h1, fin]
        have : Nat.gcd a b = b := by rw [Nat.gcd_comm, Nat.gcd_rec, h1, Nat.gcd_zero_left]
        rw [this]
      · rw [step y _ b (a % b) _ h1, ih xs (a % b) (b % (a % b)) _ (rem_half hb (Nat.pos_of_ne_zero h1) (Nat.pos_of_ne_zero h0)) (by simp at hx; omega)]
        have e1 : Nat.gcd (a % b) (b % (a % b)) = Nat.gcd a b := by
          rw [Nat.gcd_comm a b, Nat.gcd_rec b a, Nat.gcd_rec (a % b) b, Nat.gcd_comm]
        rw [e1]
theorem divisor_s (a b : Int) (S : Sto) (ha : 0 ≤ a) (hb : 0 ≤ b) (h : b.natAbs < 2 ^ 8999) : F__law_divisor [.int a, .int b] S = some (.int (Nat.gcd a.natAbs b.natAbs : Int), S) := by
  obtain ⟨a, rfl⟩ := Int.eq_ofNat_of_zero_le ha
  obtain ⟨b, rfl⟩ := Int.eq_ofNat_of_zero_le hb
  have l := div_loop S 8999 ((List.range 20000).map fun (i : Nat) => D.int (i : Int)) a b .un (by simpa using h) (by simp)
  unfold F__law_divisor b__law_divisor
  exact fnD_rt (S' := S) (sSeq_rt (sFor_of (iRng_of (ds := [.int ((20000 : Nat) : Int)]) (S1 := S) rfl (rangeOf_nat (by decide))) l)) rfl
theorem law_fraction_s (a b : Int) (S : Sto) (ha : 0 ≤ a) (hb : 0 < b) (h2 : b.natAbs < 2 ^ 8999) : F__law_fraction [.int a, .int b] S = some (frD (nf a b), S) := by
  have fs := divisor_s a b S ha (Int.le_of_lt hb) h2
  have o : okDiv (Nat.gcd a.natAbs b.natAbs : Int) = true := okDiv_t (gcd_pos hb) (by have := gcd_le (a := a) hb; omega)
  have d : decide (0 < b) = true := decide_eq_true hb
  unfold F__law_fraction b__law_fraction
  simp only [fnD, fnE, fnOut, rho0, eVar, bVar, Sl.rd, eC, eBin, eTup, eLst, aNil, aCons, eCB, eCall, tTru, tBl, tAn, DL.tOr, tNo, eAn, DL.eOr, eNo, eIf, eIxR, eSl, pNo, pIs, iSeq, iZp, gNm, gTp, gsNil, gsCons, sNx, sBk, sCt, sSeq, Out.seq, sIf, sAsg, sOwn, sPar, sPar3, sRet, sFz, sPub, sDn, sAug, D.iadd, D.imul, sParDF, sParFF, cellOf, iEn, D.isB, D.notB, sSetR, sSetIx, sMut, sDrop, sFor, eLc, tYs, wipeR, D.elems, D.truth, D.add, D.sub, D.mul, D.fdiv, D.mod, D.pow, D.lt, D.le, D.gt, D.ge, D.isN, D.notN, D.ix, D.cat, liftI, Option.bind_some, Option.bind_none, Option.map_some, Option.map_none, List.map_cons, List.map_nil, List.length_cons, List.length_nil, List.cons_append, List.nil_append, List.replicate, List.set_cons_zero, List.set_cons_succ, List.getElem?_cons_zero, List.getElem?_cons_succ, Nat.reduceAdd, Nat.reduceSub, Nat.reduceLeDiff, if_true, if_false, ↓reduceIte, List.isEmpty_nil, List.isEmpty_cons, Bool.not_true, Bool.not_false, Bool.false_eq_true, decide_true, decide_false, decide_eq_true_eq, fs, d, o, sz2]
  rfl
theorem law_plus_s {j k : Nat} {p q : Int × Int} (S : Sto) (hp : Fb j p) (hq : Fb k q) (h1 : 0 ≤ p.1) (h2 : 0 ≤ q.1) (l : j + k ≤ 8990) : F__law_plus [frD p, frD q] S = some (frD (plF p q), S) := by
  have m := fun {x : Int} {i : Nat} (h : x.natAbs < 2 ^ i) (l : i ≤ 8999) => bd_mono h l
  have o1 := okMul_t (m hp.n (by omega)) (m hq.d (by omega))
  have o2 := okMul_t (m hq.n (by omega)) (m hp.d (by omega))
  have o3 := okMul_t (m hp.d (by omega)) (m hq.d (by omega))
  have fs := law_fraction_s (p.1 * q.2 + q.1 * p.2) (p.2 * q.2) S (Int.add_nonneg (Int.mul_nonneg h1 (Int.le_of_lt hq.pos)) (Int.mul_nonneg h2 (Int.le_of_lt hp.pos))) (Int.mul_pos hp.pos hq.pos) (m (mul_bd hp.d hq.d) (by omega))
  unfold F__law_plus b__law_plus frD
  simp only [fnD, fnE, fnOut, rho0, eVar, bVar, Sl.rd, eC, eBin, eTup, eLst, aNil, aCons, eCB, eCall, tTru, tBl, tAn, DL.tOr, tNo, eAn, DL.eOr, eNo, eIf, eIxR, eSl, pNo, pIs, iSeq, iZp, gNm, gTp, gsNil, gsCons, sNx, sBk, sCt, sSeq, Out.seq, sIf, sAsg, sOwn, sPar, sPar3, sRet, sFz, sPub, sDn, sAug, D.iadd, D.imul, sParDF, sParFF, cellOf, iEn, D.isB, D.notB, sSetR, sSetIx, sMut, sDrop, sFor, eLc, tYs, wipeR, D.elems, D.truth, D.add, D.sub, D.mul, D.fdiv, D.mod, D.pow, D.lt, D.le, D.gt, D.ge, D.isN, D.notN, D.ix, D.cat, liftI, Option.bind_some, Option.bind_none, Option.map_some, Option.map_none, List.map_cons, List.map_nil, List.length_cons, List.length_nil, List.cons_append, List.nil_append, List.replicate, List.set_cons_zero, List.set_cons_succ, List.getElem?_cons_zero, List.getElem?_cons_succ, Nat.reduceAdd, Nat.reduceSub, Nat.reduceLeDiff, if_true, if_false, ↓reduceIte, List.isEmpty_nil, List.isEmpty_cons, Bool.not_true, Bool.not_false, Bool.false_eq_true, decide_true, decide_false, decide_eq_true_eq, at0, at1, o1, o2, o3, fs]
  rfl
theorem law_times_s {j k : Nat} {p q : Int × Int} (S : Sto) (hp : Fb j p) (hq : Fb k q) (h1 : 0 ≤ p.1) (h2 : 0 ≤ q.1) (l : j + k ≤ 8990) : F__law_times [frD p, frD q] S = some (frD (tmF p q), S) := by
  have m := fun {x : Int} {i : Nat} (h : x.natAbs < 2 ^ i) (l : i ≤ 8999) => bd_mono h l
  have o1 := okMul_t (m hp.n (by omega)) (m hq.n (by omega))
  have o3 := okMul_t (m hp.d (by omega)) (m hq.d (by omega))
  have fs := law_fraction_s (p.1 * q.1) (p.2 * q.2) S (Int.mul_nonneg h1 h2) (Int.mul_pos hp.pos hq.pos) (m (mul_bd hp.d hq.d) (by omega))
  unfold F__law_times b__law_times frD
  simp only [fnD, fnE, fnOut, rho0, eVar, bVar, Sl.rd, eC, eBin, eTup, eLst, aNil, aCons, eCB, eCall, tTru, tBl, tAn, DL.tOr, tNo, eAn, DL.eOr, eNo, eIf, eIxR, eSl, pNo, pIs, iSeq, iZp, gNm, gTp, gsNil, gsCons, sNx, sBk, sCt, sSeq, Out.seq, sIf, sAsg, sOwn, sPar, sPar3, sRet, sFz, sPub, sDn, sAug, D.iadd, D.imul, sParDF, sParFF, cellOf, iEn, D.isB, D.notB, sSetR, sSetIx, sMut, sDrop, sFor, eLc, tYs, wipeR, D.elems, D.truth, D.add, D.sub, D.mul, D.fdiv, D.mod, D.pow, D.lt, D.le, D.gt, D.ge, D.isN, D.notN, D.ix, D.cat, liftI, Option.bind_some, Option.bind_none, Option.map_some, Option.map_none, List.map_cons, List.map_nil, List.length_cons, List.length_nil, List.cons_append, List.nil_append, List.replicate, List.set_cons_zero, List.set_cons_succ, List.getElem?_cons_zero, List.getElem?_cons_succ, Nat.reduceAdd, Nat.reduceSub, Nat.reduceLeDiff, if_true, if_false, ↓reduceIte, List.isEmpty_nil, List.isEmpty_cons, Bool.not_true, Bool.not_false, Bool.false_eq_true, decide_true, decide_false, decide_eq_true_eq, at0, at1, o1, o3, fs]
  rfl
end W13

set_option Elab.async false
set_option linter.all false
set_option maxRecDepth 100000
namespace W13
open DL
open L2 (atI atI_nat ixN)
/-- the counter's list -/
def cS (l : List D) (p q t : Int) : Sto := [.lst [.lst l, .int p, .int q, .int t, .int 20]]
section
variable {l : List D} {p q t : Int} {ρ : Rho}
theorem get0 : eIxR (eVar 0) (eC (.int 0)) (.sh (.ref 0) :: ρ) (cS l p q t) = some (.lst l, cS l p q t) := rfl
theorem get1 : eIxR (eVar 0) (eC (.int 1)) (.sh (.ref 0) :: ρ) (cS l p q t) = some (.int p, cS l p q t) := rfl
theorem get2 : eIxR (eVar 0) (eC (.int 2)) (.sh (.ref 0) :: ρ) (cS l p q t) = some (.int q, cS l p q t) := rfl
theorem get3 : eIxR (eVar 0) (eC (.int 3)) (.sh (.ref 0) :: ρ) (cS l p q t) = some (.int t, cS l p q t) := rfl
theorem set1 {f : Ex} {S : Sto} {i : Int} (h : f (.sh (.ref 0) :: ρ) S = some (.int i, cS l p q t)) : sSetR (eVar 0) f (eC (.int 1)) (.sh (.ref 0) :: ρ) S = some (.nx (.sh (.ref 0) :: ρ) (cS l i q t)) := by
  unfold sSetR; rw [h]; rfl
theorem set2 {f : Ex} {S : Sto} {i : Int} (h : f (.sh (.ref 0) :: ρ) S = some (.int i, cS l p q t)) : sSetR (eVar 0) f (eC (.int 2)) (.sh (.ref 0) :: ρ) S = some (.nx (.sh (.ref 0) :: ρ) (cS l p i t)) := by
  unfold sSetR; rw [h]; rfl
theorem set3 {f : Ex} {S : Sto} {i : Int} (h : f (.sh (.ref 0) :: ρ) S = some (.int i, cS l p q t)) : sSetR (eVar 0) f (eC (.int 3)) (.sh (.ref 0) :: ρ) S = some (.nx (.sh (.ref 0) :: ρ) (cS l p q i)) := by
  unfold sSetR; rw [h]; rfl
theorem len0 : eCB gLen (aCons (eIxR (eVar 0) (eC (.int 0))) aNil) (.sh (.ref 0) :: ρ) (cS l p q t) = some (.int l.length, cS l p q t) := rfl
end
theorem i_add (i j : Int) : D.add (.int i) (.int j) = some (.int (i + j)) := rfl
theorem i_sub (i j : Int) : D.sub (.int i) (.int j) = some (.int (i - j)) := rfl
theorem i_mul {i j : Int} {a b : Nat} (hi : i.natAbs < 2 ^ a) (hj : j.natAbs < 2 ^ b) (ha : a ≤ 8999) (hb : b ≤ 8999) : D.mul (.int i) (.int j) = some (.int (i * j)) := by
  have o := okMul_t (bd_mono hi ha) (bd_mono hj hb)
  simp only [D.mul, liftI, o, if_true]
theorem i_mod {i j : Int} (hj : 0 < j) : D.mod (.int i) (.int j) = some (.int (i % j)) := by
  have : j ≠ 0 := by omega
  simp only [D.mod, liftI, if_pos this, Int.fmod_eq_emod_of_nonneg i (Int.le_of_lt hj)]
theorem i_div {i j : Int} (hj : 0 < j) (h : j.natAbs < 2 ^ 8999) : D.fdiv (.int i) (.int j) = some (.int (i / j)) := by
  have o := okDiv_t hj h
  simp only [D.fdiv, liftI, o, if_true]
theorem i_lt (i j : Int) : D.lt (.int i) (.int j) = some (.bl (decide (i < j))) := rfl
theorem i_ge (i j : Int) : D.ge (.int i) (.int j) = some (.bl (decide (j ≤ i))) := rfl
theorem i_pow : D.pow (.int 10) (.int 18) = some (.int 1000000000000000000) := by
  have c : (0 : Int) ≤ 18 ∧ (18 : Int) ≤ 1000000 ∧ (10 : Int).natAbs < 2 ^ 64 := by decide
  simp only [D.pow, liftI, if_pos c]
  rfl
theorem bd64 {x : Int} (h0 : 0 ≤ x) (h : x < 18446744073709551616) : x.natAbs < 2 ^ 64 := by omega
/-- the end of _law_fill, from a number that is not great -/
theorem fill_tail (ns : List Int) (p q t n : Int) (hn : 0 ≤ n) (hn2 : n < 2000000000000000000) (ht : 0 ≤ t) (ht2 : t ≤ 200000) :
    ∃ r : Int, 0 ≤ r ∧ (sSeq (sIf (tAn (tTru (eIxR (eVar 0) (eC (.int 0)))) (tBl (eBin D.ge (eIxR (eVar 0) (eC (.int 1))) (eCB gLen (aCons (eIxR (eVar 0) (eC (.int 0))) aNil))))) (sAsg (eBin D.add (bVar 1) (eBin D.mod (eCB gInt (aCons (eBin D.ix (eIxR (eVar 0) (eC (.int 0))) (eUn D.neg (eC (.int 1)))) aNil)) (eC (.int 1000003)))) (gNm 1)) sNx)
    (sSeq (sAsg (eBin D.mod (eCB gInt (aCons (eBin D.add (eBin D.mul (bVar 1) (eC (.int 48271))) (eBin D.mul (eIxR (eVar 0) (eC (.int 3))) (eC (.int 69621)))) aNil)) (eC (.int 2147483647))) (gNm 1))
    (sRet (eBin D.add (eBin D.fdiv (eCB gInt (aCons (eBin D.add (eBin D.add (eBin D.mul (bVar 1) (bVar 1)) (eBin D.mul (eIxR (eVar 0) (eC (.int 3))) (eC (.int 7919)))) (eC (.int 11))) aNil)) (eC (.int 64))) (eC (.int 36028797018963968)))))) [.sh (.ref 0), .sh (.int n)] (cS (ns.map D.int) p q t) = some (.rt (.int r) (cS (ns.map D.int) p q t)) := by
  generalize hS : cS (ns.map D.int) p q t = S
  have g0 : eIxR (eVar 0) (eC (.int 0)) = eIxR (eVar 0) (eC (.int 0)) := rfl
  obtain ⟨m, hm0, hm1, h4⟩ : ∃ m : Int, 0 ≤ m ∧ m < 3000000000000000000 ∧ sIf (tAn (tTru (eIxR (eVar 0) (eC (.int 0)))) (tBl (eBin D.ge (eIxR (eVar 0) (eC (.int 1))) (eCB gLen (aCons (eIxR (eVar 0) (eC (.int 0))) aNil))))) (sAsg (eBin D.add (bVar 1) (eBin D.mod (eCB gInt (aCons (eBin D.ix (eIxR (eVar 0) (eC (.int 0))) (eUn D.neg (eC (.int 1)))) aNil)) (eC (.int 1000003)))) (gNm 1)) sNx [.sh (.ref 0), .sh (.int n)] S = some (.nx [.sh (.ref 0), .sh (.int m)] S) := by
    subst hS
    have t2 : tBl (eBin D.ge (eIxR (eVar 0) (eC (.int 1))) (eCB gLen (aCons (eIxR (eVar 0) (eC (.int 0))) aNil))) [.sh (.ref 0), .sh (.int n)] (cS (ns.map D.int) p q t) = some (decide (((ns.map D.int).length : Int) ≤ p), cS (ns.map D.int) p q t) := tBl_of (eBin_of get1 len0 (i_ge _ _))
    cases ns with
    | nil =>
      refine ⟨n, hn, by omega, sIf_f (S1 := cS [] p q t) ?_ rfl⟩
      rfl
    | cons x ns =>
      have t1 : tTru (eIxR (eVar 0) (eC (.int 0))) [.sh (.ref 0), .sh (.int n)] (cS ((x :: ns).map D.int) p q t) = some (true, cS ((x :: ns).map D.int) p q t) := rfl
      by_cases c : (((x :: ns).map D.int).length : Int) ≤ p
      · rw [decide_eq_true c] at t2
        obtain ⟨y, hy⟩ : ∃ y : Int, atI ((x :: ns).map D.int) (-1) = some (.int y) := by
          refine ⟨(x :: ns).getLast (by simp), ?_⟩
          conv => lhs; rw [← List.dropLast_concat_getLast (l := x :: ns) (by simp), List.map_append]
          exact L2.atI_last _ _
        have e1 := Int.emod_nonneg y (b := 1000003) (by decide)
        have e2 := Int.emod_lt_of_pos y (b := 1000003) (by decide)
        refine ⟨n + y % 1000003, by omega, by omega, sIf_t (S1 := cS ((x :: ns).map D.int) p q t) ?_ ?_⟩
        · simp only [tAn, t1, Option.bind_some, if_true, t2]
        · have hx : eBin D.ix (eIxR (eVar 0) (eC (.int 0))) (eUn D.neg (eC (.int 1))) [.sh (.ref 0), .sh (.int n)] (cS ((x :: ns).map D.int) p q t) = some (.int y, cS ((x :: ns).map D.int) p q t) := eBin_of (d2 := .int (-1)) (S2 := cS ((x :: ns).map D.int) p q t) get0 rfl hy
          exact sAsg_of (eBin_of (d1 := .int n) (S1 := cS ((x :: ns).map D.int) p q t) rfl (eBin_of (d1 := .int y) (d2 := .int 1000003) (S2 := cS ((x :: ns).map D.int) p q t) (eCB_of (aCons_of hx rfl) rfl) rfl (i_mod (by decide))) (i_add _ _)) rfl
      · rw [decide_eq_false c] at t2
        refine ⟨n, hn, by omega, sIf_f (S1 := cS ((x :: ns).map D.int) p q t) ?_ rfl⟩
        simp only [tAn, t1, Option.bind_some, if_true, t2]
  subst hS
  have k1 : D.mul (.int m) (.int 48271) = some (.int (m * 48271)) := i_mul (a := 64) (b := 64) (bd64 hm0 (by omega)) (by decide) (by decide) (by decide)
  have k2 : D.mul (.int t) (.int 69621) = some (.int (t * 69621)) := i_mul (a := 64) (b := 64) (bd64 ht (by omega)) (by decide) (by decide) (by decide)
  have e1 := Int.emod_nonneg (m * 48271 + t * 69621) (b := 2147483647) (by decide)
  have e2 := Int.emod_lt_of_pos (m * 48271 + t * 69621) (b := 2147483647) (by decide)
  have h5 : sAsg (eBin D.mod (eCB gInt (aCons (eBin D.add (eBin D.mul (bVar 1) (eC (.int 48271))) (eBin D.mul (eIxR (eVar 0) (eC (.int 3))) (eC (.int 69621)))) aNil)) (eC (.int 2147483647))) (gNm 1) [.sh (.ref 0), .sh (.int m)] (cS (ns.map D.int) p q t) = some (.nx [.sh (.ref 0), .sh (.int ((m * 48271 + t * 69621) % 2147483647))] (cS (ns.map D.int) p q t)) :=
    sAsg_of (eBin_of (d1 := .int (m * 48271 + t * 69621)) (d2 := .int 2147483647) (S2 := cS (ns.map D.int) p q t) (eCB_of (ds := [.int (m * 48271 + t * 69621)]) (S1 := cS (ns.map D.int) p q t) (aCons_of (S1 := cS (ns.map D.int) p q t) (eBin_of (S2 := cS (ns.map D.int) p q t) (eBin_of (d1 := .int m) (d2 := .int 48271) (S1 := cS (ns.map D.int) p q t) (S2 := cS (ns.map D.int) p q t) rfl rfl k1) (eBin_of (d2 := .int 69621) (S2 := cS (ns.map D.int) p q t) get3 rfl k2) (i_add _ _)) rfl) rfl) rfl (i_mod (by decide))) rfl
  generalize (m * 48271 + t * 69621) % 2147483647 = u at *
  have k3 : D.mul (.int u) (.int u) = some (.int (u * u)) := i_mul (a := 64) (b := 64) (bd64 e1 (by omega)) (bd64 e1 (by omega)) (by decide) (by decide)
  have k4 : D.mul (.int t) (.int 7919) = some (.int (t * 7919)) := i_mul (a := 64) (b := 64) (bd64 ht (by omega)) (by decide) (by decide) (by decide)
  have k5 : D.fdiv (.int (u * u + t * 7919 + 11)) (.int 64) = some (.int ((u * u + t * 7919 + 11) / 64)) := i_div (by decide) (bd_mono (j := 64) (by decide) (by decide))
  have uu : 0 ≤ u * u := Int.mul_nonneg e1 e1
  refine ⟨(u * u + t * 7919 + 11) / 64 + 36028797018963968, by omega, sSeq_of h4 (sSeq_of h5 (sRet_of ?_))⟩
  exact eBin_of (d1 := .int ((u * u + t * 7919 + 11) / 64)) (d2 := .int 36028797018963968) (S1 := cS (ns.map D.int) p q t) (S2 := cS (ns.map D.int) p q t) (eBin_of (d1 := .int (u * u + t * 7919 + 11)) (d2 := .int 64) (S1 := cS (ns.map D.int) p q t) (S2 := cS (ns.map D.int) p q t) (eCB_of (ds := [.int (u * u + t * 7919 + 11)]) (S1 := cS (ns.map D.int) p q t) (aCons_of (S1 := cS (ns.map D.int) p q t) (eBin_of (d1 := .int (u * u + t * 7919)) (d2 := .int 11) (S1 := cS (ns.map D.int) p q t) (S2 := cS (ns.map D.int) p q t) (eBin_of (d1 := .int (u * u)) (S1 := cS (ns.map D.int) p q t) (S2 := cS (ns.map D.int) p q t) (eBin_of (d1 := .int u) (d2 := .int u) (S1 := cS (ns.map D.int) p q t) (S2 := cS (ns.map D.int) p q t) rfl rfl k3) (eBin_of (d2 := .int 7919) (S2 := cS (ns.map D.int) p q t) get3 rfl k4) (i_add _ _)) rfl (i_add _ _)) rfl) rfl) rfl k5) rfl (i_add _ _)
/-- the counter is in order; m bounds how often it was filled -/
def Good (m : Nat) (S : Sto) : Prop := ∃ (ns : List Int) (p q t : Int), S = cS (ns.map D.int) p q t ∧ 0 ≤ p ∧ 0 ≤ q ∧ 0 ≤ t ∧ t ≤ m
theorem fill_s (ns : List Int) (p q t : Int) (hp : 0 ≤ p) (ht : 0 ≤ t) (ht2 : t ≤ 100000) : ∃ (r : Int) (p' : Int), 0 ≤ r ∧ 0 ≤ p' ∧ F__law_fill [.ref 0] (cS (ns.map D.int) p q t) = some (.int r, cS (ns.map D.int) p' q (t + 1)) := by
  have s1 : sSetR (eVar 0) (eBin D.add (eIxR (eVar 0) (eC (.int 3))) (eC (.int 1))) (eC (.int 3)) [.sh (.ref 0), .un] (cS (ns.map D.int) p q t) = some (.nx [.sh (.ref 0), .un] (cS (ns.map D.int) p q (t + 1))) := set3 (eBin_of (S2 := cS (ns.map D.int) p q t) get3 rfl (i_add _ _))
  have k1 : D.mul (.int (t + 1)) (.int 69621) = some (.int ((t + 1) * 69621)) := i_mul (a := 64) (b := 64) (bd64 (by omega) (by omega)) (by decide) (by decide) (by decide)
  have s2 : sAsg (eBin D.add (eBin D.mul (eIxR (eVar 0) (eC (.int 3))) (eC (.int 69621))) (eC (.int 12345))) (gNm 1) [.sh (.ref 0), .un] (cS (ns.map D.int) p q (t + 1)) = some (.nx [.sh (.ref 0), .sh (.int ((t + 1) * 69621 + 12345))] (cS (ns.map D.int) p q (t + 1))) :=
    sAsg_of (eBin_of (d2 := .int 12345) (S2 := cS (ns.map D.int) p q (t + 1)) (eBin_of (d2 := .int 69621) (S2 := cS (ns.map D.int) p q (t + 1)) get3 rfl k1) rfl (i_add _ _)) rfl
  have c3 : tBl (eBin D.lt (eIxR (eVar 0) (eC (.int 1))) (eCB gLen (aCons (eIxR (eVar 0) (eC (.int 0))) aNil))) [.sh (.ref 0), .sh (.int ((t + 1) * 69621 + 12345))] (cS (ns.map D.int) p q (t + 1)) = some (decide (p < (ns.map D.int).length), cS (ns.map D.int) p q (t + 1)) := tBl_of (eBin_of get1 len0 (i_lt _ _))
  unfold F__law_fill b__law_fill
  by_cases c : p < (ns.map D.int).length
  · rw [decide_eq_true c] at c3
    obtain ⟨j, rfl⟩ := Int.eq_ofNat_of_zero_le hp
    have hj : j < ns.length := by simpa using c
    have a : atI (ns.map D.int) (j : Int) = some (.int ns[j]) := by rw [atI_lt (by simpa using hj), List.getElem_map]
    have s3 : sAsg (eBin D.ix (eIxR (eVar 0) (eC (.int 0))) (eIxR (eVar 0) (eC (.int 1)))) (gNm 1) [.sh (.ref 0), .sh (.int ((t + 1) * 69621 + 12345))] (cS (ns.map D.int) j q (t + 1)) = some (.nx [.sh (.ref 0), .sh (.int ns[j])] (cS (ns.map D.int) j q (t + 1))) := sAsg_of (eBin_of get0 get1 a) rfl
    generalize ns[j] = x at s3
    have s4 : sSetR (eVar 0) (eBin D.add (eIxR (eVar 0) (eC (.int 1))) (eC (.int 1))) (eC (.int 1)) [.sh (.ref 0), .sh (.int x)] (cS (ns.map D.int) j q (t + 1)) = some (.nx [.sh (.ref 0), .sh (.int x)] (cS (ns.map D.int) (j + 1) q (t + 1))) := set1 (eBin_of (S2 := cS (ns.map D.int) j q (t + 1)) get1 rfl (i_add _ _))
    obtain ⟨y, hy0, s5⟩ : ∃ y : Int, 0 ≤ y ∧ sIf (tBl (eBin D.lt (bVar 1) (eC (.int 0)))) (sAsg (eBin D.sub (eBin D.sub (eC (.int 0)) (eC (.int 1))) (bVar 1)) (gNm 1)) sNx [.sh (.ref 0), .sh (.int x)] (cS (ns.map D.int) (j + 1) q (t + 1)) = some (.nx [.sh (.ref 0), .sh (.int y)] (cS (ns.map D.int) (j + 1) q (t + 1))) := by
      have t5 : tBl (eBin D.lt (bVar 1) (eC (.int 0))) [.sh (.ref 0), .sh (.int x)] (cS (ns.map D.int) (j + 1) q (t + 1)) = some (decide (x < 0), cS (ns.map D.int) (j + 1) q (t + 1)) := rfl
      by_cases hx : x < 0
      · rw [decide_eq_true hx] at t5
        exact ⟨0 - 1 - x, by omega, sIf_t t5 rfl⟩
      · rw [decide_eq_false hx] at t5
        exact ⟨x, by omega, sIf_f t5 rfl⟩
    have t6 : tBl (eBin D.ge (bVar 1) (eBin D.pow (eC (.int 10)) (eC (.int 18)))) [.sh (.ref 0), .sh (.int y)] (cS (ns.map D.int) (j + 1) q (t + 1)) = some (decide (1000000000000000000 ≤ y), cS (ns.map D.int) (j + 1) q (t + 1)) := tBl_of (eBin_of (d1 := .int y) (S1 := cS (ns.map D.int) (j + 1) q (t + 1)) (S2 := cS (ns.map D.int) (j + 1) q (t + 1)) rfl (eBin_of (d1 := .int 10) (d2 := .int 18) (S1 := cS (ns.map D.int) (j + 1) q (t + 1)) (S2 := cS (ns.map D.int) (j + 1) q (t + 1)) rfl rfl i_pow) (i_ge _ _))
    by_cases hy : 1000000000000000000 ≤ y
    · rw [decide_eq_true hy] at t6
      exact ⟨y, j + 1, hy0, by omega, fnD_rt (S' := cS (ns.map D.int) (j + 1) q (t + 1)) (sSeq_of s1 (sSeq_of s2 (sSeq_rt (sIf_t c3 (sSeq_of s3 (sSeq_of s4 (sSeq_of s5 (sIf_t t6 rfl)))))))) rfl⟩
    · rw [decide_eq_false hy] at t6
      obtain ⟨r, hr, ft⟩ := fill_tail ns (j + 1) q (t + 1) y hy0 (by omega) (by omega) (by omega)
      exact ⟨r, j + 1, hr, by omega, fnD_rt (S' := cS (ns.map D.int) (j + 1) q (t + 1)) (sSeq_of s1 (sSeq_of s2 (sSeq_of (S1 := cS (ns.map D.int) (j + 1) q (t + 1)) (sIf_t c3 (sSeq_of s3 (sSeq_of s4 (sSeq_of s5 (sIf_f t6 rfl))))) ft))) rfl⟩
  · rw [decide_eq_false c] at c3
    obtain ⟨r, hr, ft⟩ := fill_tail ns p q (t + 1) ((t + 1) * 69621 + 12345) (by omega) (by omega) (by omega) (by omega)
    exact ⟨r, p, hr, hp, fnD_rt (S' := cS (ns.map D.int) p q (t + 1)) (sSeq_of s1 (sSeq_of s2 (sSeq_of (S1 := cS (ns.map D.int) p q (t + 1)) (sIf_f c3 rfl) ft))) rfl⟩
theorem take_s {m : Nat} {S : Sto} (many : Int) (h : Good m S) (hm : m ≤ 50000) (h0 : 0 < many) (h1 : many ≤ 1000000) : ∃ (r : Nat) (S' : Sto), F__law_take [.ref 0, .int many] S = some (.int (r : Int), S') ∧ (r : Int) < many ∧ Good (m + 1) S' := by
  obtain ⟨ns, p, q, t, rfl, hp, hq, ht, htm⟩ := h
  have t1 : tBl (eBin D.lt (eIxR (eVar 0) (eC (.int 2))) (bVar 1)) [.sh (.ref 0), .sh (.int many), .un] (cS (ns.map D.int) p q t) = some (decide (q < many), cS (ns.map D.int) p q t) := tBl_of (eBin_of (d2 := .int many) (S2 := cS (ns.map D.int) p q t) get2 rfl (i_lt _ _))
  obtain ⟨p', q', t', hp', hq', ht', htm', s1⟩ : ∃ p' q' t' : Int, 0 ≤ p' ∧ 0 ≤ q' ∧ 0 ≤ t' ∧ t' ≤ ((m + 1 : Nat) : Int) ∧ sIf (tBl (eBin D.lt (eIxR (eVar 0) (eC (.int 2))) (bVar 1))) (sSetR (eVar 0) (eCall F__law_fill (aCons (eVar 0) aNil)) (eC (.int 2))) sNx [.sh (.ref 0), .sh (.int many), .un] (cS (ns.map D.int) p q t) = some (.nx [.sh (.ref 0), .sh (.int many), .un] (cS (ns.map D.int) p' q' t')) := by
    by_cases c : q < many
    · rw [decide_eq_true c] at t1
      obtain ⟨r, p', hr, hp', hf⟩ := fill_s ns p q t hp ht (by omega)
      exact ⟨p', r, t + 1, hp', hr, by omega, by omega, sIf_t t1 (set2 (eCall_of (S1 := cS (ns.map D.int) p q t) rfl hf))⟩
    · rw [decide_eq_false c] at t1
      exact ⟨p, q, t, hp, hq, ht, by omega, sIf_f t1 rfl⟩
  have e1 := Int.emod_nonneg q' (b := many) (by omega)
  have e2 := Int.emod_lt_of_pos q' h0
  have bm : many.natAbs < 2 ^ 8999 := bd_mono (j := 64) (by omega) (by decide)
  have s2 : sAsg (eBin D.mod (eCB gInt (aCons (eIxR (eVar 0) (eC (.int 2))) aNil)) (bVar 1)) (gNm 2) [.sh (.ref 0), .sh (.int many), .un] (cS (ns.map D.int) p' q' t') = some (.nx [.sh (.ref 0), .sh (.int many), .sh (.int (q' % many))] (cS (ns.map D.int) p' q' t')) :=
    sAsg_of (eBin_of (d2 := .int many) (S2 := cS (ns.map D.int) p' q' t') (eCB_of (aCons_of get2 rfl) rfl) rfl (i_mod h0)) rfl
  have s3 : sSetR (eVar 0) (eBin D.fdiv (eIxR (eVar 0) (eC (.int 2))) (bVar 1)) (eC (.int 2)) [.sh (.ref 0), .sh (.int many), .sh (.int (q' % many))] (cS (ns.map D.int) p' q' t') = some (.nx [.sh (.ref 0), .sh (.int many), .sh (.int (q' % many))] (cS (ns.map D.int) p' (q' / many) t')) :=
    set2 (eBin_of (d2 := .int many) (S2 := cS (ns.map D.int) p' q' t') get2 rfl (i_div h0 bm))
  obtain ⟨r, hr⟩ := Int.eq_ofNat_of_zero_le e1
  refine ⟨r, cS (ns.map D.int) p' (q' / many) t', ?_, by omega, ns, p', q' / many, t', rfl, hp', Int.ediv_nonneg hq' (Int.le_of_lt h0), ht', htm'⟩
  unfold F__law_take b__law_take
  rw [← hr]
  exact fnD_rt (S' := cS (ns.map D.int) p' (q' / many) t') (sSeq_of s1 (sSeq_of s2 (sSeq_of s3 rfl))) rfl
theorem ixN_lt {n j : Nat} (h : j < n) : ixN n (j : Int) = some j := by
  unfold ixN
  rw [if_pos (by omega), if_pos (by omega)]
  simp
theorem Good.len {m : Nat} {S : Sto} (h : Good m S) : S.length = 1 := by
  obtain ⟨ns, p, q, t, rfl, _⟩ := h; rfl
theorem Good.mono {m k : Nat} {S : Sto} (h : Good m S) (l : m ≤ k) : Good k S := by
  obtain ⟨ns, p, q, t, rfl, h1, h2, h3, h4⟩ := h
  exact ⟨ns, p, q, t, rfl, h1, h2, h3, by omega⟩
theorem start_s (ns : List Int) (S : Sto) : ∃ ns' : List Int, F__law_start [.scr ns] S = some (.lst [.lst (ns'.map D.int), .int 0, .int 0, .int 0, .int 20], S) := by
  refine ⟨(ns.drop (HT.sIx (ns.map D.int).length 0 none)).take (HT.sIx (ns.map D.int).length (ns.map D.int).length (some 63) - HT.sIx (ns.map D.int).length 0 none), ?_⟩
  have c : cutD (ns.map D.int) none (some 63) = ((ns.drop (HT.sIx (ns.map D.int).length 0 none)).take (HT.sIx (ns.map D.int).length (ns.map D.int).length (some 63) - HT.sIx (ns.map D.int).length 0 none)).map D.int := by
    unfold cutD
    rw [List.map_take, List.map_drop]
  generalize (ns.drop (HT.sIx (ns.map D.int).length 0 none)).take (HT.sIx (ns.map D.int).length (ns.map D.int).length (some 63) - HT.sIx (ns.map D.int).length 0 none) = ns' at *
  have cc := compF_all (g := gNm 1) (te := eCB gInt (aCons (bVar 1) aNil)) (ρ := [.sh (.scr ns), .un]) (S := S) D.int D.int ns' fun x _ => ⟨_, rfl, rfl⟩
  have sl : eSl D.slice (bVar 0) pNo (pIs (eC (.int 63))) [.sh (.scr ns), .un] S = some (.lst (ns'.map D.int), S) := by
    show ((D.slice (.scr ns) none (some 63)).map fun z => (z, S)) = _
    show (some (D.lst (cutD (ns.map D.int) none (some 63)))).map _ = _
    rw [c]; rfl
  have l : eLc (iSeq (eSl D.slice (bVar 0) pNo (pIs (eC (.int 63))))) (gNm 1) tYs (eCB gInt (aCons (bVar 1) aNil)) [1] [.sh (.scr ns), .un] S = some (.lst (ns'.map D.int), S) := eLc_of (iSeq_of sl rfl) cc
  have a : aCons (eLc (iSeq (eSl D.slice (bVar 0) pNo (pIs (eC (.int 63))))) (gNm 1) tYs (eCB gInt (aCons (bVar 1) aNil)) [1]) (aCons (eC (.int 0)) (aCons (eC (.int 0)) (aCons (eC (.int 0)) (aCons (eC (.int 20)) aNil)))) [.sh (.scr ns), .un] S = some ([.lst (ns'.map D.int), .int 0, .int 0, .int 0, .int 20], S) := aCons_of l rfl
  show b__law_start (rho0 2 [.scr ns]) S = _
  unfold b__law_start eLst
  have a' : aCons (eLc (iSeq (eSl D.slice (bVar 0) pNo (pIs (eC (.int 63))))) (gNm 1) tYs (eCB gInt (aCons (bVar 1) aNil)) [1]) (aCons (eC (.int 0)) (aCons (eC (.int 0)) (aCons (eC (.int 0)) (aCons (eC (.int 20)) aNil)))) (rho0 2 [.scr ns]) S = some ([.lst (ns'.map D.int), .int 0, .int 0, .int 0, .int 20], S) := a
  rw [a', Option.bind_some]
  rw [if_pos (by show 5 ≤ PySem.sizeLine; decide)]
theorem compF_st {α β : Type} {g : Tg} {te : Ex} {ρ : Rho} (enc : α → D) (R : β → D) (ok : β → Prop) (h : ∀ x m S, m ≤ 40000 → Good m S → ∃ ρ2 b S', g (enc x) ρ = some ρ2 ∧ te ρ2 S = some (R b, S') ∧ Good (m + 1) S' ∧ ok b) :
    ∀ (xs : List α) (m : Nat) (S : Sto), Good m S → m + xs.length ≤ 40000 → ∃ (bs : List β) (S' : Sto), compF g tYs te ρ (xs.map enc) S = some (bs.map R, S') ∧ Good (m + xs.length) S' ∧ bs.length = xs.length ∧ ∀ b ∈ bs, ok b
  | [], m, S, hS, _ => ⟨[], S, rfl, hS, rfl, fun b hb => by simp at hb⟩
  | x :: xs, m, S, hS, hm => by
    rw [List.length_cons] at hm
    obtain ⟨ρ2, b, S1, e1, e2, g1, o1⟩ := h x m S (by omega) hS
    obtain ⟨bs, S2, e3, g2, hl, o2⟩ := compF_st enc R ok h xs (m + 1) S1 g1 (by omega)
    refine ⟨b :: bs, S2, ?_, by rw [List.length_cons, show m + (xs.length + 1) = m + 1 + xs.length by omega]; exact g2, by rw [List.length_cons, List.length_cons, hl], fun c hc => ?_⟩
    · rw [List.map_cons]
      unfold compF
      rw [e1, Option.bind_some]
      show ((some (true, S) : Option (Bool × Sto))).bind _ = _
      rw [Option.bind_some, if_pos rfl, e2, Option.bind_some, e3]
      rfl
    · rcases List.mem_cons.mp hc with rfl | hc
      · exact o1
      · exact o2 c hc
end W13

set_option Elab.async false
set_option linter.all false
set_option maxRecDepth 100000
namespace W13
open DL
open L2 (atI atI_nat ixN)
section
theorem eIf_t {c : Tx} {a b : Ex} {ρ : Rho} {S S1 : Sto} {o : Option (D × Sto)} (h1 : c ρ S = some (true, S1)) (h2 : a ρ S1 = o) : eIf c a b ρ S = o := by
  unfold eIf
  rw [h1, Option.bind_some, if_pos rfl]
  exact h2
theorem eIf_f {c : Tx} {a b : Ex} {ρ : Rho} {S S1 : Sto} {o : Option (D × Sto)} (h1 : c ρ S = some (false, S1)) (h2 : b ρ S1 = o) : eIf c a b ρ S = o := by
  unfold eIf
  rw [h1, Option.bind_some, if_neg Bool.false_ne_true]
  exact h2
theorem app_d {xs : List D} {y : D} (h : xs.length ≤ 100000) : gAppend (.lst xs) [y] = some (.lst (xs ++ [y]), .non) := by
  have z : xs.length < PySem.sizeLine := Nat.lt_of_lt_of_le (Nat.lt_succ_of_le h) (by decide : 100000 + 1 ≤ PySem.sizeLine)
  simp only [gAppend, if_pos z]
theorem pair_s {f1 f2 : Ex} {ρ : Rho} {S S1 S2 : Sto} {d1 d2 : D} (h1 : f1 ρ S = some (d1, S1)) (h2 : f2 ρ S1 = some (d2, S2)) : eTup (aCons f1 (aCons f2 aNil)) ρ S = some (.tup [d1, d2], S2) := eTup_of (aCons_of h1 (aCons_of h2 rfl)) (by show 2 ≤ PySem.sizeLine; decide)
end
end W13

set_option Elab.async false
set_option linter.all false
set_option maxRecDepth 100000
namespace DL
end DL
namespace W13
open DL
open L2 (atI atI_nat ixN)
theorem rows_of_g {d : D} (s : List Nat) (S : Sto) (h : Small [[]] s) (hd : d.elems = some (s.map fun (n : Nat) => D.int (n : Int))) : F_rows_of [d] S = some (.tup ((rowsM [[]] s).map rowD), S) := by
  have loop : ∀ (suf : List Nat) (found : List (List Int)) (a z w1 w2 : Sl), Small found suf → ∃ z' w1' w2', forF (gNm 2) (sAsg (eLc2 (iSeq (bVar 1)) (gNm 3) tYs (iRng (aCons (bVar 2) aNil)) (gNm 4) tYs (eBin D.add (bVar 3) (eTup (aCons (eVar 4) aNil))) [3, 4] [4]) (gNm 1)) (suf.map fun (n : Nat) => D.int (n : Int)) [a, .sh (.lst (found.map rowD)), z, w1, w2] S =
      some (.nx [a, .sh (.lst ((rowsM found suf).map rowD)), z', w1', w2'] S) := by
    intro suf
    induction suf with
    | nil => intro found a z w1 w2 _; exact ⟨z, w1, w2, rfl⟩
    | cons n suf ih =>
      intro found a z w1 w2 hs
      obtain ⟨z', w1', w2', hz⟩ := ih (found.flatMap (rowsStep n)) a (.sh (.int (n : Int))) w1 w2 hs.next
      refine ⟨z', w1', w2', ?_⟩
      have st := rows_step found n a w1 w2 S (hs.1 n List.mem_cons_self) hs.len fun r hr => by have := hs.2.2 r hr; omega
      rw [List.map_cons, forF_step (ρ1 := [a, .sh (.lst (found.map rowD)), .sh (.int (n : Int)), w1, w2]) (S2 := S) rfl (by simp only [sAsg]; rw [st]; rfl)]
      exact hz
  obtain ⟨z', w1', w2', hz⟩ := loop s [[]] (.sh d) .un .un .un h
  have st0 : sAsg (eLst (aCons (eTup aNil) aNil)) (gNm 1) [.sh d, .un, .un, .un, .un] S = some (.nx [.sh d, .sh (.lst ([[]].map rowD)), .un, .un, .un] S) := by
    simp only [fnD, fnE, fnOut, rho0, eVar, bVar, Sl.rd, eC, eBin, eTup, eLst, aNil, aCons, eCB, eCall, tTru, tBl, tAn, DL.tOr, tNo, eAn, DL.eOr, eNo, eIf, eIxR, eSl, pNo, pIs, iSeq, iZp, gNm, gTp, gsNil, gsCons, sNx, sBk, sCt, sSeq, Out.seq, sIf, sAsg, sOwn, sPar, sPar3, sRet, sFz, sPub, sDn, sAug, D.iadd, D.imul, sParDF, sParFF, cellOf, iEn, D.isB, D.notB, sSetR, sSetIx, sMut, sDrop, sFor, eLc, tYs, wipeR, D.elems, D.truth, D.add, D.sub, D.mul, D.fdiv, D.mod, D.pow, D.lt, D.le, D.gt, D.ge, D.isN, D.notN, D.ix, D.cat, liftI, Option.bind_some, Option.bind_none, Option.map_some, Option.map_none, List.map_cons, List.map_nil, List.length_cons, List.length_nil, List.cons_append, List.nil_append, List.replicate, List.set_cons_zero, List.set_cons_succ, List.getElem?_cons_zero, List.getElem?_cons_succ, Nat.reduceAdd, Nat.reduceSub, Nat.reduceLeDiff, if_true, if_false, ↓reduceIte, List.isEmpty_nil, List.isEmpty_cons, Bool.not_true, Bool.not_false, Bool.false_eq_true, decide_true, decide_false, decide_eq_true_eq, sz0, sz1]
    rfl
  unfold F_rows_of b_rows_of
  exact fnD_rt (S' := S) (sSeq_of (S1 := S) st0 (sSeq_of (S1 := S) (sFor_of (S1 := S) (iSeq_of (S1 := S) (d := d) rfl hd) hz) (sRet_of (S1 := S) rfl))) rfl
theorem law_values_s (d : D) (s : List Nat) (S : Sto) (hd : d.elems = some (s.map fun (n : Nat) => D.int (n : Int))) (h : Small [[]] s) : F__law_values [d] S = some (.lst ((rowsM [[]] s).map rowD), S) := by
  have inner : ∀ (n : Nat) (found : List (List Int)), n ≤ 3 → found.length ≤ 1000 → (∀ r ∈ found, r.length ≤ 1000) → ∀ (suf pre : List (List Int)) (a b c z w : Sl), found = pre ++ suf → ∃ z' w', forF (gNm 4) (sAsg (eBin D.add (bVar 3) (eLc (iRng (aCons (bVar 2) aNil)) (gNm 5) tYs (eBin D.add (bVar 4) (eTup (aCons (eVar 5) aNil))) [5])) (gNm 3)) (suf.map rowD) [a, b, .sh (.int (n : Int)), .sh (.lst ((pre.flatMap (rowsStep n)).map rowD)), z, w] S =
      some (.nx [a, b, .sh (.int (n : Int)), .sh (.lst ((found.flatMap (rowsStep n)).map rowD)), z', w'] S) := by
    intro n found hn hf hr suf
    induction suf with
    | nil => intro pre a b c z w e; rw [List.append_nil] at e; subst e; exact ⟨z, w, rfl⟩
    | cons r suf ih =>
      intro pre a b c z w e
      have hrm : r ∈ found := by rw [e]; simp
      obtain ⟨z', w', hz⟩ := ih (pre ++ [r]) a b c (.sh (rowD r)) w (by rw [e, List.append_assoc]; rfl)
      refine ⟨z', w', ?_⟩
      have c1 := compF_all (g := gNm 5) (te := eBin D.add (bVar 4) (eTup (aCons (eVar 5) aNil))) (ρ := [a, b, .sh (.int (n : Int)), .sh (.lst ((pre.flatMap (rowsStep n)).map rowD)), .sh (rowD r), .un]) (S := S) (fun (i : Nat) => D.int (i : Int)) (fun (i : Nat) => rowD (r ++ [(i : Int)])) (List.range n) fun i _ => by
        exact ⟨_, rfl, row_ext2 _ _ _ _ r i S (hr r hrm)⟩
      have e2 : ((pre ++ [r]).flatMap (rowsStep n)).map rowD = (pre.flatMap (rowsStep n)).map rowD ++ (List.range n).map fun (i : Nat) => rowD (r ++ [(i : Int)]) := by
        rw [List.flatMap_append, List.map_append]
        congr 1
        unfold rowsStep
        simp [List.map_map]
      have len : ((pre.flatMap (rowsStep n)).map rowD).length + ((List.range n).map fun (i : Nat) => rowD (r ++ [(i : Int)])).length ≤ PySem.sizeLine := szle (by
        rw [List.length_map, List.length_map, List.length_range]
        have := flat_len (f := rowsStep n) (k := 3) (xs := pre) fun r _ => by unfold rowsStep; simpa using hn
        have : pre.length ≤ found.length := by rw [e]; simp
        omega)
      rw [List.map_cons, forF_step (ρ1 := [a, b, .sh (.int (n : Int)), .sh (.lst ((pre.flatMap (rowsStep n)).map rowD)), .sh (rowD r), w]) (ρ2 := [a, b, .sh (.int (n : Int)), .sh (.lst (((pre ++ [r]).flatMap (rowsStep n)).map rowD)), .sh (rowD r), w]) (S2 := S) rfl (by
        refine sAsg_of (eBin_of (d2 := .lst ((List.range n).map fun (i : Nat) => rowD (r ++ [(i : Int)]))) (S2 := S) rfl (eLc_of (iRng_of (ds := [.int (n : Int)]) rfl (rangeOf_nat (Nat.le_trans hn (by decide)))) c1) (add_lst len)) ?_
        rw [e2]; rfl)]
      exact hz
  have loop : ∀ (suf : List Nat) (found : List (List Int)) (a z w1 w2 w3 : Sl), Small found suf → ∃ z' w1' w2' w3', forF (gNm 2) (sSeq (sAsg (eLst aNil) (gNm 3)) (sSeq (sFor (iSeq (eVar 1)) (gNm 4) (sAsg (eBin D.add (bVar 3) (eLc (iRng (aCons (bVar 2) aNil)) (gNm 5) tYs (eBin D.add (bVar 4) (eTup (aCons (eVar 5) aNil))) [5])) (gNm 3))) (sAsg (eVar 3) (gNm 1)))) (suf.map fun (n : Nat) => D.int (n : Int)) [a, .sh (.lst (found.map rowD)), z, w1, w2, w3] S =
      some (.nx [a, .sh (.lst ((rowsM found suf).map rowD)), z', w1', w2', w3'] S) := by
    intro suf
    induction suf with
    | nil => intro found a z w1 w2 w3 _; exact ⟨z, w1, w2, w3, rfl⟩
    | cons n suf ih =>
      intro found a z w1 w2 w3 hs
      obtain ⟨y1, y2, hy⟩ := inner n found (hs.1 n List.mem_cons_self) hs.len (fun r hr => by have := hs.2.2 r hr; omega) found [] a (.sh (.lst (found.map rowD))) .un w2 w3 rfl
      obtain ⟨z', w1', w2', w3', hz⟩ := ih (found.flatMap (rowsStep n)) a (.sh (.int (n : Int))) (.sh (.lst ((found.flatMap (rowsStep n)).map rowD))) y1 y2 hs.next
      refine ⟨z', w1', w2', w3', ?_⟩
      rw [List.map_cons, forF_step (ρ1 := [a, .sh (.lst (found.map rowD)), .sh (.int (n : Int)), w1, w2, w3]) (ρ2 := [a, .sh (.lst ((found.flatMap (rowsStep n)).map rowD)), .sh (.int (n : Int)), .sh (.lst ((found.flatMap (rowsStep n)).map rowD)), y1, y2]) (S2 := S) rfl (by
        simp only [fnD, fnE, fnOut, rho0, eVar, bVar, Sl.rd, eC, eBin, eTup, eLst, aNil, aCons, eCB, eCall, tTru, tBl, tAn, DL.tOr, tNo, eAn, DL.eOr, eNo, eIf, eIxR, eSl, pNo, pIs, iSeq, iZp, gNm, gTp, gsNil, gsCons, sNx, sBk, sCt, sSeq, Out.seq, sIf, sAsg, sOwn, sPar, sPar3, sRet, sFz, sPub, sDn, sAug, D.iadd, D.imul, sParDF, sParFF, cellOf, iEn, D.isB, D.notB, sSetR, sSetIx, sMut, sDrop, sFor, eLc, tYs, wipeR, D.elems, D.truth, D.add, D.sub, D.mul, D.fdiv, D.mod, D.pow, D.lt, D.le, D.gt, D.ge, D.isN, D.notN, D.ix, D.cat, liftI, Option.bind_some, Option.bind_none, Option.map_some, Option.map_none, List.map_cons, List.map_nil, List.length_cons, List.length_nil, List.cons_append, List.nil_append, List.replicate, List.set_cons_zero, List.set_cons_succ, List.getElem?_cons_zero, List.getElem?_cons_succ, Nat.reduceAdd, Nat.reduceSub, Nat.reduceLeDiff, if_true, if_false, ↓reduceIte, List.isEmpty_nil, List.isEmpty_cons, Bool.not_true, Bool.not_false, Bool.false_eq_true, decide_true, decide_false, decide_eq_true_eq, sz0]
        rw [show ([] : List D) = ((([] : List (List Int)).flatMap (rowsStep n)).map rowD) from rfl, hy]
        simp only [fnD, fnE, fnOut, rho0, eVar, bVar, Sl.rd, eC, eBin, eTup, eLst, aNil, aCons, eCB, eCall, tTru, tBl, tAn, DL.tOr, tNo, eAn, DL.eOr, eNo, eIf, eIxR, eSl, pNo, pIs, iSeq, iZp, gNm, gTp, gsNil, gsCons, sNx, sBk, sCt, sSeq, Out.seq, sIf, sAsg, sOwn, sPar, sPar3, sRet, sFz, sPub, sDn, sAug, D.iadd, D.imul, sParDF, sParFF, cellOf, iEn, D.isB, D.notB, sSetR, sSetIx, sMut, sDrop, sFor, eLc, tYs, wipeR, D.elems, D.truth, D.add, D.sub, D.mul, D.fdiv, D.mod, D.pow, D.lt, D.le, D.gt, D.ge, D.isN, D.notN, D.ix, D.cat, liftI, Option.bind_some, Option.bind_none, Option.map_some, Option.map_none, List.map_cons, List.map_nil, List.length_cons, List.length_nil, List.cons_append, List.nil_append, List.replicate, List.set_cons_zero, List.set_cons_succ, List.getElem?_cons_zero, List.getElem?_cons_succ, Nat.reduceAdd, Nat.reduceSub, Nat.reduceLeDiff, if_true, if_false, ↓reduceIte, List.isEmpty_nil, List.isEmpty_cons, Bool.not_true, Bool.not_false, Bool.false_eq_true, decide_true, decide_false, decide_eq_true_eq])]
      exact hz
  obtain ⟨z', w1', w2', w3', hz⟩ := loop s [[]] (.sh d) .un .un .un .un h
  have e0 : D.tup [] = rowD [] := rfl
  have e1 : ([rowD []] : List D) = [[]].map rowD := rfl
  unfold F__law_values b__law_values
  refine fnD_rt (S' := S) (sSeq_of (ρ' := [.sh d, .sh (.lst ([[]].map rowD)), .un, .un, .un, .un]) (S1 := S) ?_ (sSeq_of (sFor_of (iSeq_of (d := d) rfl hd) hz) rfl)) rfl
  simp only [fnD, fnE, fnOut, rho0, eVar, bVar, Sl.rd, eC, eBin, eTup, eLst, aNil, aCons, eCB, eCall, tTru, tBl, tAn, DL.tOr, tNo, eAn, DL.eOr, eNo, eIf, eIxR, eSl, pNo, pIs, iSeq, iZp, gNm, gTp, gsNil, gsCons, sNx, sBk, sCt, sSeq, Out.seq, sIf, sAsg, sOwn, sPar, sPar3, sRet, sFz, sPub, sDn, sAug, D.iadd, D.imul, sParDF, sParFF, cellOf, iEn, D.isB, D.notB, sSetR, sSetIx, sMut, sDrop, sFor, eLc, tYs, wipeR, D.elems, D.truth, D.add, D.sub, D.mul, D.fdiv, D.mod, D.pow, D.lt, D.le, D.gt, D.ge, D.isN, D.notN, D.ix, D.cat, liftI, Option.bind_some, Option.bind_none, Option.map_some, Option.map_none, List.map_cons, List.map_nil, List.length_cons, List.length_nil, List.cons_append, List.nil_append, List.replicate, List.set_cons_zero, List.set_cons_succ, List.getElem?_cons_zero, List.getElem?_cons_succ, Nat.reduceAdd, Nat.reduceSub, Nat.reduceLeDiff, if_true, if_false, ↓reduceIte, List.isEmpty_nil, List.isEmpty_cons, Bool.not_true, Bool.not_false, Bool.false_eq_true, decide_true, decide_false, decide_eq_true_eq, sz0, sz1]
  rfl
section
theorem sFz_of {i : Nat} {g : Stm} {ρ : Rho} {S : Sto} {xs : List D} {o : Option Out} (h0 : ρ[i]? = some (.ow (.lst xs))) (h : g (ρ.set i (.sh (.lst xs))) S = o) : sFz i g ρ S = o := by
  unfold sFz
  rw [h0]
  exact h
end
end W13

set_option Elab.async false
set_option linter.all false
set_option maxRecDepth 100000
namespace DL
open PySem (NestedKey)
section
end
theorem eqv_ints : ∀ a b : List Int, PySem.PyData.eqvAll (D.toPs (a.map D.int)) (D.toPs (b.map D.int)) = decide (a = b)
  | [], [] => by simp [D.toPs, PySem.PyData.eqvAll]
  | [], _ :: _ => by simp [D.toPs, D.toP, PySem.PyData.eqvAll]
  | _ :: _, [] => by simp [D.toPs, D.toP, PySem.PyData.eqvAll]
  | x :: a, y :: b => by
    rw [List.map_cons, List.map_cons]
    simp only [D.toPs, D.toP, PySem.PyData.eqvAll, eqv_ints a b]
    by_cases c : x = y <;> by_cases d : a = b <;> simp [PySem.PyData.eqv, c, d]
theorem fits_ints (n : Nat) : ∀ a : List Int, D.fits (a.map D.int) n = true
  | [] => rfl
  | x :: a => by
    rw [List.map_cons]
    simp only [D.fits, D.fit, fits_ints n a, Bool.and_self]
theorem eq_row (a b : List Int) : D.eq (rowD a) (rowD b) = some (.bl (decide (a = b))) := by
  have f : ∀ a : List Int, (rowD a).fit 60 = true := fun a => by
    unfold rowD
    simp only [D.fit]
    exact fits_ints _ a
  have e : ((rowD a).fit 60 && (rowD b).fit 60) = true := by rw [f, f]; rfl
  unfold D.eq
  rw [if_pos e]
  congr 2
  unfold D.eqv rowD
  simp only [D.toP, PySem.PyData.eqv, eqv_ints]
end DL
namespace W13
open DL
open L2 (atI atI_nat ixN)
section
variable {κ : Type} [DecidableEq κ] {enc : κ → D} {nkOf : κ → PySem.NestedKey} {W : Int} {l : List (κ × Int)} {i : Nat} {k : κ} {ρ : Rho} {S S1 S2 : Sto}
end
end W13

set_option Elab.async false
set_option linter.all false
set_option maxRecDepth 100000
namespace DL
open PySem (PyData)
open PySem.W (alike alikeAll dataLt keyToksAll dataLt_all_yes dataLt_all_no)
theorem alike_ints : ∀ a b : List Int, alikeAll (D.toPs (a.map D.int)) (D.toPs (b.map D.int)) = true
  | [], [] => by simp [D.toPs, alikeAll]
  | [], _ :: _ => by simp [D.toPs, alikeAll]
  | _ :: _, [] => by simp [D.toPs, alikeAll]
  | x :: a, y :: b => by
    rw [List.map_cons, List.map_cons]
    simp only [D.toPs, D.toP, alikeAll, alike, alike_ints a b, Bool.and_self]
theorem alike_row (a b : List Int) : alike (rowD a).toP (rowD b).toP = true := by
  unfold rowD
  simp only [D.toP, alike, alike_ints]
theorem fit_row (n : Nat) (hn : 0 < n) (a : List Int) : (rowD a).fit n = true := by
  obtain ⟨m, rfl⟩ : ∃ m, n = m + 1 := ⟨n - 1, by omega⟩
  unfold rowD
  simp only [D.fit, fits_ints]
theorem eqv_row (a b : List Int) : PyData.eqv (rowD a).toP (rowD b).toP = decide (a = b) := by
  unfold rowD
  simp only [D.toP, PyData.eqv, eqv_ints]
theorem le_same (d : D) (h : alike d.toP d.toP = true) : D.le' d d = true := by
  unfold D.le' dataLt
  rw [PyProof.Rows.lex_irrefl]; rfl
end DL
namespace W13
open DL
open L2 (atI atI_nat ixN)
section
end
end W13

set_option Elab.async false
set_option linter.all false
set_option maxRecDepth 100000
namespace W13
open DL
open L2 (atI atI_nat ixN)
theorem isi_int (i : Int) : gIsi [.int i, .ty "int"] = some (.bl true) := by
  unfold gIsi D.isA
  have : L2.kitB "int" "int" = some true := by decide +kernel
  simp only [this, Option.map_some]
theorem isi_bool (i : Int) : gIsi [.int i, .ty "bool"] = some (.bl false) := by
  unfold gIsi D.isA
  have : L2.kitB "int" "bool" = some false := by decide +kernel
  simp only [this, Option.map_some]
theorem isi_tup (xs : List D) : gIsi [.tup xs, .ty "tuple"] = some (.bl true) := by
  unfold gIsi D.isA
  have : L2.kitB "tuple" "tuple" = some true := by decide +kernel
  simp only [this, Option.map_some]
section
variable {ρ ρ1 : Rho} {S S1 S2 S3 : Sto} {f f1 f2 f3 : Ex} {t1 t2 : Tx} {d d1 d2 d3 : D}
theorem eAn_t {o : Option (D × Sto)} (h1 : f1 ρ S = some (.bl true, S1)) (h2 : f2 ρ S1 = o) : eAn f1 f2 ρ S = o := by
  unfold eAn
  rw [h1, Option.bind_some]
  exact h2
theorem eNo_of {b : Bool} (h1 : f ρ S = some (.bl b, S1)) : eNo f ρ S = some (.bl (!b), S1) := by
  unfold eNo
  rw [h1, Option.bind_some]
  rfl
theorem tNo_of {b : Bool} (h1 : t1 ρ S = some (b, S1)) : tNo t1 ρ S = some (!b, S1) := by
  unfold tNo
  rw [h1]
  rfl
theorem tOr_f {o : Option (Bool × Sto)} (h1 : t1 ρ S = some (false, S1)) (h2 : t2 ρ S1 = o) : DL.tOr t1 t2 ρ S = o := by
  unfold DL.tOr
  rw [h1, Option.bind_some, if_neg Bool.false_ne_true]
  exact h2
theorem tOr_t (h1 : t1 ρ S = some (true, S1)) : DL.tOr t1 t2 ρ S = some (true, S1) := by
  unfold DL.tOr
  rw [h1, Option.bind_some, if_pos rfl]
theorem chain_of {g g' : D → D → Option D} (h1 : f1 ρ S = some (d1, S1)) (h2 : f2 ρ S1 = some (d2, S2)) (h3 : g d1 d2 = some (.bl true)) (h4 : f3 ρ S2 = some (d3, S3)) (h5 : g' d2 d3 = some d) : eChain g g' f1 f2 f3 ρ S = some (d, S3) := by
  unfold eChain
  rw [h1, Option.bind_some, h2, Option.bind_some, h3, Option.bind_some]
  show (f3 ρ S2).bind _ = _
  rw [h4, Option.bind_some, h5]
  rfl
theorem isi_of {n : String} {b : Bool} (h1 : f ρ S = some (d, S1)) (h2 : gIsi [d, .ty n] = some (.bl b)) : eCB gIsi (aCons f (aCons (eC (.ty n)) aNil)) ρ S = some (.bl b, S1) := eCB_of (aCons_of h1 rfl) h2
theorem tru_bl {b : Bool} (h1 : f ρ S = some (.bl b, S1)) : tTru f ρ S = some (b, S1) := tTru_of h1 rfl
theorem all_true {α : Type} {it : Ars} {g : Tg} {te : Ex} {w : List Nat} (enc : α → D) (xs : List α) (hit : it ρ S = some (xs.map enc, S)) (h : ∀ x ∈ xs, ∃ ρ2, g (enc x) (wipeR ρ w) = some ρ2 ∧ te ρ2 S = some (.bl true, S)) : eCB gAll (aCons (eLc it g tYs te w) aNil) ρ S = some (.bl true, S) := by
  have c := compF_all (g := g) (te := te) (ρ := wipeR ρ w) (S := S) enc (fun _ => D.bl true) xs h
  refine eCB_of (aCons_of (eLc_of hit c) rfl) ?_
  have b := boolsOf_map (xs.map fun _ => true)
  rw [List.map_map] at b
  show (boolsOf (xs.map fun _ => D.bl true)).map _ = _
  have b' : boolsOf (xs.map fun _ => D.bl true) = some (xs.map fun _ => true) := b
  rw [b', Option.map_some]
  congr 2
  simp
theorem is_integer_s (i : Int) (S : Sto) : F_is_integer [.int i] S = some (.bl true, S) := by
  unfold F_is_integer b_is_integer
  exact fnD_rt (S' := S) (sRet_of (eAn_t (isi_of (S1 := S) (d := .int i) rfl (isi_int i)) (eNo_of (isi_of (S1 := S) (d := .int i) rfl (isi_bool i))))) rfl
theorem int_of {i : Int} (h : f ρ S = some (.int i, S)) : eCall F_is_integer (aCons f aNil) ρ S = some (.bl true, S) := eCall_of (S1 := S) (aCons_of h rfl) (is_integer_s i S)
theorem le_of (i j : Int) (h : i ≤ j) : D.le (.int i) (.int j) = some (.bl true) := by
  show some (D.bl (decide (i ≤ j))) = _
  rw [decide_eq_true h]
theorem lt_of (i j : Int) (h : i < j) : D.lt (.int i) (.int j) = some (.bl true) := by
  show some (D.bl (decide (i < j))) = _
  rw [decide_eq_true h]
theorem ne_same (i : Int) : D.ne (.int i) (.int i) = some (.bl false) := by rw [ne_int]; simp
theorem eq_same (i : Int) : D.eq (.int i) (.int i) = some (.bl true) := by rw [eq_int]; simp
end
theorem len_tup (xs : List D) : gLen [.tup xs] = some (.int (xs.length : Int)) := rfl
theorem slice1 (ps : List D) : D.slice (.tup ps) (some 1) none = some (.tup (ps.drop 1)) := by
  have e : HT.sIx ps.length 0 (some 1) = min 1 ps.length := HT.sIx_nat ps.length 0 1
  show some (D.tup (cutD ps (some 1) none)) = _
  unfold cutD
  rw [e]
  show some (D.tup ((ps.drop (min 1 ps.length)).take (ps.length - min 1 ps.length))) = _
  cases ps with
  | nil => rfl
  | cons x ps =>
    rw [show min 1 (x :: ps).length = 1 by simp, show (x :: ps).drop 1 = ps from rfl, List.take_of_length_le (by simp)]
end W13

set_option Elab.async false
set_option linter.all false
set_option maxRecDepth 100000
namespace DL
open L2 (atI atI_nat)
/-! ## functions: the model -/
def RowOk (s : List Nat) (row : List Int) : Prop := ∀ j, j < row.length → 0 ≤ row.getD j 0 ∧ row.getD j 0 < (s.getD j 0 : Nat)
theorem RowOk.snoc {s : List Nat} {row : List Int} {x : Int} (hr : RowOk s row) (hx : 0 ≤ x ∧ x < (s.getD row.length 0 : Nat)) : RowOk s (row ++ [x]) := fun j hj => by
  rw [List.length_append, List.length_singleton] at hj
  by_cases c : j < row.length
  · have := hr j c
    rw [List.getD_eq_getElem?_getD, List.getElem?_append_left c, ← List.getD_eq_getElem?_getD]
    exact this
  · have : j = row.length := by omega
    subst this
    rw [List.getD_eq_getElem?_getD, List.getElem?_append_right (Nat.le_refl _), Nat.sub_self]
    exact hx
def fnd (kvs : List (L2.Key × D)) (k : L2.Key) : Option D := (kvs.find? fun kv => decide (kv.1 = k)).map (·.2)
end DL

set_option Elab.async false
set_option linter.all false
set_option maxRecDepth 100000
namespace DL
open L2 (atI atI_nat)
/-! ## lots: the model -/
theorem RowOk.nil (s : List Nat) : RowOk s [] := fun j hj => absurd hj (Nat.not_lt_zero _)
theorem rowsM_row : ∀ {s pre : List Nat} {found : List (List Int)}, (∀ r ∈ found, r.length = pre.length ∧ RowOk (pre ++ s) r) → ∀ r ∈ rowsM found s, r.length = pre.length + s.length ∧ RowOk (pre ++ s) r
  | [], pre, found, h, r, hr => h r hr
  | n :: s, pre, found, h, r, hr => by
    have := rowsM_row (s := s) (pre := pre ++ [n]) (found := found.flatMap (rowsStep n)) (fun r hr => by
      obtain ⟨r', hr', hx⟩ := List.mem_flatMap.mp hr
      unfold rowsStep at hx
      obtain ⟨x, hxr, rfl⟩ := List.mem_map.mp hx
      obtain ⟨h1, h2⟩ := h r' hr'
      rw [List.append_assoc]
      refine ⟨by rw [List.length_append, List.length_append, h1]; rfl, h2.snoc ⟨by omega, ?_⟩⟩
      rw [h1, List.getD_eq_getElem?_getD, List.getElem?_append_right (Nat.le_refl _), Nat.sub_self]
      have := List.mem_range.mp hxr
      show (x : Int) < (n : Nat)
      omega) r hr
    rw [List.append_assoc] at this
    refine ⟨by rw [this.1, List.length_append, List.length_cons, List.length_cons, List.length_nil]; omega, this.2⟩
theorem rows_row {s : List Nat} {r : List Int} (hr : r ∈ rowsM [[]] s) : r.length = s.length ∧ RowOk s r := by
  have := rowsM_row (s := s) (pre := []) (found := [[]]) (fun r hr => by rw [List.mem_singleton.mp hr]; exact ⟨rfl, .nil _⟩) r hr
  simpa using this
section
end
end DL

set_option Elab.async false
set_option linter.all false
set_option maxRecDepth 100000
namespace W13
open DL
/-! ## deeds in order -/
theorem rows_mem_of : ∀ {s : List Nat} {F : List (List Int)} {r t : List Int}, r ∈ F → t.length = s.length → RowOk s t → r ++ t ∈ rowsM F s
  | [], F, r, [], hr, _, _ => by rw [List.append_nil]; exact hr
  | n :: s, F, r, x :: t, hr, hl, ok => by
    show r ++ x :: t ∈ rowsM (F.flatMap (rowsStep n)) s
    have h0 := ok 0 (by rw [List.length_cons]; omega)
    have h0' : 0 ≤ x ∧ x < (n : Int) := h0
    have hx : r ++ [x] ∈ F.flatMap (rowsStep n) := by
      refine List.mem_flatMap.mpr ⟨r, hr, ?_⟩
      unfold rowsStep
      refine List.mem_map.mpr ⟨x.toNat, List.mem_range.mpr (by omega), ?_⟩
      rw [Int.toNat_of_nonneg h0'.1]
    have := rows_mem_of (s := s) (t := t) hx (by simpa using hl) fun j hj => ok (j + 1) (by rw [List.length_cons]; omega)
    rw [List.append_assoc] at this
    exact this
theorem rows_mem {s : List Nat} {row : List Int} : row ∈ rowsM [[]] s ↔ row.length = s.length ∧ RowOk s row := ⟨rows_row, fun h => rows_mem_of (r := []) (.head _) h.1 h.2⟩
/-! ### choices -/
end W13

set_option Elab.async false
set_option linter.all false
set_option maxRecDepth 100000
namespace W13
open DL
open L2 (atI atI_nat ixN)
section
theorem tAn_of {f1 f2 : Ex} {ρ : Rho} {S : Sto} {a b : Bool} (h1 : tBl f1 ρ S = some (a, S)) (h2 : tBl f2 ρ S = some (b, S)) : tAn (tBl f1) (tBl f2) ρ S = some (a && b, S) := by
  unfold tAn
  rw [h1, Option.bind_some]
  cases a with
  | true => rw [if_pos rfl, h2]; rfl
  | false => rw [if_neg Bool.false_ne_true]; rfl
end
end W13

set_option Elab.async false
set_option linter.all false
set_option maxRecDepth 100000
namespace DL
end DL
namespace W13
open DL
open L2 (atI atI_nat ixN)
section
theorem sAug_of {g : D → D → Option D} {i : Nat} {f : Ex} {ρ : Rho} {S S1 : Sto} {d1 d2 d : D} (h0 : ρ[i]? = some (.sh d1)) (h1 : f ρ S = some (d2, S1)) (h2 : g d1 d2 = some d) : sAug g i f ρ S = some (.nx (ρ.set i (.sh d)) S1) := by
  unfold sAug
  rw [h0]
  show (f ρ S).bind _ = _
  rw [h1, Option.bind_some, h2]
  rfl
end
end W13

set_option Elab.async false
set_option linter.all false
set_option maxRecDepth 100000
namespace W13
open DL
open L2 (atI atI_nat ixN)
/-- a comprehension whose condition draws -/
theorem compF_ft {α : Type} {g : Tg} {tt : Tx} {te : Ex} {ρ : Rho} (enc R : α → D) (h : ∀ x m S, m ≤ 40000 → Good m S → ∃ ρ2 b S', g (enc x) ρ = some ρ2 ∧ tt ρ2 S = some (b, S') ∧ te ρ2 S' = some (R x, S') ∧ Good (m + 1) S') :
    ∀ (xs : List α) (m : Nat) (S : Sto), Good m S → m + xs.length ≤ 40000 → ∃ (ys : List α) (S' : Sto), compF g tt te ρ (xs.map enc) S = some (ys.map R, S') ∧ Good (m + xs.length) S' ∧ ys.Sublist xs
  | [], m, S, hS, _ => ⟨[], S, rfl, hS, .slnil⟩
  | x :: xs, m, S, hS, hm => by
    rw [List.length_cons] at hm
    obtain ⟨ρ2, b, S1, e1, e2, e3, g1⟩ := h x m S (by omega) hS
    obtain ⟨ys, S2, e4, g2, sl⟩ := compF_ft enc R h xs (m + 1) S1 g1 (by omega)
    have gg : Good (m + (x :: xs).length) S2 := by rw [List.length_cons, show m + (xs.length + 1) = m + 1 + xs.length by omega]; exact g2
    cases b with
    | true =>
      refine ⟨x :: ys, S2, ?_, gg, sl.cons_cons x⟩
      rw [List.map_cons]
      unfold compF
      rw [e1, Option.bind_some, e2, Option.bind_some, if_pos rfl, e3, Option.bind_some, e4]
      rfl
    | false =>
      refine ⟨ys, S2, ?_, gg, sl.cons x⟩
      rw [List.map_cons]
      unfold compF
      rw [e1, Option.bind_some, e2, Option.bind_some, if_neg Bool.false_ne_true, e4]
theorem sPar_of {i j : Nat} {fs : Ars} {ρ : Rho} {S S1 : Sto} {x y : D} (h : fs ρ S = some ([x, y], S1)) : sPar i j fs ρ S = some (.nx ((ρ.set i (.sh x)).set j (.sh y)) S1) := by
  unfold sPar
  rw [h, Option.bind_some]
theorem intsOf_row (r : List Int) : intsOf (r.map D.int) = some r := intsOf_map r
theorem tAn_f {t1 t2 : Tx} {ρ : Rho} {S S1 : Sto} (h1 : t1 ρ S = some (false, S1)) : tAn t1 t2 ρ S = some (false, S1) := by
  unfold tAn
  rw [h1, Option.bind_some, if_neg Bool.false_ne_true]
theorem tAn_t {t1 t2 : Tx} {ρ : Rho} {S S1 : Sto} {o : Option (Bool × Sto)} (h1 : t1 ρ S = some (true, S1)) (h2 : t2 ρ S1 = o) : tAn t1 t2 ρ S = o := by
  unfold tAn
  rw [h1, Option.bind_some, if_pos rfl]
  exact h2
end W13

set_option Elab.async false
set_option linter.all false
set_option maxRecDepth 100000
namespace W13
open DL
open L2 (atI atI_nat ixN)
section
variable {ρ ρ1 : Rho} {S S1 S2 S3 : Sto} {f f1 f2 f3 : Ex} {t1 t2 : Tx}
theorem eAn_f (h1 : f1 ρ S = some (.bl false, S1)) : eAn f1 f2 ρ S = some (.bl false, S1) := by
  unfold eAn
  rw [h1, Option.bind_some]
  rfl
theorem eAn_bl {a b : Bool} (h1 : f1 ρ S = some (.bl a, S)) (h2 : a = true → f2 ρ S = some (.bl b, S)) : eAn f1 f2 ρ S = some (.bl (a && b), S) := by
  cases a with
  | true => exact eAn_t h1 (h2 rfl)
  | false => exact eAn_f h1
end
end W13

set_option Elab.async false
set_option linter.all false
set_option maxRecDepth 100000
namespace W13
open DL
open L2 (atI atI_nat ixN)
section
variable {s : List Nat} {own : List Ru}
theorem any_s {α : Type} {ρ : Rho} {S : Sto} {it : Ars} {g : Tg} {te : Ex} {w : List Nat} (enc : α → D) (p : α → Bool) (xs : List α) (hit : it ρ S = some (xs.map enc, S)) (h : ∀ x ∈ xs, ∃ ρ2, g (enc x) (wipeR ρ w) = some ρ2 ∧ te ρ2 S = some (.bl (p x), S)) : eCB gAny (aCons (eLc it g tYs te w) aNil) ρ S = some (.bl (xs.any p), S) := by
  have c := compF_all (g := g) (te := te) (ρ := wipeR ρ w) (S := S) enc (fun x => D.bl (p x)) xs h
  refine eCB_of (aCons_of (eLc_of hit c) rfl) ?_
  have b := boolsOf_map (xs.map p)
  rw [List.map_map] at b
  show (boolsOf (xs.map fun x => D.bl (p x))).map _ = _
  have b' : boolsOf (xs.map fun x => D.bl (p x)) = some (xs.map p) := b
  rw [b', Option.map_some, List.any_map]
  rfl
theorem rng_zip {α : Type} (l : List α) : (List.range l.length).map (fun (i : Nat) => D.int (i : Int)) = l.zipIdx.map fun q => D.int (q.2 : Int) := by
  refine List.ext_getElem? fun i => ?_
  rw [List.getElem?_map, List.getElem?_map, List.getElem?_zipIdx]
  by_cases c : i < l.length
  · rw [List.getElem?_range c, List.getElem?_eq_getElem c]; simp
  · rw [List.getElem?_eq_none (by simpa using c), List.getElem?_eq_none (by omega)]; rfl
end
end W13

set_option Elab.async false
set_option linter.all false
set_option maxRecDepth 100000
namespace W13
open DL
open L2 (atI atI_nat ixN)
theorem forF_ct {g : Tg} {b : Stm} {x : D} {xs : List D} {ρ ρ1 ρ2 : Rho} {S S2 : Sto} (h1 : g x ρ = some ρ1) (h2 : b ρ1 S = some (.ct ρ2 S2)) : forF g b (x :: xs) ρ S = forF g b xs ρ2 S2 := by
  show ((g x ρ).bind fun ρ1 => (b ρ1 S).bind fun o => o.turn (forF g b xs)) = _
  rw [h1, Option.bind_some, h2, Option.bind_some]
  rfl
theorem sSeq_ct {a b : Stm} {ρ ρ' : Rho} {S S1 : Sto} (h1 : a ρ S = some (.ct ρ' S1)) : sSeq a b ρ S = some (.ct ρ' S1) := by
  unfold sSeq
  rw [h1, Option.bind_some]
  rfl
/-- the first of a list that fits -/
theorem find_for {α τ : Type} {g : Tg} {b : Stm} {S : Sto} (enc : α → D) (p : α → Bool) (ret : α → D) (R : τ → Rho) : ∀ (xs : List α) (t : τ),
    (∀ x ∈ xs, ∀ t, ∃ ρ1, g (enc x) (R t) = some ρ1 ∧ (p x = true → b ρ1 S = some (.rt (ret x) S)) ∧ (p x = false → ∃ t', b ρ1 S = some (.nx (R t') S))) →
    (∀ x, xs.find? p = some x → forF g b (xs.map enc) (R t) S = some (.rt (ret x) S)) ∧ (xs.find? p = none → ∃ t', forF g b (xs.map enc) (R t) S = some (.nx (R t') S))
  | [], t, _ => ⟨fun x h => by simp at h, fun _ => ⟨t, rfl⟩⟩
  | y :: ys, t, h => by
    obtain ⟨ρ1, e1, e2, e3⟩ := h y (.head _) t
    rw [List.find?_cons, List.map_cons]
    cases c : p y with
    | true =>
      refine ⟨fun x hx => ?_, fun hx => by simp at hx⟩
      have : y = x := by simpa using hx
      rw [← this]
      exact forF_ret e1 (e2 c)
    | false =>
      obtain ⟨t', e4⟩ := e3 c
      have ih := find_for enc p ret R ys t' fun x hx => h x (.tail _ hx)
      rw [forF_step e1 e4]
      exact ih
/-! ### choices -/
end W13

set_option Elab.async false
set_option linter.all false
set_option maxRecDepth 100000
namespace W13
open DL
open L2 (atI atI_nat ixN)
theorem chain_ll {ρ : Rho} {S : Sto} {f1 f2 f3 : Ex} {i j k : Int} (h1 : f1 ρ S = some (.int i, S)) (h2 : f2 ρ S = some (.int j, S)) (h3 : i ≤ j → f3 ρ S = some (.int k, S)) : eChain D.le D.lt f1 f2 f3 ρ S = some (.bl (decide (i ≤ j) && decide (j < k)), S) := by
  by_cases c : i ≤ j
  · rw [decide_eq_true c, Bool.true_and]
    exact chain_of h1 h2 (le_of _ _ c) (h3 c) rfl
  · rw [decide_eq_false c, Bool.false_and]
    unfold eChain
    rw [h1, Option.bind_some, h2, Option.bind_some]
    have : D.le (.int i) (.int j) = some (.bl false) := by
      show some (D.bl (decide (i ≤ j))) = _
      rw [decide_eq_false c]
    rw [this, Option.bind_some]
theorem all_b {α : Type} {ρ : Rho} {S : Sto} {it : Ars} {g : Tg} {te : Ex} {w : List Nat} (enc : α → D) (p : α → Bool) (xs : List α) (hit : it ρ S = some (xs.map enc, S)) (h : ∀ x ∈ xs, ∃ ρ2, g (enc x) (wipeR ρ w) = some ρ2 ∧ te ρ2 S = some (.bl (p x), S)) : eCB gAll (aCons (eLc it g tYs te w) aNil) ρ S = some (.bl (xs.all p), S) := by
  have c := compF_all (g := g) (te := te) (ρ := wipeR ρ w) (S := S) enc (fun x => D.bl (p x)) xs h
  refine eCB_of (aCons_of (eLc_of hit c) rfl) ?_
  have b := boolsOf_map (xs.map p)
  rw [List.map_map] at b
  show (boolsOf (xs.map fun x => D.bl (p x))).map _ = _
  have b' : boolsOf (xs.map fun x => D.bl (p x)) = some (xs.map p) := b
  rw [b', Option.map_some, List.all_map]
  rfl
end W13

set_option Elab.async false
set_option linter.all false
set_option maxRecDepth 100000
namespace DL
open PySem (PyData)
/-- data that repr shows, of weight at most w, of depth at most n -/
structure Shw (d : D) (w n : Nat) : Prop where
  fit : ∀ m, n ≤ m → d.fit m = true
  sh : d.toP.showable = true
  nd : d.toP.hasDict = false
  lv : d.toP.leavesShort 13 = true
  wt : d.toP.weight ≤ w
theorem Shw.mono {d : D} {w w' n n' : Nat} (h : Shw d w n) (hw : w ≤ w') (hn : n ≤ n') : Shw d w' n' := ⟨fun m hm => h.fit m (by omega), h.sh, h.nd, h.lv, Nat.le_trans h.wt hw⟩
theorem shw_non : Shw .non 0 1 := ⟨fun m hm => by simp [D.fit], by simp [D.toP, PyData.showable], by simp [D.toP, PyData.hasDict], by simp [D.toP, PyData.leavesShort], by simp [D.toP, PyData.weight]⟩
theorem shw_int {i : Int} {k : Nat} (hk : k ≤ 30) (h0 : 0 < k) (h : i.natAbs < 2 ^ k) : Shw (.int i) k 1 := by
  have hl : i.natAbs.log2 < k := log_lt h0 h
  have h30 : i.natAbs < 2 ^ 30 := bd_mono h hk
  refine ⟨fun m hm => by simp [D.fit], ?_, by simp [D.toP, PyData.hasDict], ?_, ?_⟩
  · simp only [D.toP, PyData.showable, decide_eq_true_eq]; omega
  · simp only [D.toP, PyData.leavesShort, decide_eq_true_eq]
    exact PyData.shown_int_le (by omega)
  · simp only [D.toP, PyData.weight]
    split <;> omega
theorem shwAll {w n : Nat} : ∀ {xs : List D}, (∀ x ∈ xs, Shw x w n) → (∀ m, n ≤ m → D.fits xs m = true) ∧ PyData.showableAll (D.toPs xs) = true ∧ PyData.hasDictAll (D.toPs xs) = false ∧ PyData.leavesShortAll 13 (D.toPs xs) = true ∧ PyData.weightAll (D.toPs xs) ≤ xs.length * (w + 1)
  | [], _ => ⟨fun m _ => by simp [D.fits], by simp [D.toPs, PyData.showableAll], by simp [D.toPs, PyData.hasDictAll], by simp [D.toPs, PyData.leavesShortAll], by simp [D.toPs, PyData.weightAll]⟩
  | x :: xs, h => by
    have h0 := h x (.head _)
    obtain ⟨h1, h2, h3, h4, h5⟩ := shwAll (xs := xs) fun y hy => h y (.tail _ hy)
    refine ⟨fun m hm => ?_, ?_, ?_, ?_, ?_⟩
    · simp only [D.fits, h0.fit m hm, h1 m hm, Bool.and_self]
    · simp only [D.toPs, PyData.showableAll, h0.sh, h2, Bool.and_self]
    · simp only [D.toPs, PyData.hasDictAll, h0.nd, h3, Bool.or_self]
    · simp only [D.toPs, PyData.leavesShortAll, h0.lv, h4, Bool.and_self]
    · simp only [D.toPs, PyData.weightAll]
      have := h0.wt
      rw [List.length_cons, Nat.succ_mul]
      omega
theorem shw_tup {w n : Nat} {xs : List D} (h : ∀ x ∈ xs, Shw x w n) : Shw (.tup xs) (xs.length * (w + 1)) (n + 1) := by
  obtain ⟨h1, h2, h3, h4, h5⟩ := shwAll h
  refine ⟨fun m hm => ?_, by simpa [D.toP, PyData.showable] using h2, by simpa [D.toP, PyData.hasDict] using h3, by simpa [D.toP, PyData.leavesShort] using h4, by simpa [D.toP, PyData.weight] using h5⟩
  obtain ⟨k, rfl⟩ : ∃ k, m = k + 1 := ⟨m - 1, by omega⟩
  simp only [D.fit]
  exact h1 k (by omega)
theorem shw_lst {w n : Nat} {xs : List D} (h : ∀ x ∈ xs, Shw x w n) : Shw (.lst xs) (xs.length * (w + 1)) (n + 1) := by
  obtain ⟨h1, h2, h3, h4, h5⟩ := shwAll h
  refine ⟨fun m hm => ?_, by simpa [D.toP, PyData.showable] using h2, by simpa [D.toP, PyData.hasDict] using h3, by simpa [D.toP, PyData.leavesShort] using h4, by simpa [D.toP, PyData.weight] using h5⟩
  obtain ⟨k, rfl⟩ : ∃ k, m = k + 1 := ⟨m - 1, by omega⟩
  simp only [D.fit]
  exact h1 k (by omega)
theorem shw_tupN {w n k : Nat} {xs : List D} (h : ∀ x ∈ xs, Shw x w n) (hk : xs.length ≤ k) : Shw (.tup xs) (k * (w + 1)) (n + 1) := (shw_tup h).mono (Nat.mul_le_mul_right _ hk) (Nat.le_refl _)
theorem shw_row {r : List Int} {b k : Nat} (hb : b ≤ 30) (h0 : 0 < b) (h : ∀ x ∈ r, x.natAbs < 2 ^ b) (hk : r.length ≤ k) : Shw (rowD r) (k * (b + 1)) 2 := shw_tupN (fun x hx => by
  obtain ⟨i, hi, rfl⟩ := List.mem_map.mp hx
  exact shw_int hb h0 (h i hi)) (by rw [List.length_map]; exact hk)
theorem repr_of {d : D} {w n : Nat} (h : Shw d w n) (hn : n ≤ 60) (hw : w ≤ 2 ^ 20) : gRepr [d] = some (.str d.toP.shown) := by
  have hs : d.toP.shown.length ≤ PySem.sizeLine := PyData.shown_fits (B := 13) (by decide) (by decide) h.lv (Nat.le_trans h.wt hw)
  have c : (d.fit 60 && d.toP.showable && !d.toP.hasDict && decide (d.toP.shown.length ≤ PySem.sizeLine)) = true := by
    rw [h.fit 60 hn, h.sh, h.nd, decide_eq_true hs]; rfl
  show (if _ then _ else _) = _
  rw [if_pos c]
theorem eq_str (x : PySem.Str) : D.eq (.str x) (.str x) = some (.bl true) := by
  have e : ((D.str x).fit 60 && (D.str x).fit 60) = true := by simp [D.fit]
  unfold D.eq
  rw [if_pos e]
  simp [D.eqv, D.toP, PyData.eqv]
end DL
namespace W13
open DL
open L2 (atI atI_nat ixN)
theorem alike_s {d : D} {w n : Nat} (h : Shw d w n) (hn : n ≤ 60) (hw : w ≤ 2 ^ 20) (S : Sto) : F__law_alike [d, d] S = some (.bl true, S) := by
  have r := repr_of h hn hw
  unfold F__law_alike b__law_alike
  exact fnD_rt (S' := S) (sRet_of (eBin_of (S1 := S) (S2 := S) (eCB_of (ds := [d]) (S1 := S) rfl r) (eCB_of (ds := [d]) (S1 := S) rfl r) (eq_str _))) rfl
section
end
def natsD (l : List Nat) : D := .lst (l.map fun (v : Nat) => D.int (v : Int))
theorem sPub_of {i : Nat} {g : Stm} {ρ : Rho} {S : Sto} {c : Cell} {o : Option Out} (h0 : ρ[i]? = some (.ow c)) (h : g (ρ.set i (.sh (.ref S.length))) (S ++ [c]) = o) : sPub i g ρ S = o := by
  unfold sPub
  rw [h0]
  exact h
theorem eLst_nil {ρ : Rho} {S : Sto} : eLst aNil ρ S = some (.lst [], S) := by
  show (if (0 : Nat) ≤ PySem.sizeLine then some (D.lst [], S) else none) = _
  rw [if_pos (Nat.zero_le _)]
theorem eLst_of {fs : Ars} {ρ : Rho} {S S1 : Sto} {ds : List D} (h1 : fs ρ S = some (ds, S1)) (h2 : ds.length ≤ PySem.sizeLine) : eLst fs ρ S = some (.lst ds, S1) := by
  unfold eLst
  rw [h1, Option.bind_some, if_pos h2]
theorem alike_not {f g : Ex} {ρ : Rho} {S S1 S2 : Sto} {d : D} {w n : Nat} (h1 : f ρ S = some (d, S1)) (h2 : g ρ S1 = some (d, S2)) (h : Shw d w n) (hn : n ≤ 60) (hw : w ≤ 2 ^ 20) : tNo (tTru (eCall F__law_alike (aCons f (aCons g aNil)))) ρ S = some (false, S2) :=
  tNo_of (tru_bl (eCall_of (aCons_of h1 (aCons_of h2 rfl)) (alike_s h hn hw S2)))
theorem cond_f {c : Tx} {a : Stm} {ρ : Rho} {S S1 : Sto} (h : c ρ S = some (false, S1)) : sIf c a sNx ρ S = some (.nx ρ S1) := sIf_f h rfl
end W13

set_option Elab.async false
set_option linter.all false
set_option maxRecDepth 100000
namespace DL
open PySem (PyData Str)
/-! ## what repr shows is told apart -/
def names : List Str := ["holds", "fails", ""]
mutual
/-- data that papers are made of -/
def D.pd : D → Bool
  | .non => true
  | .bl _ => true
  | .int i => decide (-1 ≤ i) && decide (i ≤ 9)
  | .str x => decide (x ∈ names)
  | .tup xs => D.pds xs
  | .lst xs => D.pds xs
  | _ => false
def D.pds : List D → Bool
  | [] => true
  | x :: xs => x.pd && D.pds xs
end
def shC (d : D) : List Nat := d.toP.shown.cps.toList
def atomsD : List D := [.non, .bl true, .bl false, .int (-1), .int 0, .int 1, .int 2, .int 3, .int 4, .int 5, .int 6, .int 7, .int 8, .int 9, .str "holds", .str "fails", .str ""]
def atomsT : List (List Nat) := [[78, 111, 110, 101], [84, 114, 117, 101], [70, 97, 108, 115, 101], [45, 49], [48], [49], [50], [51], [52], [53], [54], [55], [56], [57], [39, 104, 111, 108, 100, 115, 39], [39, 102, 97, 105, 108, 115, 39], [39, 39]]
theorem atoms_sh : atomsD.map shC = atomsT := by decide +kernel
def apart (a b : List Nat) : Bool := (a.zip b).any fun p => decide (p.1 ≠ p.2)
theorem apart_ne : ∀ {a b u v : List Nat}, apart a b = true → a ++ u ≠ b ++ v
  | [], b, u, v, h => by simp [apart] at h
  | x :: a, [], u, v, h => by simp [apart] at h
  | x :: a, y :: b, u, v, h => fun e => by
    rw [List.cons_append, List.cons_append] at e
    obtain ⟨e1, e2⟩ := List.cons.inj e
    have h' : (decide (x ≠ y) || apart a b) = true := h
    rw [e1, decide_eq_false (fun z => z rfl), Bool.false_or] at h'
    exact apart_ne h' e2
theorem atoms_apart : (atomsT.zipIdx.all fun p => atomsT.zipIdx.all fun q => decide (p.2 = q.2) || apart p.1 q.1) = true := by decide +kernel
theorem atoms_head : (atomsT.all fun t => match t with | [] => false | c :: _ => decide (c ≠ 40 ∧ c ≠ 41 ∧ c ≠ 91 ∧ c ≠ 93 ∧ c ≠ 44)) = true := by decide +kernel
theorem pds_mem : ∀ {xs : List D}, D.pds xs = true → ∀ x ∈ xs, x.pd = true
  | [], _, x, hx => nomatch hx
  | y :: ys, h, x, hx => by
    simp only [D.pds, Bool.and_eq_true] at h
    rcases List.mem_cons.mp hx with e | hx
    · rw [e]; exact h.1
    · exact pds_mem h.2 x hx
theorem pds_of : ∀ {xs : List D}, (∀ x ∈ xs, x.pd = true) → D.pds xs = true
  | [], _ => by simp [D.pds]
  | y :: ys, h => by
    simp only [D.pds, Bool.and_eq_true]
    exact ⟨h y (.head _), pds_of fun x hx => h x (.tail _ hx)⟩
theorem pd_cases {d : D} (h : d.pd = true) : (∃ (i : Nat) (t : List Nat), atomsD[i]? = some d ∧ atomsT[i]? = some t ∧ shC d = t) ∨ (∃ xs, d = .tup xs ∧ D.pds xs = true) ∨ ∃ xs, d = .lst xs ∧ D.pds xs = true := by
  have at_i : ∀ i : Nat, atomsD[i]? = some d → ∃ (i : Nat) (t : List Nat), atomsD[i]? = some d ∧ atomsT[i]? = some t ∧ shC d = t := fun i e => by
    have : (atomsD.map shC)[i]? = some (shC d) := by rw [List.getElem?_map, e]; rfl
    rw [atoms_sh] at this
    exact ⟨i, shC d, e, this, rfl⟩
  cases d with
  | non => exact .inl (at_i 0 rfl)
  | bl b => cases b with
    | true => exact .inl (at_i 1 rfl)
    | false => exact .inl (at_i 2 rfl)
  | int i =>
    simp only [D.pd, Bool.and_eq_true, decide_eq_true_eq] at h
    have c : i = -1 ∨ i = 0 ∨ i = 1 ∨ i = 2 ∨ i = 3 ∨ i = 4 ∨ i = 5 ∨ i = 6 ∨ i = 7 ∨ i = 8 ∨ i = 9 := by omega
    rcases c with rfl | rfl | rfl | rfl | rfl | rfl | rfl | rfl | rfl | rfl | rfl
    · exact .inl (at_i 3 rfl)
    · exact .inl (at_i 4 rfl)
    · exact .inl (at_i 5 rfl)
    · exact .inl (at_i 6 rfl)
    · exact .inl (at_i 7 rfl)
    · exact .inl (at_i 8 rfl)
    · exact .inl (at_i 9 rfl)
    · exact .inl (at_i 10 rfl)
    · exact .inl (at_i 11 rfl)
    · exact .inl (at_i 12 rfl)
    · exact .inl (at_i 13 rfl)
  | str x =>
    simp only [D.pd, decide_eq_true_eq, names, List.mem_cons, List.not_mem_nil, or_false] at h
    rcases h with rfl | rfl | rfl
    · exact .inl (at_i 14 rfl)
    · exact .inl (at_i 15 rfl)
    · exact .inl (at_i 16 rfl)
  | tup xs => exact .inr (.inl ⟨xs, rfl, by simpa [D.pd] using h⟩)
  | lst xs => exact .inr (.inr ⟨xs, rfl, by simpa [D.pd] using h⟩)
  | _ => simp [D.pd] at h
def tlC (xs : List D) : List Nat := xs.flatMap fun d => 44 :: 32 :: shC d
theorem shownAll_map : ∀ xs : List D, PyData.shownAll (D.toPs xs) = xs.map fun d => d.toP.shown
  | [] => by simp [D.toPs, PyData.shownAll]
  | x :: xs => by simp only [D.toPs, PyData.shownAll, shownAll_map xs, List.map_cons]
theorem cps_app (a b : Str) : (a ++ b).cps.toList = a.cps.toList ++ b.cps.toList := by
  show (a.cps ++ b.cps).toList = _
  exact Array.toList_append
theorem join_cps : ∀ (x : D) (xs : List D), (PySem.Str.join ", " ((x :: xs).map fun d => d.toP.shown)).cps.toList = shC x ++ tlC xs
  | x, [] => by
    show x.toP.shown.cps.toList = shC x ++ []
    rw [List.append_nil]; rfl
  | x, y :: ys => by
    have ih := join_cps y ys
    rw [List.map_cons] at ih
    show ((x.toP.shown ++ (", " : String)) ++ PySem.Str.join ", " (y.toP.shown :: ys.map fun d => d.toP.shown)).cps.toList = _
    rw [cps_app, cps_app, ih]
    have e : ((", " : String) : Str).cps.toList = [44, 32] := by decide +kernel
    rw [e]
    show _ = shC x ++ (44 :: 32 :: shC y ++ tlC ys)
    unfold shC
    simp only [List.append_assoc, List.cons_append, List.nil_append]
theorem sh_tup0 : shC (.tup []) = [40, 41] := by decide +kernel
theorem sh_tup1 (x : D) : shC (.tup [x]) = 40 :: (shC x ++ [44, 41]) := by
  show (PySem.tupleText (PyData.shownAll (D.toPs [x]))).cps.toList = _
  rw [shownAll_map]
  unfold PySem.tupleText
  rw [cps_app, cps_app, join_cps x []]
  have e1 : ((("(" : String) : Str)).cps.toList = [40] := by decide +kernel
  have e2 : (((if (List.map (fun d : D => d.toP.shown) [x]).length == 1 then ",)" else ")" : String)) : Str).cps.toList = [44, 41] := by
    show ((",)" : String) : Str).cps.toList = _
    decide +kernel
  rw [e1, e2]
  simp [tlC]
theorem sh_tup2 (x y : D) (ys : List D) : shC (.tup (x :: y :: ys)) = 40 :: (shC x ++ (tlC (y :: ys) ++ [41])) := by
  show (PySem.tupleText (PyData.shownAll (D.toPs (x :: y :: ys)))).cps.toList = _
  rw [shownAll_map]
  unfold PySem.tupleText
  rw [cps_app, cps_app, join_cps x (y :: ys)]
  have e1 : ((("(" : String) : Str)).cps.toList = [40] := by decide +kernel
  have e2 : (((if (List.map (fun d : D => d.toP.shown) (x :: y :: ys)).length == 1 then ",)" else ")" : String)) : Str).cps.toList = [41] := by
    have : ((List.map (fun d : D => d.toP.shown) (x :: y :: ys)).length == 1) = false := by simp
    rw [this]
    show ((")" : String) : Str).cps.toList = _
    decide +kernel
  rw [e1, e2]
  simp
theorem from_cps : ∀ (xs : List D) (k : Nat) (acc : Str), 0 < k → (PySem.textFrom k acc (xs.map fun d => d.toP.shown)).cps.toList = acc.cps.toList ++ tlC xs
  | [], k, acc, _ => by
    show acc.cps.toList = acc.cps.toList ++ []
    rw [List.append_nil]
  | y :: ys, k, acc, hk => by
    rw [List.map_cons]
    unfold PySem.textFrom
    rw [if_pos hk, from_cps ys (k + 1) _ (Nat.succ_pos _), cps_app, cps_app]
    have e : ((", " : String) : Str).cps.toList = [44, 32] := by decide +kernel
    rw [e]
    show _ = acc.cps.toList ++ (44 :: 32 :: shC y ++ tlC ys)
    unfold shC
    simp only [List.append_assoc, List.cons_append, List.nil_append]
theorem sh_lst0 : shC (.lst []) = [91, 93] := by decide +kernel
theorem sh_lst1 (x : D) (xs : List D) : shC (.lst (x :: xs)) = 91 :: (shC x ++ (tlC xs ++ [93])) := by
  show (PySem.listText (PyData.shownAll (D.toPs (x :: xs)))).cps.toList = _
  rw [shownAll_map]
  unfold PySem.listText
  rw [cps_app, List.map_cons]
  unfold PySem.textFrom
  rw [if_neg (Nat.lt_irrefl 0), from_cps xs 1 _ (by decide), cps_app, cps_app]
  have e0 : ((("" : String) : Str)).cps.toList = [] := by decide +kernel
  have e1 : ((("[" : String) : Str)).cps.toList = [91] := by decide +kernel
  have e2 : ((("]" : String) : Str)).cps.toList = [93] := by decide +kernel
  rw [e1, e2, e0]
  unfold shC
  simp
theorem sh_head {d : D} (h : d.pd = true) : ∃ c r, shC d = c :: r ∧ c ≠ 41 ∧ c ≠ 93 ∧ c ≠ 44 := by
  rcases pd_cases h with ⟨i, t, _, ht, e⟩ | ⟨xs, rfl, _⟩ | ⟨xs, rfl, _⟩
  · have := List.all_eq_true.mp atoms_head t (List.mem_of_getElem? ht)
    cases t with
    | nil => cases this
    | cons c r =>
      have := of_decide_eq_true this
      exact ⟨c, r, e, this.2.1, this.2.2.2.1, this.2.2.2.2⟩
  · match xs with
    | [] => exact ⟨_, _, sh_tup0, by decide, by decide, by decide⟩
    | [x] => exact ⟨_, _, sh_tup1 x, by decide, by decide, by decide⟩
    | x :: y :: r => exact ⟨_, _, sh_tup2 x y r, by decide, by decide, by decide⟩
  · match xs with
    | [] => exact ⟨_, _, sh_lst0, by decide, by decide, by decide⟩
    | x :: r => exact ⟨_, _, sh_lst1 x r, by decide, by decide, by decide⟩
def Pf (d : D) : Prop := ∀ (d' : D) (u u' : List Nat), d'.pd = true → shC d ++ u = shC d' ++ u' → d = d' ∧ u = u'
theorem tl_pf {e : Nat} (he : e ≠ 44) : ∀ {xs ys : List D} {u u' : List Nat}, (∀ x ∈ xs, Pf x) → D.pds ys = true → tlC xs ++ e :: u = tlC ys ++ e :: u' → xs = ys ∧ u = u'
  | [], [], u, u', _, _, h => ⟨rfl, (List.cons.inj h).2⟩
  | [], y :: ys, u, u', _, _, h => by
    have h' : e :: u = 44 :: (32 :: shC y ++ tlC ys ++ e :: u') := h
    exact absurd (List.cons.inj h').1 he
  | x :: xs, [], u, u', _, _, h => by
    have h' : 44 :: (32 :: shC x ++ tlC xs ++ e :: u) = e :: u' := h
    exact absurd (List.cons.inj h').1.symm he
  | x :: xs, y :: ys, u, u', p, q, h => by
    simp only [D.pds, Bool.and_eq_true] at q
    have h' : 44 :: 32 :: (shC x ++ tlC xs) ++ e :: u = 44 :: 32 :: (shC y ++ tlC ys) ++ e :: u' := h
    rw [List.cons_append, List.cons_append, List.cons_append, List.cons_append] at h'
    have h2 := (List.cons.inj (List.cons.inj h').2).2
    rw [List.append_assoc, List.append_assoc] at h2
    obtain ⟨e1, e2⟩ := p x (.head _) y _ _ q.1 h2
    obtain ⟨e3, e4⟩ := tl_pf he (fun z hz => p z (.tail _ hz)) q.2 e2
    exact ⟨by rw [e1, e3], e4⟩
theorem pf_tup {xs : List D} (hx : D.pds xs = true) (p : ∀ x ∈ xs, Pf x) : Pf (.tup xs) := fun d' u u' h' e => by
  have h0 : ∃ r, shC (.tup xs) = 40 :: r := match xs with
    | [] => ⟨_, sh_tup0⟩
    | [x] => ⟨_, sh_tup1 x⟩
    | x :: y :: r => ⟨_, sh_tup2 x y r⟩
  rcases pd_cases h' with ⟨i, t, _, ht, e'⟩ | ⟨ys, rfl, hy⟩ | ⟨ys, rfl, hy⟩
  · exfalso
    have := List.all_eq_true.mp atoms_head t (List.mem_of_getElem? ht)
    obtain ⟨r, hr⟩ := h0
    rw [hr, e'] at e
    cases t with
    | nil => cases this
    | cons c r2 => exact (of_decide_eq_true this).1 (List.cons.inj e).1.symm
  · match xs, ys, hx, p, hy with
    | [], [], _, _, _ =>
      rw [sh_tup0] at e
      exact ⟨rfl, (List.cons.inj (List.cons.inj e).2).2⟩
    | [], [y], _, _, hy =>
      rw [sh_tup0, sh_tup1] at e
      obtain ⟨c, r, ec, e1, e2, e3⟩ := sh_head (pds_mem hy y (.head _))
      rw [ec] at e
      exact absurd (List.cons.inj (List.cons.inj e).2).1.symm e1
    | [], y :: z :: r, _, _, hy =>
      rw [sh_tup0, sh_tup2] at e
      obtain ⟨c, r, ec, e1, e2, e3⟩ := sh_head (pds_mem hy y (.head _))
      rw [ec] at e
      exact absurd (List.cons.inj (List.cons.inj e).2).1.symm e1
    | [x], [], hx, _, _ =>
      rw [sh_tup0, sh_tup1] at e
      obtain ⟨c, r, ec, e1, e2, e3⟩ := sh_head (pds_mem hx x (.head _))
      rw [ec] at e
      exact absurd (List.cons.inj (List.cons.inj e).2).1 e1
    | x :: z :: r, [], hx, _, _ =>
      rw [sh_tup0, sh_tup2] at e
      obtain ⟨c, r, ec, e1, e2, e3⟩ := sh_head (pds_mem hx x (.head _))
      rw [ec] at e
      exact absurd (List.cons.inj (List.cons.inj e).2).1 e1
    | [x], [y], _, p, hy =>
      rw [sh_tup1, sh_tup1, List.cons_append, List.cons_append] at e
      have e2 := (List.cons.inj e).2
      simp only [List.append_assoc] at e2
      obtain ⟨a, b⟩ := p x (.head _) y _ _ (pds_mem hy y (.head _)) e2
      exact ⟨by rw [a], (List.cons.inj (List.cons.inj b).2).2⟩
    | [x], y :: z :: r, _, p, hy =>
      rw [sh_tup1, sh_tup2, List.cons_append, List.cons_append] at e
      have e2 := (List.cons.inj e).2
      simp only [List.append_assoc] at e2
      obtain ⟨a, b⟩ := p x (.head _) y _ _ (pds_mem hy y (.head _)) e2
      have b' : 44 :: 41 :: u = 44 :: 32 :: ((shC z ++ tlC r) ++ ([41] ++ u')) := b
      exact absurd (List.cons.inj (List.cons.inj b').2).1 (by decide)
    | x :: z :: r, [y], _, p, hy =>
      rw [sh_tup1, sh_tup2, List.cons_append, List.cons_append] at e
      have e2 := (List.cons.inj e).2
      simp only [List.append_assoc] at e2
      obtain ⟨a, b⟩ := p x (.head _) y _ _ (pds_mem hy y (.head _)) e2
      have b' : 44 :: 32 :: ((shC z ++ tlC r) ++ ([41] ++ u)) = 44 :: 41 :: u' := b
      exact absurd (List.cons.inj (List.cons.inj b').2).1 (by decide)
    | x :: z :: r, y :: z2 :: r2, _, p, hy =>
      rw [sh_tup2, sh_tup2, List.cons_append, List.cons_append] at e
      have e2 := (List.cons.inj e).2
      simp only [List.append_assoc] at e2
      obtain ⟨a, b⟩ := p x (.head _) y _ _ (pds_mem hy y (.head _)) e2
      simp only [D.pds, Bool.and_eq_true] at hy
      obtain ⟨c, d⟩ := tl_pf (e := 41) (by decide) (xs := z :: r) (ys := z2 :: r2) (fun w hw => p w (.tail _ hw)) (by simp only [D.pds, Bool.and_eq_true]; exact hy.2) b
      exact ⟨by rw [a, c], d⟩
  · exfalso
    obtain ⟨r, hr⟩ := h0
    rw [hr] at e
    match ys with
    | [] => rw [sh_lst0] at e; exact absurd (List.cons.inj e).1 (by decide)
    | y :: r => rw [sh_lst1] at e; exact absurd (List.cons.inj e).1 (by decide)
theorem pf_lst {xs : List D} (hx : D.pds xs = true) (p : ∀ x ∈ xs, Pf x) : Pf (.lst xs) := fun d' u u' h' e => by
  have h0 : ∃ r, shC (.lst xs) = 91 :: r := match xs with
    | [] => ⟨_, sh_lst0⟩
    | x :: r => ⟨_, sh_lst1 x r⟩
  rcases pd_cases h' with ⟨i, t, _, ht, e'⟩ | ⟨ys, rfl, hy⟩ | ⟨ys, rfl, hy⟩
  · exfalso
    have := List.all_eq_true.mp atoms_head t (List.mem_of_getElem? ht)
    obtain ⟨r, hr⟩ := h0
    rw [hr, e'] at e
    cases t with
    | nil => cases this
    | cons c r2 => exact (of_decide_eq_true this).2.2.1 (List.cons.inj e).1.symm
  · exfalso
    obtain ⟨r, hr⟩ := h0
    rw [hr] at e
    match ys with
    | [] => rw [sh_tup0] at e; exact absurd (List.cons.inj e).1 (by decide)
    | [y] => rw [sh_tup1] at e; exact absurd (List.cons.inj e).1 (by decide)
    | y :: z :: r => rw [sh_tup2] at e; exact absurd (List.cons.inj e).1 (by decide)
  · match xs, ys, hx, p, hy with
    | [], [], _, _, _ =>
      rw [sh_lst0] at e
      exact ⟨rfl, (List.cons.inj (List.cons.inj e).2).2⟩
    | [], y :: r, _, _, hy =>
      rw [sh_lst0, sh_lst1] at e
      obtain ⟨c, r, ec, e1, e2, e3⟩ := sh_head (pds_mem hy y (.head _))
      rw [ec] at e
      exact absurd (List.cons.inj (List.cons.inj e).2).1.symm e2
    | x :: r, [], hx, _, _ =>
      rw [sh_lst0, sh_lst1] at e
      obtain ⟨c, r, ec, e1, e2, e3⟩ := sh_head (pds_mem hx x (.head _))
      rw [ec] at e
      exact absurd (List.cons.inj (List.cons.inj e).2).1 e2
    | x :: r, y :: r2, _, p, hy =>
      rw [sh_lst1, sh_lst1, List.cons_append, List.cons_append] at e
      have e2 := (List.cons.inj e).2
      simp only [List.append_assoc] at e2
      obtain ⟨a, b⟩ := p x (.head _) y _ _ (pds_mem hy y (.head _)) e2
      simp only [D.pds, Bool.and_eq_true] at hy
      obtain ⟨c, d⟩ := tl_pf (e := 93) (by decide) (fun w hw => p w (.tail _ hw)) hy.2 b
      exact ⟨by rw [a, c], d⟩
theorem pf_atom {d : D} {i : Nat} {t : List Nat} (h1 : atomsD[i]? = some d) (h2 : atomsT[i]? = some t) (h3 : shC d = t) : Pf d := fun d' u u' h' e => by
  have hm : t ∈ atomsT := List.mem_of_getElem? h2
  have hd := List.all_eq_true.mp atoms_head t hm
  rcases pd_cases h' with ⟨j, t', g1, g2, g3⟩ | ⟨ys, rfl, hy⟩ | ⟨ys, rfl, hy⟩
  · by_cases c : i = j
    · subst c
      rw [h1] at g1
      cases g1
      exact ⟨rfl, List.append_cancel_left e⟩
    · exfalso
      have z := List.all_eq_true.mp atoms_apart (t, i) (List.mem_zipIdx_iff_getElem?.mpr h2)
      have z := List.all_eq_true.mp z (t', j) (List.mem_zipIdx_iff_getElem?.mpr g2)
      simp only [Bool.or_eq_true, decide_eq_true_eq] at z
      rw [h3, g3] at e
      exact apart_ne (z.resolve_left c) e
  · exfalso
    rw [h3] at e
    have h0 : ∃ r, shC (.tup ys) = 40 :: r := match ys with
      | [] => ⟨_, sh_tup0⟩
      | [x] => ⟨_, sh_tup1 x⟩
      | x :: y :: r => ⟨_, sh_tup2 x y r⟩
    obtain ⟨r, hr⟩ := h0
    rw [hr] at e
    cases t with
    | nil => cases hd
    | cons c r2 => exact (of_decide_eq_true hd).1 (List.cons.inj e).1
  · exfalso
    rw [h3] at e
    have h0 : ∃ r, shC (.lst ys) = 91 :: r := match ys with
      | [] => ⟨_, sh_lst0⟩
      | x :: r => ⟨_, sh_lst1 x r⟩
    obtain ⟨r, hr⟩ := h0
    rw [hr] at e
    cases t with
    | nil => cases hd
    | cons c r2 => exact (of_decide_eq_true hd).2.2.1 (List.cons.inj e).1
mutual
theorem pf_all : ∀ (d : D), d.pd = true → Pf d
  | .tup xs, h => pf_tup (by simpa [D.pd] using h) (pfs_all xs (by simpa [D.pd] using h))
  | .lst xs, h => pf_lst (by simpa [D.pd] using h) (pfs_all xs (by simpa [D.pd] using h))
  | .non, h => by
    rcases pd_cases h with ⟨i, t, a, b, c⟩ | ⟨xs, e, _⟩ | ⟨xs, e, _⟩
    · exact pf_atom a b c
    · cases e
    · cases e
  | .bl b, h => by
    rcases pd_cases h with ⟨i, t, a, b, c⟩ | ⟨xs, e, _⟩ | ⟨xs, e, _⟩
    · exact pf_atom a b c
    · cases e
    · cases e
  | .int j, h => by
    rcases pd_cases h with ⟨i, t, a, b, c⟩ | ⟨xs, e, _⟩ | ⟨xs, e, _⟩
    · exact pf_atom a b c
    · cases e
    · cases e
  | .str x, h => by
    rcases pd_cases h with ⟨i, t, a, b, c⟩ | ⟨xs, e, _⟩ | ⟨xs, e, _⟩
    · exact pf_atom a b c
    · cases e
    · cases e
  | .ty _, h => by simp [D.pd] at h
  | .ref _, h => by simp [D.pd] at h
  | .scr _, h => by simp [D.pd] at h
  | .dct _ _, h => by simp [D.pd] at h
theorem pfs_all : ∀ (xs : List D), D.pds xs = true → ∀ x ∈ xs, Pf x
  | [], _, x, hx => nomatch hx
  | y :: ys, h, x, hx => by
    have h' : y.pd = true ∧ D.pds ys = true := by simpa [D.pds] using h
    rcases List.mem_cons.mp hx with e | hx
    · rw [e]; exact pf_all y h'.1
    · exact pfs_all ys h'.2 x hx
end
/-- repr tells papers apart -/
theorem shown_inj {d d' : D} (h : d.pd = true) (h' : d'.pd = true) (e : d.toP.shown = d'.toP.shown) : d = d' := by
  have := pf_all d h d' [] [] h' (by unfold shC; rw [e])
  exact this.1
end DL

set_option Elab.async false
set_option linter.all false
set_option maxRecDepth 100000
namespace DL
open PySem (PyData Str)
/-! ## papers: small data -/
mutual
/-- small data: of widths at most w, of depth at most n -/
def D.ok (w : Nat) : D → Nat → Bool
  | .non, _ => true
  | .bl _, _ => true
  | .int i, _ => decide (-1 ≤ i) && decide (i ≤ 9)
  | .str x, _ => decide (x ∈ names)
  | .tup xs, n + 1 => decide (xs.length ≤ w) && D.oks w xs n
  | .lst xs, n + 1 => decide (xs.length ≤ w) && D.oks w xs n
  | _, _ => false
def D.oks (w : Nat) : List D → Nat → Bool
  | [], _ => true
  | x :: xs, n => x.ok w n && D.oks w xs n
end
theorem oks_iff {w n : Nat} : ∀ {xs : List D}, D.oks w xs n = true ↔ ∀ x ∈ xs, x.ok w n = true
  | [] => by simp [D.oks]
  | x :: xs => by
    simp only [D.oks, Bool.and_eq_true, List.mem_cons, forall_eq_or_imp, oks_iff (xs := xs)]
theorem ok_tup {w n : Nat} {xs : List D} : (D.tup xs).ok w (n + 1) = true ↔ xs.length ≤ w ∧ ∀ x ∈ xs, x.ok w n = true := by
  simp only [D.ok, Bool.and_eq_true, decide_eq_true_eq, oks_iff]
theorem ok_lst {w n : Nat} {xs : List D} : (D.lst xs).ok w (n + 1) = true ↔ xs.length ≤ w ∧ ∀ x ∈ xs, x.ok w n = true := by
  simp only [D.ok, Bool.and_eq_true, decide_eq_true_eq, oks_iff]
theorem ok_tup0 {w : Nat} {xs : List D} : (D.tup xs).ok w 0 = false := by simp [D.ok]
mutual
theorem ok_mono {w w' : Nat} (hw : w ≤ w') : ∀ {d : D} {n n' : Nat}, d.ok w n = true → n ≤ n' → d.ok w' n' = true
  | .non, _, _, _, _ => by simp [D.ok]
  | .bl _, _, _, _, _ => by simp [D.ok]
  | .int i, _, _, h, _ => by simpa [D.ok] using h
  | .str x, _, _, h, _ => by simpa [D.ok] using h
  | .tup xs, 0, _, h, _ => by simp [D.ok] at h
  | .tup xs, n + 1, 0, _, hn => by omega
  | .tup xs, n + 1, n' + 1, h, hn => by
    simp only [D.ok, Bool.and_eq_true, decide_eq_true_eq] at h ⊢
    exact ⟨Nat.le_trans h.1 hw, oks_mono hw h.2 (by omega)⟩
  | .lst xs, 0, _, h, _ => by simp [D.ok] at h
  | .lst xs, n + 1, 0, _, hn => by omega
  | .lst xs, n + 1, n' + 1, h, hn => by
    simp only [D.ok, Bool.and_eq_true, decide_eq_true_eq] at h ⊢
    exact ⟨Nat.le_trans h.1 hw, oks_mono hw h.2 (by omega)⟩
  | .ty _, _, _, h, _ => by simp [D.ok] at h
  | .ref _, _, _, h, _ => by simp [D.ok] at h
  | .scr _, _, _, h, _ => by simp [D.ok] at h
  | .dct _ _, _, _, h, _ => by simp [D.ok] at h
theorem oks_mono {w w' : Nat} (hw : w ≤ w') : ∀ {xs : List D} {n n' : Nat}, D.oks w xs n = true → n ≤ n' → D.oks w' xs n' = true
  | [], _, _, _, _ => by simp [D.oks]
  | x :: xs, n, n', h, hn => by
    simp only [D.oks, Bool.and_eq_true] at h ⊢
    exact ⟨ok_mono hw h.1 hn, oks_mono hw h.2 hn⟩
end
mutual
theorem ok_pd {w : Nat} : ∀ {d : D} {n : Nat}, d.ok w n = true → d.pd = true
  | .non, _, _ => by simp [D.pd]
  | .bl _, _, _ => by simp [D.pd]
  | .int i, _, h => by simpa [D.ok, D.pd] using h
  | .str x, _, h => by simpa [D.ok, D.pd] using h
  | .tup xs, 0, h => by simp [D.ok] at h
  | .tup xs, n + 1, h => by
    simp only [D.ok, Bool.and_eq_true, decide_eq_true_eq] at h
    simp only [D.pd]
    exact oks_pd h.2
  | .lst xs, 0, h => by simp [D.ok] at h
  | .lst xs, n + 1, h => by
    simp only [D.ok, Bool.and_eq_true, decide_eq_true_eq] at h
    simp only [D.pd]
    exact oks_pd h.2
  | .ty _, _, h => by simp [D.ok] at h
  | .ref _, _, h => by simp [D.ok] at h
  | .scr _, _, h => by simp [D.ok] at h
  | .dct _ _, _, h => by simp [D.ok] at h
theorem oks_pd {w : Nat} : ∀ {xs : List D} {n : Nat}, D.oks w xs n = true → D.pds xs = true
  | [], _, _ => by simp [D.pds]
  | x :: xs, n, h => by
    simp only [D.oks, Bool.and_eq_true] at h
    simp only [D.pds, Bool.and_eq_true]
    exact ⟨ok_pd h.1, oks_pd h.2⟩
end
theorem shw_bl (b : Bool) : Shw (.bl b) 0 1 := ⟨fun m hm => by simp [D.fit], by simp [D.toP, PyData.showable], by simp [D.toP, PyData.hasDict], by cases b <;> simp [D.toP, PyData.leavesShort], by simp [D.toP, PyData.weight]⟩
theorem shw_str {x : Str} (h : x ∈ names) : Shw (.str x) 20 1 := by
  simp only [names, List.mem_cons, List.not_mem_nil, or_false] at h
  refine ⟨fun m hm => by simp [D.fit], by simp [D.toP, PyData.showable], by simp [D.toP, PyData.hasDict], ?_, ?_⟩
  · rcases h with rfl | rfl | rfl <;> decide +kernel
  · rcases h with rfl | rfl | rfl <;> decide +kernel
/-- the weight of small data -/
def wtB (w : Nat) : Nat → Nat
  | 0 => 20
  | n + 1 => w * (wtB w n + 1) + 20
theorem shw_ok {w : Nat} : ∀ {d : D} {n : Nat}, d.ok w n = true → Shw d (wtB w n) (n + 1)
  | .non, n, _ => shw_non.mono (Nat.zero_le _) (by omega)
  | .bl b, n, _ => (shw_bl b).mono (Nat.zero_le _) (by omega)
  | .int i, n, h => by
    simp only [D.ok, Bool.and_eq_true, decide_eq_true_eq] at h
    exact (shw_int (k := 4) (by decide) (by decide) (by omega)).mono (by cases n <;> simp only [wtB] <;> omega) (by omega)
  | .str x, n, h => (shw_str (by simpa [D.ok] using h)).mono (by cases n <;> simp only [wtB] <;> omega) (by omega)
  | .tup xs, 0, h => by simp [D.ok] at h
  | .tup xs, n + 1, h => by
    have h' := ok_tup.mp h
    have a : ∀ x ∈ xs, Shw x (wtB w n) (n + 1) := fun x hx => shw_ok (h'.2 x hx)
    exact (shw_tupN a h'.1).mono (by simp only [wtB]; omega) (Nat.le_refl _)
  | .lst xs, 0, h => by simp [D.ok] at h
  | .lst xs, n + 1, h => by
    have h' := ok_lst.mp h
    have a : ∀ x ∈ xs, Shw x (wtB w n) (n + 1) := fun x hx => shw_ok (h'.2 x hx)
    exact (shw_lst a).mono (Nat.le_trans (Nat.mul_le_mul_right _ h'.1) (by simp only [wtB]; omega)) (Nat.le_refl _)
  | .ty _, _, h => by simp [D.ok] at h
  | .ref _, _, h => by simp [D.ok] at h
  | .scr _, _, h => by simp [D.ok] at h
  | .dct _ _, _, h => by simp [D.ok] at h
termination_by d => sizeOf d
decreasing_by all_goals (have := List.sizeOf_lt_of_mem hx; simp only [D.tup.sizeOf_spec, D.lst.sizeOf_spec]; omega)
/-- a paper -/
abbrev Pap (d : D) : Prop := d.ok 8 5 = true
theorem repr_pap {d : D} (h : Pap d) : gRepr [d] = some (.str d.toP.shown) := repr_of (shw_ok h) (by decide) (by decide)
theorem eq_strs (x y : Str) : D.eq (.str x) (.str y) = some (.bl (decide (x = y))) := by
  have e : ((D.str x).fit 60 && (D.str y).fit 60) = true := by simp [D.fit]
  unfold D.eq
  rw [if_pos e]
  congr 2
theorem ne_strs (x y : Str) : D.ne (.str x) (.str y) = some (.bl (!decide (x = y))) := by
  have e : ((D.str x).fit 60 && (D.str y).fit 60) = true := by simp [D.fit]
  unfold D.ne
  rw [if_pos e]
  congr 2
/-- repr(d) == repr(d') -/
theorem shown_dec {d d' : D} (h : Pap d) (h' : Pap d') [DecidableEq D] : decide (d.toP.shown = d'.toP.shown) = decide (d = d') := by
  refine decide_eq_decide.mpr ⟨fun e => shown_inj (ok_pd h) (ok_pd h') e, fun e => by rw [e]⟩
end DL

set_option Elab.async false
set_option linter.all false
set_option maxRecDepth 100000
namespace W13
open DL
open L2 (atI atI_nat ixN)
theorem tup1 {f1 : Ex} {ρ : Rho} {S S1 : Sto} {d1 : D} (h1 : f1 ρ S = some (d1, S1)) : eTup (aCons f1 aNil) ρ S = some (.tup [d1], S1) := eTup_of (aCons_of h1 rfl) (by show 1 ≤ PySem.sizeLine; decide)
def _root_.DL.D.isS : D → Bool
  | .str _ => true
  | _ => false
def _root_.DL.D.isTp : D → Bool
  | .tup _ => true
  | _ => false
theorem isiS {w n : Nat} {d : D} (h : d.ok w n = true) : gIsi [d, .ty "str"] = some (.bl d.isS) := by
  have k1 : L2.kitB "NoneType" "str" = some false := by decide +kernel
  have k2 : L2.kitB "bool" "str" = some false := by decide +kernel
  have k3 : L2.kitB "int" "str" = some false := by decide +kernel
  have k4 : L2.kitB "str" "str" = some true := by decide +kernel
  have k5 : L2.kitB "tuple" "str" = some false := by decide +kernel
  have k6 : L2.kitB "list" "str" = some false := by decide +kernel
  cases d <;> first | (simp [D.ok] at h; done) | (unfold gIsi D.isA; simp only [k1, k2, k3, k4, k5, k6, Option.map_some, D.isS, D.isTp])
theorem isiT {w n : Nat} {d : D} (h : d.ok w n = true) : gIsi [d, .ty "tuple"] = some (.bl d.isTp) := by
  have k1 : L2.kitB "NoneType" "tuple" = some false := by decide +kernel
  have k2 : L2.kitB "bool" "tuple" = some false := by decide +kernel
  have k3 : L2.kitB "int" "tuple" = some false := by decide +kernel
  have k4 : L2.kitB "str" "tuple" = some false := by decide +kernel
  have k5 : L2.kitB "tuple" "tuple" = some true := by decide +kernel
  have k6 : L2.kitB "list" "tuple" = some false := by decide +kernel
  cases d <;> first | (simp [D.ok] at h; done) | (unfold gIsi D.isA; simp only [k1, k2, k3, k4, k5, k6, Option.map_some, D.isS, D.isTp])
theorem cut_lo (xs : List D) (k : Nat) : cutD xs (some (k : Int)) none = xs.drop k := by
  unfold cutD
  rw [HT.sIx_nat, HT.sIx_none, List.take_of_length_le (by rw [List.length_drop]; omega)]
  by_cases h : k ≤ xs.length
  · rw [Nat.min_eq_left h]
  · rw [Nat.min_eq_right (by omega), List.drop_of_length_le (Nat.le_refl _), List.drop_of_length_le (by omega)]
theorem cut_hi (xs : List D) (k : Nat) : cutD xs none (some (k : Int)) = xs.take k := by
  unfold cutD
  rw [HT.sIx_nat, HT.sIx_none, List.drop_zero, Nat.sub_zero]
  by_cases h : k ≤ xs.length
  · rw [Nat.min_eq_left h]
  · rw [Nat.min_eq_right (by omega), List.take_of_length_le (Nat.le_refl _), List.take_of_length_le (by omega)]
theorem cut_mem {xs : List D} {lo hi : Option Int} {x : D} (h : x ∈ cutD xs lo hi) : x ∈ xs := List.mem_of_mem_drop (List.mem_of_mem_take h)
theorem cut_len (xs : List D) (lo hi : Option Int) : (cutD xs lo hi).length ≤ xs.length := by
  unfold cutD
  rw [List.length_take, List.length_drop]; omega
theorem cut_last (xs : List D) : (cutD xs (some (-1)) none).length ≤ 1 := by
  unfold cutD
  rw [List.length_take, List.length_drop]
  have : HT.sIx xs.length 0 (some (-1)) = ((-1 : Int) + xs.length).toNat := rfl
  omega
theorem eSl_of {f : Ex} {l h : Px} {ρ : Rho} {S S1 S2 S3 : Sto} {d z : D} {lo hi : Option Int} (h1 : f ρ S = some (d, S1)) (h2 : l ρ S1 = some (lo, S2)) (h3 : h ρ S2 = some (hi, S3)) (h4 : D.slice d lo hi = some z) : eSl D.slice f l h ρ S = some (z, S3) := by
  unfold eSl
  rw [h1, Option.bind_some, h2, Option.bind_some, h3, Option.bind_some, h4]
  rfl
theorem pIs_of {f : Ex} {ρ : Rho} {S S1 : Sto} {i : Int} (h : f ρ S = some (.int i, S1)) : pIs f ρ S = some (some i, S1) := by
  unfold pIs
  rw [h, Option.bind_some]
theorem ix_lst {xs : List D} {r : Nat} (h : r < xs.length) : D.ix (.lst xs) (.int (r : Int)) = some (xs[r]'h) := atI_lt h
theorem ix_tup {xs : List D} {r : Nat} (h : r < xs.length) : D.ix (.tup xs) (.int (r : Int)) = some (xs[r]'h) := atI_lt h
/-- one value of a list, drawn -/
theorem draw_s {fs : Ars} {ρ : Rho} {S S1 : Sto} {ds : List D} {many m : Nat} (h0 : ρ[0]? = some (.sh (.ref 0))) (h1 : fs ρ S = some (ds, S1)) (hg : Good m S1) (hm : m ≤ 50000) (hl : ds.length = many) (hp : 0 < many) (h2 : many ≤ 1000) :
    ∃ d S', d ∈ ds ∧ eBin D.ix (eLst fs) (eCall F__law_take (aCons (eVar 0) (aCons (eC (.int (many : Int))) aNil))) ρ S = some (d, S') ∧ Good (m + 1) S' := by
  obtain ⟨r, S2, t, hr, g⟩ := take_s (many : Int) hg hm (by omega) (by omega)
  have hr' : r < ds.length := by omega
  have e0 : aCons (eVar 0) (aCons (eC (.int (many : Int))) aNil) ρ S1 = some ([.ref 0, .int (many : Int)], S1) := aCons_of (S1 := S1) (d := .ref 0) (by unfold eVar; rw [h0]) rfl
  exact ⟨ds[r], S2, List.getElem_mem hr', eBin_of (eLst_of h1 (szle (by omega))) (eCall_of e0 t) (ix_lst hr'), g⟩
def spB (G : Fn) : Stm :=
    (sSeq (sIf (tTru (eCB gIsi (aCons (bVar 1) (aCons (eC (.ty "str")) aNil)))) (sRet (eBin D.ix (eLst (aCons (eC (.str "holds")) (aCons (eC (.str "fails")) (aCons (eC (.str "")) aNil)))) (eCall F__law_take (aCons (eVar 0) (aCons (eC (.int 3)) aNil))))) sNx)
    (sSeq (sIf (tNo (tTru (eCB gIsi (aCons (bVar 1) (aCons (eC (.ty "tuple")) aNil))))) (sRet (eBin D.ix (eLst (aCons (eC (.int 0)) (aCons (eC (.int 1)) (aCons (eC (.int 2)) (aCons (eC (.int 3)) (aCons (eBin D.sub (eC (.int 0)) (eC (.int 1))) (aCons (eC .non) (aCons (eC (.bl true)) (aCons (eC (.bl false)) (aCons (eTup aNil) aNil)))))))))) (eCall F__law_take (aCons (eVar 0) (aCons (eC (.int 9)) aNil))))) sNx)
    (sSeq (sIf (DL.tOr (tNo (tTru (bVar 1))) (tBl (eBin D.eq (eCall F__law_take (aCons (eVar 0) (aCons (eC (.int 6)) aNil))) (eC (.int 0))))) (sRet (eBin D.ix (eLst (aCons (eSl D.slice (bVar 1) (pIs (eC (.int 1))) pNo) (aCons (eSl D.slice (bVar 1) pNo (pIs (eUn D.neg (eC (.int 1))))) (aCons (eBin D.add (bVar 1) (eSl D.slice (bVar 1) (pIs (eUn D.neg (eC (.int 1)))) pNo)) (aCons (eUn D.rev (bVar 1)) (aCons (eCB gList (aCons (bVar 1) aNil)) (aCons (eBin D.add (bVar 1) (eTup (aCons (eC (.int 0)) aNil))) (aCons (eTup aNil) aNil)))))))) (eCall F__law_take (aCons (eVar 0) (aCons (eC (.int 7)) aNil))))) sNx)
    (sSeq (sAsg (eCall F__law_take (aCons (eVar 0) (aCons (eCB gLen (aCons (bVar 1) aNil)) aNil))) (gNm 2))
    (sRet (eBin D.add (eBin D.add (eSl D.slice (bVar 1) pNo (pIs (bVar 2))) (eTup (aCons (eCall G (aCons (eVar 0) (aCons (eBin D.ix (bVar 1) (bVar 2)) aNil))) aNil))) (eSl D.slice (bVar 1) (pIs (eBin D.add (bVar 2) (eC (.int 1)))) pNo)))))))
def SpOk (k : Nat) (G : Fn) : Prop := ∀ (w n m : Nat) (d : D) (S : Sto), n < k → w ≤ 20 → m + 3 * k ≤ 40000 → d.ok w n = true → Good m S → ∃ d' S', G [.ref 0, d] S = some (d', S') ∧ d'.ok (w + 1) (n + 1) = true ∧ Good (m + 3 * k) S'
theorem sp_step {G : Fn} {k : Nat} (hG : SpOk k G) : SpOk (k + 1) (fnD 3 (spB G)) := fun w n m d S hn hw hm hd hg => by
  have fin : ∀ {d' : D} {S' : Sto} {j : Nat}, spB G [.sh (.ref 0), .sh d, .un] S = some (.rt d' S') → d'.ok (w + 1) (n + 1) = true → Good j S' → j ≤ m + 3 * (k + 1) → ∃ d' S', fnD 3 (spB G) [.ref 0, d] S = some (d', S') ∧ d'.ok (w + 1) (n + 1) = true ∧ Good (m + 3 * (k + 1)) S' := fun e o g l =>
    ⟨_, _, fnD_rt e (by rw [g.len, hg.len]), o, g.mono l⟩
  have c1 : tTru (eCB gIsi (aCons (bVar 1) (aCons (eC (.ty "str")) aNil))) [.sh (.ref 0), .sh d, .un] S = some (d.isS, S) := tru_bl (eCB_of (ds := [d, .ty "str"]) (S1 := S) rfl (isiS hd))
  have c2 : tNo (tTru (eCB gIsi (aCons (bVar 1) (aCons (eC (.ty "tuple")) aNil)))) [.sh (.ref 0), .sh d, .un] S = some (!d.isTp, S) := tNo_of (tru_bl (eCB_of (ds := [d, .ty "tuple"]) (S1 := S) rfl (isiT hd)))
  by_cases hs : ∃ x, d = .str x
  · obtain ⟨x, rfl⟩ := hs
    obtain ⟨e, S', he, ev, g⟩ := draw_s (fs := aCons (eC (.str "holds")) (aCons (eC (.str "fails")) (aCons (eC (.str "")) aNil))) (ρ := [.sh (.ref 0), .sh (.str x), .un]) (S := S) (many := 3) rfl rfl hg (by omega) rfl (by decide) (by decide)
    refine fin (sSeq_rt (sIf_t c1 (sRet_of ev))) ?_ g (by omega)
    simp only [List.mem_cons, List.not_mem_nil, or_false] at he
    rcases he with rfl | rfl | rfl <;> simp [D.ok, names]
  · have c1' : d.isS = false := by
      cases d <;> first | rfl | exact absurd ⟨_, rfl⟩ hs
    rw [c1'] at c1
    by_cases ht : ∃ xs, d = .tup xs
    · obtain ⟨xs, rfl⟩ := ht
      obtain ⟨n', rfl⟩ : ∃ n', n = n' + 1 := by
        cases n with
        | zero => rw [ok_tup0] at hd; cases hd
        | succ n' => exact ⟨n', rfl⟩
      obtain ⟨hl, hx⟩ := ok_tup.mp hd
      have hx1 : ∀ x ∈ xs, x.ok (w + 1) (n' + 1) = true := fun x h => ok_mono (Nat.le_succ w) (hx x h) (Nat.le_succ n')
      have mk : ∀ ys : List D, ys.length ≤ w + 1 → (∀ y ∈ ys, y ∈ xs ∨ y = .int 0) → (D.tup ys).ok (w + 1) (n' + 1 + 1) = true := fun ys h1 h2 => ok_tup.mpr ⟨h1, fun y hy => by
        rcases h2 y hy with h | h
        · exact hx1 y h
        · rw [h]; simp [D.ok]⟩
      have seven : ∀ {S1 : Sto} {j : Nat}, Good j S1 → j ≤ m + 1 → ∃ d' S', sRet (eBin D.ix (eLst (aCons (eSl D.slice (bVar 1) (pIs (eC (.int 1))) pNo) (aCons (eSl D.slice (bVar 1) pNo (pIs (eUn D.neg (eC (.int 1))))) (aCons (eBin D.add (bVar 1) (eSl D.slice (bVar 1) (pIs (eUn D.neg (eC (.int 1)))) pNo)) (aCons (eUn D.rev (bVar 1)) (aCons (eCB gList (aCons (bVar 1) aNil)) (aCons (eBin D.add (bVar 1) (eTup (aCons (eC (.int 0)) aNil))) (aCons (eTup aNil) aNil)))))))) (eCall F__law_take (aCons (eVar 0) (aCons (eC (.int 7)) aNil)))) [.sh (.ref 0), .sh (.tup xs), .un] S1 = some (.rt d' S') ∧ d'.ok (w + 1) (n' + 1 + 1) = true ∧ Good (j + 1) S' := fun {S1 j} g hj => by
        have p3 : eBin D.add (bVar 1) (eSl D.slice (bVar 1) (pIs (eUn D.neg (eC (.int 1)))) pNo) [.sh (.ref 0), .sh (.tup xs), .un] S1 = some (.tup (xs ++ cutD xs (some (-1)) none), S1) := eBin_of (S1 := S1) (S2 := S1) (d1 := .tup xs) (d2 := .tup (cutD xs (some (-1)) none)) rfl (eSl_of (S1 := S1) (S2 := S1) (S3 := S1) (d := .tup xs) (lo := some (-1)) (hi := none) rfl rfl rfl rfl) (add_tup (szle (by have := cut_last xs; omega)))
        have p6 : eBin D.add (bVar 1) (eTup (aCons (eC (.int 0)) aNil)) [.sh (.ref 0), .sh (.tup xs), .un] S1 = some (.tup (xs ++ [.int 0]), S1) := eBin_of (S1 := S1) (S2 := S1) (d1 := .tup xs) (d2 := .tup [.int 0]) rfl (tup1 (S1 := S1) rfl) (add_tup (szle (by rw [List.length_singleton]; omega)))
        have els := aCons_of (S1 := S1) (eSl_of (f := bVar 1) (l := pIs (eC (.int 1))) (h := pNo) (ρ := [.sh (.ref 0), .sh (.tup xs), .un]) (S := S1) (S1 := S1) (S2 := S1) (S3 := S1) (d := .tup xs) (lo := some 1) (hi := none) rfl rfl rfl rfl)
          (aCons_of (S1 := S1) (eSl_of (f := bVar 1) (l := pNo) (h := pIs (eUn D.neg (eC (.int 1)))) (ρ := [.sh (.ref 0), .sh (.tup xs), .un]) (S := S1) (S1 := S1) (S2 := S1) (S3 := S1) (d := .tup xs) (lo := none) (hi := some (-1)) rfl rfl rfl rfl)
          (aCons_of (S1 := S1) p3 (aCons_of (S1 := S1) (f := eUn D.rev (bVar 1)) (d := .tup xs.reverse) rfl (aCons_of (S1 := S1) (f := eCB gList (aCons (bVar 1) aNil)) (d := .lst xs) rfl (aCons_of (S1 := S1) p6 (aCons_of (S1 := S1) (fs := aNil) (eTup_of (fs := aNil) (ds := []) (S1 := S1) rfl (Nat.zero_le _)) rfl))))))
        obtain ⟨e, S', he, ev, g'⟩ := draw_s (many := 7) rfl els g (by omega) rfl (by decide) (by decide)
        refine ⟨e, S', sRet_of ev, ?_, g'⟩
        simp only [List.mem_cons, List.not_mem_nil, or_false] at he
        rcases he with rfl | rfl | rfl | rfl | rfl | rfl | rfl
        · exact mk _ (by have := cut_len xs (some 1) none; omega) fun y hy => .inl (cut_mem hy)
        · exact mk _ (by have := cut_len xs none (some (-1)); omega) fun y hy => .inl (cut_mem hy)
        · refine mk _ (by rw [List.length_append]; have := cut_last xs; omega) fun y hy => ?_
          rcases List.mem_append.mp hy with h | h
          · exact .inl h
          · exact .inl (cut_mem h)
        · exact mk _ (by rw [List.length_reverse]; omega) fun y hy => .inl (List.mem_reverse.mp hy)
        · exact ok_lst.mpr ⟨by omega, hx1⟩
        · refine mk _ (by rw [List.length_append, List.length_singleton]; omega) fun y hy => ?_
          rcases List.mem_append.mp hy with h | h
          · exact .inl h
          · exact .inr (List.mem_singleton.mp h)
        · exact mk _ (by rw [List.length_nil]; omega) fun y hy => nomatch hy
      have tr : tTru (bVar 1) [.sh (.ref 0), .sh (.tup xs), .un] S = some (!xs.isEmpty, S) := tTru_of (d := .tup xs) rfl rfl
      unfold spB at fin
      by_cases he : xs = []
      · subst he
        obtain ⟨d', S', e1, o, g⟩ := seven hg (Nat.le_succ m)
        refine fin (sSeq_of (sIf_f c1 rfl) (sSeq_of (sIf_f c2 rfl) (sSeq_rt (sIf_t (tOr_t (tNo_of tr)) e1)))) o g (by omega)
      · have hem : xs.isEmpty = false := by cases xs with
          | nil => exact absurd rfl he
          | cons a b => rfl
        rw [hem] at tr
        obtain ⟨r, S1, t1, hr, g1⟩ := take_s 6 hg (by omega) (by decide) (by decide)
        have c3 := tOr_f (tNo_of tr) (tBl_of (eBin_of (f1 := eCall F__law_take (aCons (eVar 0) (aCons (eC (.int 6)) aNil))) (f2 := eC (.int 0)) (S1 := S1) (S2 := S1) (d2 := .int 0) (eCall_of (ds := [.ref 0, .int 6]) (S1 := S) rfl t1) rfl (eq_int _ _)))
        by_cases h6 : (r : Int) = 0
        · rw [decide_eq_true h6] at c3
          obtain ⟨d', S', e1, o, g⟩ := seven g1 (Nat.le_refl _)
          refine fin (sSeq_of (sIf_f c1 rfl) (sSeq_of (sIf_f c2 rfl) (sSeq_rt (sIf_t c3 e1)))) o g (by omega)
        · rw [decide_eq_false h6] at c3
          have hpos : 0 < xs.length := List.length_pos_iff.mpr he
          obtain ⟨q, S2, t2, hq, g2⟩ := take_s (xs.length : Int) g1 (by omega) (by omega) (by omega)
          have hq' : q < xs.length := by omega
          obtain ⟨d', S3, t3, o3, g3⟩ := hG w n' (m + 1 + 1) xs[q] S2 (by omega) hw (by omega) (hx _ (List.getElem_mem hq')) g2
          have a1 : eSl D.slice (bVar 1) pNo (pIs (bVar 2)) [.sh (.ref 0), .sh (.tup xs), .sh (.int (q : Int))] S2 = some (.tup (xs.take q), S2) := eSl_of (S1 := S2) (S2 := S2) (d := .tup xs) (lo := none) (hi := some (q : Int)) rfl rfl rfl (by rw [← cut_hi]; rfl)
          have a2 : eTup (aCons (eCall G (aCons (eVar 0) (aCons (eBin D.ix (bVar 1) (bVar 2)) aNil))) aNil) [.sh (.ref 0), .sh (.tup xs), .sh (.int (q : Int))] S2 = some (.tup [d'], S3) := tup1 (eCall_of (ds := [.ref 0, xs[q]]) (S1 := S2) (aCons_of (S1 := S2) rfl (aCons_of (S1 := S2) (eBin_of (S1 := S2) (S2 := S2) (d1 := .tup xs) (d2 := .int (q : Int)) rfl rfl (ix_tup hq')) rfl)) t3)
          have a3 : eSl D.slice (bVar 1) (pIs (eBin D.add (bVar 2) (eC (.int 1)))) pNo [.sh (.ref 0), .sh (.tup xs), .sh (.int (q : Int))] S3 = some (.tup (xs.drop (q + 1)), S3) := eSl_of (S1 := S3) (S2 := S3) (d := .tup xs) (lo := some ((q + 1 : Nat) : Int)) (hi := none) rfl rfl rfl (by rw [← cut_lo]; rfl)
          have la : (xs.take q).length = q := by rw [List.length_take]; omega
          have lb : (xs.drop (q + 1)).length = xs.length - (q + 1) := List.length_drop
          have ev := eBin_of (eBin_of a1 a2 (add_tup (szle (by rw [la, List.length_singleton]; omega)))) a3 (add_tup (szle (by rw [List.length_append, la, lb, List.length_singleton]; omega)))
          refine fin (j := m + 1 + 1 + 3 * k) (sSeq_of (sIf_f c1 rfl) (sSeq_of (sIf_f c2 rfl) (sSeq_of (sIf_f c3 rfl) (sSeq_of (S1 := S2) (ρ' := [.sh (.ref 0), .sh (.tup xs), .sh (.int (q : Int))]) (sAsg_of (eCall_of (ds := [.ref 0, .int (xs.length : Int)]) (S1 := S1) rfl t2) rfl) (sRet_of ev))))) ?_ g3 (by omega)
          refine ok_tup.mpr ⟨by rw [List.length_append, List.length_append, la, lb, List.length_singleton]; omega, fun y hy => ?_⟩
          rcases List.mem_append.mp hy with h | h
          · rcases List.mem_append.mp h with h | h
            · exact hx1 y (List.mem_of_mem_take h)
            · rw [List.mem_singleton.mp h]; exact o3
          · exact hx1 y (List.mem_of_mem_drop h)
    · have c2' : d.isTp = false := by
        cases d <;> first | rfl | exact absurd ⟨_, rfl⟩ ht
      rw [c2'] at c2
      obtain ⟨e, S', he, ev, g⟩ := draw_s (fs := aCons (eC (.int 0)) (aCons (eC (.int 1)) (aCons (eC (.int 2)) (aCons (eC (.int 3)) (aCons (eBin D.sub (eC (.int 0)) (eC (.int 1))) (aCons (eC .non) (aCons (eC (.bl true)) (aCons (eC (.bl false)) (aCons (eTup aNil) aNil))))))))) (ρ := [.sh (.ref 0), .sh d, .un]) (S := S) (ds := [.int 0, .int 1, .int 2, .int 3, .int (-1), .non, .bl true, .bl false, .tup []]) (many := 9) rfl
        (aCons_of (S1 := S) rfl (aCons_of (S1 := S) rfl (aCons_of (S1 := S) rfl (aCons_of (S1 := S) rfl (aCons_of (S1 := S) rfl (aCons_of (S1 := S) rfl (aCons_of (S1 := S) rfl (aCons_of (S1 := S) rfl (aCons_of (S1 := S) (fs := aNil) (eTup_of (fs := aNil) (ds := []) (S1 := S) rfl (Nat.zero_le _)) rfl))))))))) hg (by omega) rfl (by decide) (by decide)
      refine fin (sSeq_of (sIf_f c1 rfl) (sSeq_rt (sIf_t c2 (sRet_of ev)))) ?_ g (by omega)
      simp only [List.mem_cons, List.not_mem_nil, or_false] at he
      rcases he with rfl | rfl | rfl | rfl | rfl | rfl | rfl | rfl | rfl <;> simp [D.ok, D.oks]
theorem sp_0 : SpOk 0 F__law_spoilt_0 := fun w n m d S hn => absurd hn (Nat.not_lt_zero _)
theorem sp_1 : SpOk 1 F__law_spoilt_1 := sp_step sp_0
theorem sp_2 : SpOk 2 F__law_spoilt_2 := sp_step sp_1
theorem sp_3 : SpOk 3 F__law_spoilt_3 := sp_step sp_2
theorem sp_4 : SpOk 4 F__law_spoilt_4 := sp_step sp_3
theorem sp_5 : SpOk 5 F__law_spoilt_5 := sp_step sp_4
theorem sp_6 : SpOk 6 F__law_spoilt_6 := sp_step sp_5
end W13

set_option Elab.async false
set_option linter.all false
set_option maxRecDepth 100000
namespace W13
open DL
open L2 (atI atI_nat ixN)
def beB : Stm := (sAsg (eCall F__law_spoilt (aCons (eVar 0) (aCons (eVar 1) aNil))) (gNm 1))
theorem be_loop (z2 : Sl) : ∀ (ts : List D) (w n m : Nat) (d : D) (S : Sto) (z3 : Sl), w + ts.length ≤ 20 → n + ts.length ≤ 6 → m + 18 * ts.length ≤ 40000 → d.ok w n = true → Good m S →
    ∃ d' S' z3', forF (gNm 3) beB ts [.sh (.ref 0), .sh d, z2, z3] S = some (.nx [.sh (.ref 0), .sh d', z2, z3'] S') ∧ d'.ok (w + ts.length) (n + ts.length) = true ∧ Good (m + 18 * ts.length) S'
  | [], w, n, m, d, S, z3, _, _, _, hd, hg => ⟨d, S, z3, rfl, hd, hg⟩
  | t :: ts, w, n, m, d, S, z3, hw, hn, hm, hd, hg => by
    rw [List.length_cons] at hw hn hm
    obtain ⟨d1, S1, t1, o1, g1⟩ := sp_6 w n m d S (by omega) (by omega) (by omega) hd hg
    obtain ⟨d2, S2, z3', e2, o2, g2⟩ := be_loop z2 ts (w + 1) (n + 1) (m + 3 * 6) d1 S1 (.sh t) (by omega) (by omega) (by omega) o1 g1
    refine ⟨d2, S2, z3', ?_, ?_, ?_⟩
    · have f1 := forF_step (g := gNm 3) (b := beB) (x := t) (xs := ts) (ρ := [.sh (.ref 0), .sh d, z2, z3]) (ρ1 := [.sh (.ref 0), .sh d, z2, .sh t]) (S := S) (S2 := S1) (ρ2 := [.sh (.ref 0), .sh d1, z2, .sh t]) rfl (by
        unfold beB
        exact sAsg_of (eCall_of (ds := [.ref 0, d]) (S1 := S) rfl t1) rfl)
      exact f1.trans e2
    · rw [List.length_cons]
      exact ok_mono (by omega) o2 (by omega)
    · rw [List.length_cons, show m + 18 * (ts.length + 1) = m + 3 * 6 + 18 * ts.length by omega]
      exact g2
/-- a bent paper -/
theorem bent_s {d : D} {m : Nat} {S : Sto} (turn : Nat) (hd : d.ok 6 3 = true) (hg : Good m S) (hm : m ≤ 20000) : ∃ d' S', F__law_bent [.ref 0, d, .int (turn : Int)] S = some (d', S') ∧ Pap d' ∧ Good (m + 40) S' := by
  obtain ⟨r, S1, t1, hr, g1⟩ := take_s 2 hg (by omega) (by decide) (by decide)
  have r2 : r < 2 := by omega
  obtain ⟨k, hk, ek⟩ : ∃ k : Nat, k ≤ 2 ∧ eBin D.mul (eCB gInt (aCons (eBin D.gt (bVar 2) (eC (.int 0))) aNil)) (eBin D.add (eC (.int 1)) (eCall F__law_take (aCons (eVar 0) (aCons (eC (.int 2)) aNil)))) [.sh (.ref 0), .sh d, .sh (.int (turn : Int)), .un] S = some (.int (k : Int), S1) := by
    have e1 : eCB gInt (aCons (eBin D.gt (bVar 2) (eC (.int 0))) aNil) [.sh (.ref 0), .sh d, .sh (.int (turn : Int)), .un] S = some (.int (if 0 < (turn : Int) then 1 else 0), S) := by
      refine eCB_of (ds := [.bl (decide (0 < (turn : Int)))]) (S1 := S) (aCons_of (S1 := S) (eBin_of (S1 := S) (S2 := S) (d1 := .int (turn : Int)) (d2 := .int 0) rfl rfl rfl) rfl) ?_
      by_cases c : 0 < (turn : Int)
      · rw [decide_eq_true c, if_pos c]; rfl
      · rw [decide_eq_false c, if_neg c]; rfl
    have e2 : eBin D.add (eC (.int 1)) (eCall F__law_take (aCons (eVar 0) (aCons (eC (.int 2)) aNil))) [.sh (.ref 0), .sh d, .sh (.int (turn : Int)), .un] S = some (.int (1 + (r : Int)), S1) := eBin_of (S1 := S) (S2 := S1) (d1 := .int 1) (d2 := .int (r : Int)) rfl (eCall_of (ds := [.ref 0, .int 2]) (S1 := S) rfl t1) (i_add _ _)
    by_cases c : 0 < (turn : Int)
    · rw [if_pos c] at e1
      refine ⟨1 + r, by omega, eBin_of e1 e2 ?_⟩
      rw [i_mul (a := 1) (b := 2) (by decide) (by omega) (by decide) (by decide)]
      congr 2
      omega
    · rw [if_neg c] at e1
      refine ⟨0, by omega, eBin_of e1 e2 ?_⟩
      rw [i_mul (a := 1) (b := 2) (by decide) (by omega) (by decide) (by decide)]
      congr 2
      omega
  obtain ⟨d', S2, z3, e3, o3, g3⟩ := be_loop (.sh (.int (turn : Int))) ((List.range k).map fun (i : Nat) => D.int (i : Int)) 6 3 (m + 1) d S1 .un (by rw [List.length_map, List.length_range]; omega) (by rw [List.length_map, List.length_range]; omega) (by rw [List.length_map, List.length_range]; omega) hd g1
  rw [List.length_map, List.length_range] at o3 g3
  refine ⟨d', S2, ?_, ok_mono (by omega) o3 (by omega), g3.mono (by omega)⟩
  unfold F__law_bent b__law_bent
  refine fnD_rt ?_ (by rw [g3.len, hg.len])
  refine sSeq_of (sFor_of (iRng_of (ds := [.int (k : Int)]) (S1 := S1) (aCons_of ek rfl) (rangeOf_nat (show k ≤ 100000 by omega))) e3) ?_
  exact sRet_of (S1 := S2) rfl
end W13

set_option Elab.async false
set_option linter.all false
set_option maxRecDepth 100000
namespace W13
open DL
open L2 (atI atI_nat ixN)
section
variable {ρ ρ1 : Rho} {S S1 S2 S3 : Sto} {f f1 f2 f3 : Ex} {t1 t2 : Tx}
end
def _root_.DL.D.isI : D → Bool
  | .int _ => true
  | _ => false
theorem isiI {w n : Nat} {d : D} (h : d.ok w n = true) : ∃ a b, gIsi [d, .ty "int"] = some (.bl a) ∧ gIsi [d, .ty "bool"] = some (.bl b) ∧ (a && !b) = d.isI := by
  have k1 : L2.kitB "NoneType" "int" = some false := by decide +kernel
  have k2 : L2.kitB "bool" "int" = some true := by decide +kernel
  have k3 : L2.kitB "int" "int" = some true := by decide +kernel
  have k4 : L2.kitB "str" "int" = some false := by decide +kernel
  have k5 : L2.kitB "tuple" "int" = some false := by decide +kernel
  have k6 : L2.kitB "list" "int" = some false := by decide +kernel
  have j1 : L2.kitB "NoneType" "bool" = some false := by decide +kernel
  have j2 : L2.kitB "bool" "bool" = some true := by decide +kernel
  have j3 : L2.kitB "int" "bool" = some false := by decide +kernel
  have j4 : L2.kitB "str" "bool" = some false := by decide +kernel
  have j5 : L2.kitB "tuple" "bool" = some false := by decide +kernel
  have j6 : L2.kitB "list" "bool" = some false := by decide +kernel
  cases d with
  | non => exact ⟨false, false, by unfold gIsi D.isA; simp only [k1, Option.map_some], by unfold gIsi D.isA; simp only [j1, Option.map_some], rfl⟩
  | bl b => exact ⟨true, true, by unfold gIsi D.isA; simp only [k2, Option.map_some], by unfold gIsi D.isA; simp only [j2, Option.map_some], rfl⟩
  | int i => exact ⟨true, false, by unfold gIsi D.isA; simp only [k3, Option.map_some], by unfold gIsi D.isA; simp only [j3, Option.map_some], rfl⟩
  | str x => exact ⟨false, false, by unfold gIsi D.isA; simp only [k4, Option.map_some], by unfold gIsi D.isA; simp only [j4, Option.map_some], rfl⟩
  | tup xs => exact ⟨false, false, by unfold gIsi D.isA; simp only [k5, Option.map_some], by unfold gIsi D.isA; simp only [j5, Option.map_some], rfl⟩
  | lst xs => exact ⟨false, false, by unfold gIsi D.isA; simp only [k6, Option.map_some], by unfold gIsi D.isA; simp only [j6, Option.map_some], rfl⟩
  | _ => simp [D.ok] at h
theorem law_is_int_s {w n : Nat} {d : D} (h : d.ok w n = true) (S : Sto) : F__law_is_int [d] S = some (.bl d.isI, S) := by
  obtain ⟨a, b, e1, e2, e3⟩ := isiI h
  unfold F__law_is_int b__law_is_int
  refine fnD_rt (S' := S) (sRet_of ?_) rfl
  rw [← e3]
  exact eAn_bl (isi_of (d := d) (S1 := S) rfl e1) fun _ => eNo_of (isi_of (d := d) (S1 := S) rfl e2)
theorem is_int_s {w n : Nat} {d : D} (h : d.ok w n = true) (S : Sto) : F_is_integer [d] S = some (.bl d.isI, S) := by
  obtain ⟨a, b, e1, e2, e3⟩ := isiI h
  unfold F_is_integer b_is_integer
  refine fnD_rt (S' := S) (sRet_of ?_) rfl
  rw [← e3]
  exact eAn_bl (isi_of (d := d) (S1 := S) rfl e1) fun _ => eNo_of (isi_of (d := d) (S1 := S) rfl e2)
/-- repr(a) == repr(b) -/
theorem repr_eq {f g : Ex} {ρ : Rho} {S S1 S2 : Sto} {a b : D} (ha : Pap a) (hb : Pap b) (h1 : f ρ S = some (a, S1)) (h2 : g ρ S1 = some (b, S2)) : ∃ c : Bool, eBin D.eq (eCB gRepr (aCons f aNil)) (eCB gRepr (aCons g aNil)) ρ S = some (.bl c, S2) ∧ (c = true ↔ a = b) := by
  refine ⟨decide (a.toP.shown = b.toP.shown), eBin_of (eCB_of (aCons_of h1 rfl) (repr_pap ha)) (eCB_of (aCons_of h2 rfl) (repr_pap hb)) (eq_strs _ _), ?_⟩
  rw [decide_eq_true_eq]
  exact ⟨fun e => shown_inj (ok_pd ha) (ok_pd hb) e, fun e => by rw [e]⟩
end W13

set_option Elab.async false
set_option linter.all false
set_option maxRecDepth 100000
namespace W13
open DL
open L2 (atI atI_nat ixN)
def RowS (r : List Int) : Prop := r.length ≤ 5 ∧ ∀ x ∈ r, 0 ≤ x ∧ x ≤ 3
theorem ok_row {r : List Int} {w n : Nat} (h : RowS r) (hw : 5 ≤ w) : (rowD r).ok w (n + 1) = true := ok_tup.mpr ⟨by rw [List.length_map]; have := h.1; omega, fun d hd => by
  obtain ⟨x, hx, rfl⟩ := List.mem_map.mp hd
  have := h.2 x hx
  simp only [D.ok, Bool.and_eq_true, decide_eq_true_eq]
  omega⟩
theorem len_d (xs : List D) : gLen [.tup xs] = some (.int (xs.length : Int)) := rfl
end W13

set_option Elab.async false
set_option linter.all false
set_option maxRecDepth 100000
namespace W13
open DL
open L2 (atI atI_nat ixN)
theorem repr_val {f g : Ex} {ρ : Rho} {S S1 S2 : Sto} {a b : D} (ha : Pap a) (hb : Pap b) (h1 : f ρ S = some (a, S1)) (h2 : g ρ S1 = some (b, S2)) : eBin D.eq (eCB gRepr (aCons f aNil)) (eCB gRepr (aCons g aNil)) ρ S = some (.bl (decide (a.toP.shown = b.toP.shown)), S2) := eBin_of (eCB_of (aCons_of h1 rfl) (repr_pap ha)) (eCB_of (aCons_of h2 rfl) (repr_pap hb)) (eq_strs _ _)
theorem repr_nval {f g : Ex} {ρ : Rho} {S S1 S2 : Sto} {a b : D} (ha : Pap a) (hb : Pap b) (h1 : f ρ S = some (a, S1)) (h2 : g ρ S1 = some (b, S2)) : eBin D.ne (eCB gRepr (aCons f aNil)) (eCB gRepr (aCons g aNil)) ρ S = some (.bl (!decide (a.toP.shown = b.toP.shown)), S2) := eBin_of (eCB_of (aCons_of h1 rfl) (repr_pap ha)) (eCB_of (aCons_of h2 rfl) (repr_pap hb)) (ne_strs _ _)
theorem shown_iff {a b : D} (ha : Pap a) (hb : Pap b) : (a.toP.shown = b.toP.shown) ↔ a = b := ⟨fun e => shown_inj (ok_pd ha) (ok_pd hb) e, fun e => by rw [e]⟩
section
variable {s : List Nat} {own : List Ru} {ev : Ev} {m : Nat}
theorem two_of : ∀ {xs : List D}, xs.length = 2 → ∃ a b, xs = [a, b]
  | [a, b], _ => ⟨a, b, rfl⟩
end
end W13

set_option Elab.async false
set_option linter.all false
set_option maxRecDepth 100000
namespace DL
open PySem (NestedKey)
section
end
end DL
namespace W13
open DL
open L2 (atI atI_nat ixN)
section
variable {κ : Type} [DecidableEq κ] {enc : κ → D} {nkOf : κ → PySem.NestedKey} {W : Int} {l : List (κ × Int)} {i : Nat} {k : κ} {ρ : Rho} {S S1 S2 : Sto}
end
/-- weights in order -/
theorem nf_nn {a b : Int} (hb : 0 < b) (h : 0 ≤ a) : 0 ≤ (nf a b).1 := Int.ediv_nonneg h (Int.le_of_lt (gcd_pos hb))
def WsOk (ws : List Int) : Prop := ws.length ≤ 1000 ∧ ∀ w ∈ ws, 0 ≤ w ∧ w.natAbs < 2 ^ 21
theorem tot_loop {W : Int} (hW : 0 < W) (hW2 : W.natAbs < 2 ^ 10) (S : Sto) (a : Sl) : ∀ (ws : List Int) (x : Int) (k : Nat) (z : Sl), (∀ w ∈ ws, 0 ≤ w ∧ w.natAbs < 2 ^ 21) → 0 ≤ x → x.natAbs < 2 ^ (21 + k) → k + ws.length ≤ 2000 →
    ∃ z', forF (gNm 2) (sAsg (eCall F__law_plus (aCons (eVar 1) (aCons (eVar 2) aNil))) (gNm 1)) (ws.map fun w => frD (nf w W)) [a, .sh (frD (nf x W)), z] S = some (.nx [a, .sh (frD (nf (x + ws.sum) W)), z'] S) ∧
      forF (gNm 2) (sAsg (eCall F_plus (aCons (eVar 1) (aCons (eVar 2) aNil))) (gNm 1)) (ws.map fun w => frD (nf w W)) [a, .sh (frD (nf x W)), z] S = some (.nx [a, .sh (frD (nf (x + ws.sum) W)), z'] S)
  | [], x, k, z, _, _, _, _ => ⟨z, by simp only [List.map_nil, List.sum_nil, Int.add_zero]; exact ⟨rfl, rfl⟩⟩
  | w :: ws, x, k, z, hw, hx, hx2, hk => by
    rw [List.length_cons] at hk
    have h0 := hw w (.head _)
    have hb : (x + w).natAbs < 2 ^ (21 + (k + 1)) := by
      have := add_bd hx2 (bd_mono (k := 21 + k) h0.2 (by omega))
      rw [show 21 + (k + 1) = 21 + k + 1 by omega]
      exact this
    obtain ⟨z', i1, i2⟩ := tot_loop hW hW2 S a ws (x + w) (k + 1) (.sh (frD (nf w W))) (fun v hv => hw v (.tail _ hv)) (by omega) hb (by omega)
    have f1 : Fb (21 + k) (nf x W) := nf_fb hx2 hW (bd_mono hW2 (by omega))
    have f2 : Fb 21 (nf w W) := nf_fb h0.2 hW (bd_mono hW2 (by decide))
    have p1 := law_plus_s S f1 f2 (nf_nn hW hx) (nf_nn hW h0.1) (by omega)
    have p2 := plus_s S f1 f2 (by omega)
    rw [plF_same _ _ hW] at p1 p2
    have e : x + (w :: ws).sum = x + w + ws.sum := by rw [List.sum_cons]; omega
    rw [e]
    refine ⟨z', ?_, ?_⟩
    · have := forF_step (g := gNm 2) (x := frD (nf w W)) (xs := ws.map fun w => frD (nf w W)) (ρ := [a, .sh (frD (nf x W)), z]) (ρ1 := [a, .sh (frD (nf x W)), .sh (frD (nf w W))]) (b := sAsg (eCall F__law_plus (aCons (eVar 1) (aCons (eVar 2) aNil))) (gNm 1)) (S := S) rfl (sAsg_of (eCall_of (S1 := S) rfl p1) rfl)
      exact this.trans i1
    · have := forF_step (g := gNm 2) (x := frD (nf w W)) (xs := ws.map fun w => frD (nf w W)) (ρ := [a, .sh (frD (nf x W)), z]) (ρ1 := [a, .sh (frD (nf x W)), .sh (frD (nf w W))]) (b := sAsg (eCall F_plus (aCons (eVar 1) (aCons (eVar 2) aNil))) (gNm 1)) (S := S) rfl (sAsg_of (eCall_of (S1 := S) rfl p2) rfl)
      exact this.trans i2
theorem total_w {W : Int} (hW : 0 < W) (hW2 : W.natAbs < 2 ^ 10) {ws : List Int} (h : WsOk ws) (d : D) (hd : d.elems = some (ws.map fun w => frD (nf w W))) (S : Sto) : F__law_total [d] S = some (frD (nf ws.sum W), S) ∧ F_total [d] S = some (frD (nf ws.sum W), S) := by
  obtain ⟨z', l1, l2⟩ := tot_loop hW hW2 S (.sh d) ws 0 0 .un h.2 (Int.le_refl _) (by decide) (by have := h.1; omega)
  rw [Int.zero_add, nf_zero hW] at l1 l2
  have st : sAsg (eTup (aCons (eC (.int 0)) (aCons (eC (.int 1)) aNil))) (gNm 1) [.sh d, .un, .un] S = some (.nx [.sh d, .sh (frD (0, 1)), .un] S) := sAsg_of (pair_s (S1 := S) (S2 := S) rfl rfl) rfl
  constructor
  · unfold F__law_total b__law_total
    refine fnD_rt (S' := S) ?_ rfl
    refine sSeq_of st ?_
    refine sSeq_of (sFor_of (iSeq_of (S1 := S) (d := d) rfl hd) l1) ?_
    exact sRet_of (S1 := S) rfl
  · unfold F_total b_total
    refine fnD_rt (S' := S) ?_ rfl
    refine sSeq_of st ?_
    refine sSeq_of (sFor_of (iSeq_of (S1 := S) (d := d) rfl hd) l2) ?_
    exact sRet_of (S1 := S) rfl
end W13

set_option Elab.async false
set_option linter.all false
set_option maxRecDepth 100000
namespace DL
open L2 (atI atI_nat)
def varsD (vars : List Nat) : D := .tup (vars.map fun (v : Nat) => D.int (v : Int))
def Wt (s : List Nat) (ws : List Int) (e : Ev) : Int := ((((rowsM [[]] s).zip ws).filter fun p => fitsB p.1 e).map (·.2)).sum
def worldD (s : List Nat) (ws : List Int) : D := .tup [szD s, .tup (ws.map fun w => frD (nf w ws.sum))]
/-- what a world is -/
structure Wo (s : List Nat) (ws : List Int) : Prop where
  sm : Small [[]] s
  len : ws.length = (rowsM [[]] s).length
  nn : ∀ w ∈ ws, 0 ≤ w
  pos : 0 < ws.sum
  bd : ws.sum < 2 ^ 10
theorem sum_nonneg : ∀ {l : List Int}, (∀ x ∈ l, 0 ≤ x) → 0 ≤ l.sum
  | [], _ => by simp
  | x :: l, h => by
    rw [List.sum_cons]
    have := h x List.mem_cons_self
    have := sum_nonneg (l := l) fun y hy => h y (List.mem_cons_of_mem _ hy)
    omega
theorem sub_sum : ∀ {l m : List Int}, l.Sublist m → (∀ x ∈ m, 0 ≤ x) → l.sum ≤ m.sum
  | _, _, .slnil, _ => by simp
  | _, _, .cons a s, h => by
    rw [List.sum_cons]
    have := h a List.mem_cons_self
    have := sub_sum s fun y hy => h y (List.mem_cons_of_mem _ hy)
    omega
  | _, _, .cons_cons a s, h => by
    rw [List.sum_cons, List.sum_cons]
    have := sub_sum s fun y hy => h y (List.mem_cons_of_mem _ hy)
    omega
theorem zip_sub {α : Type} (p : α × Int → Bool) : ∀ (xs : List α) (ws : List Int), ((((xs.zip ws).filter p).map (·.2))).Sublist ws
  | [], ws => by simp
  | _ :: _, [] => by simp
  | x :: xs, w :: ws => by
    rw [List.zip_cons_cons, List.filter_cons]
    by_cases h : p (x, w) = true
    · rw [if_pos h, List.map_cons]; exact (zip_sub p xs ws).cons_cons w
    · rw [if_neg h]; exact (zip_sub p xs ws).cons w
section
variable {s : List Nat} {ws : List Int}
end
end DL
namespace W13
open DL
open L2 (atI atI_nat)
theorem _root_.DL.Wo.wt_nn {s : List Nat} {ws : List Int} (h : Wo s ws) (e : Ev) : 0 ≤ Wt s ws e := sum_nonneg fun x hx => h.nn x ((zip_sub _ _ _).subset hx)
theorem _root_.DL.Wo.wt_le {s : List Nat} {ws : List Int} (h : Wo s ws) (e : Ev) : Wt s ws e ≤ ws.sum := sub_sum (zip_sub _ _ _) h.nn
theorem _root_.DL.Wo.wt_bd {s : List Nat} {ws : List Int} (h : Wo s ws) (e : Ev) : (Wt s ws e).natAbs < 2 ^ 10 := by
  have := h.wt_nn e
  have := h.wt_le e
  have := h.bd
  omega
theorem _root_.DL.Wo.sum_bd {s : List Nat} {ws : List Int} (h : Wo s ws) : ws.sum.natAbs < 2 ^ 10 := by
  have := h.pos
  have := h.bd
  omega
theorem _root_.DL.Wo.ws {s : List Nat} {ws : List Int} (h : Wo s ws) (p : List Int × Int → Bool) : WsOk ((((rowsM [[]] s).zip ws).filter p).map (·.2)) := by
  refine ⟨?_, fun w hw => ?_⟩
  · rw [List.length_map]
    refine Nat.le_trans (List.length_filter_le _ _) ?_
    rw [List.length_zip, h.len, Nat.min_self]
    exact rowsM_len h.sm
  · have hm := (zip_sub p (rowsM [[]] s) ws).subset hw
    have h1 := h.nn w hm
    have h2 := sub_sum (l := [w]) (m := ws) (List.singleton_sublist.mpr hm) h.nn
    have h3 := h.bd
    rw [List.sum_cons, List.sum_nil] at h2
    exact ⟨h1, by omega⟩
theorem zip_range {α β : Type} (d1 : α) (d2 : β) : ∀ (xs : List α) (ys : List β), xs.length = ys.length → xs.zip ys = (List.range xs.length).map fun i => (xs.getD i d1, ys.getD i d2)
  | [], [], _ => rfl
  | x :: xs, y :: ys, h => by
    rw [List.zip_cons_cons, zip_range d1 d2 xs ys (by simpa using h), List.length_cons, List.range_succ_eq_map, List.map_cons, List.map_map]
    rfl
theorem zipWith_tab (rows : List (List Int)) (ws : List Int) (w : Int) : List.zipWith (fun x y => D.tup [x, y]) (rows.map rowD) (ws.map fun x => frD (nf x w)) = (rows.zip ws).map fun p => D.tup [rowD p.1, frD (nf p.2 w)] := by
  rw [List.zipWith_map, ← List.map_uncurry_zip_eq_zipWith]
  rfl
/-- an event whose variables are below n -/
def Below (n : Nat) (e : Ev) : Prop := ∀ p ∈ e, p.1 < n
section
variable {s : List Nat} {ws : List Int}
theorem row_len {r : List Int} (hr : r ∈ rowsM [[]] s) : r.length = s.length := by
  have := rowsM_rowlen (s := s) (found := [[]]) (k := 0) (by simp) r hr
  omega
theorem chance_s (h : Wo s ws) (e : Ev) (S : Sto) (he : Below s.length e) : F_chance [worldD s ws, evD e] S = some (frD (nf (Wt s ws e) ws.sum), S) := by
  have r := rows_of_s s S h.sm
  have c := compF_map (g := gTp 2 (gsCons (gNm 2) (gsCons (gNm 3) gsNil))) (tt := tTru (eCall F_fits (aCons (eVar 2) (aCons (eVar 1) aNil)))) (te := eVar 3) (ρ := [.sh (worldD s ws), .sh (evD e), .un, .un]) (S := S)
    (fun p : List Int × Int => D.tup [rowD p.1, frD (nf p.2 ws.sum)]) (fun p => fitsB p.1 e) (fun p => frD (nf p.2 ws.sum)) ((rowsM [[]] s).zip ws) fun p hp => by
      have f := fits_s p.1 e S fun q hq => by rw [row_len (List.of_mem_zip hp).1]; exact he q hq
      exact ⟨[.sh (worldD s ws), .sh (evD e), .sh (rowD p.1), .sh (frD (nf p.2 ws.sum))], rfl, tru_bl (eCall_of (ds := [rowD p.1, evD e]) (S1 := S) rfl f), fun _ => rfl⟩
  have t := (total_w h.pos h.sum_bd (h.ws fun p => fitsB p.1 e) (.lst ((((rowsM [[]] s).zip ws).filter fun p => fitsB p.1 e).map fun p => frD (nf p.2 ws.sum))) (by rw [List.map_map]; rfl) S).2
  have a0 : aCons (eBin D.ix (bVar 0) (eC (.int 0))) aNil [.sh (worldD s ws), .sh (evD e), .un, .un] S = some ([szD s], S) := aCons_of (eBin_of (S1 := S) (S2 := S) (d1 := worldD s ws) (d2 := .int 0) rfl rfl (at0 _ _)) rfl
  have it : iZpA (aCons (eCall F_rows_of (aCons (eBin D.ix (bVar 0) (eC (.int 0))) aNil)) (aCons (eBin D.ix (bVar 0) (eC (.int 1))) aNil)) [.sh (worldD s ws), .sh (evD e), .un, .un] S = some (((rowsM [[]] s).zip ws).map fun p => D.tup [rowD p.1, frD (nf p.2 ws.sum)], S) := by
    unfold iZpA
    rw [aCons_of (eCall_of a0 r) (aCons_of (eBin_of (S1 := S) (S2 := S) (d1 := worldD s ws) (d2 := .int 1) rfl rfl (at1 _ _ _)) rfl), Option.bind_some, ← zipWith_tab]
    rfl
  unfold F_chance b_chance
  exact fnD_rt (S' := S) (sRet_of (eCall_of (aCons_of (eLc_of (vs := [2, 3]) it c) rfl) t)) rfl
theorem law_chance_s (h : Wo s ws) (e : Ev) (S : Sto) (he : Below s.length e) : F__law_chance [worldD s ws, .lst (e.map pD)] S = some (frD (nf (Wt s ws e) ws.sum), S) := by
  have r := law_values_s (szD s) s S rfl h.sm
  have hl := rowsM_len h.sm
  have st1 : sAsg (eCall F__law_values (aCons (eBin D.ix (bVar 0) (eC (.int 0))) aNil)) (gNm 2) [.sh (worldD s ws), .sh (.lst (e.map pD)), .un, .un, .un, .un] S = some (.nx [.sh (worldD s ws), .sh (.lst (e.map pD)), .sh (.lst ((rowsM [[]] s).map rowD)), .un, .un, .un] S) := sAsg_of (eCall_of (aCons_of (eBin_of (S1 := S) (S2 := S) (d1 := worldD s ws) (d2 := .int 0) rfl rfl (at0 _ _)) rfl) r) rfl
  have ix : ∀ (k : Nat) (z : Sl) (w : Sl), k < (rowsM [[]] s).length → eBin D.ix (bVar 2) (bVar 3) [.sh (worldD s ws), .sh (.lst (e.map pD)), .sh (.lst ((rowsM [[]] s).map rowD)), .sh (.int (k : Int)), z, w] S = some (rowD ((rowsM [[]] s).getD k []), S) := fun k z w hk => by
    refine eBin_of (S1 := S) (S2 := S) (d1 := .lst ((rowsM [[]] s).map rowD)) (d2 := .int (k : Int)) rfl rfl ?_
    rw [ix_lst (by rw [List.length_map]; exact hk), List.getElem_map, List.getD_eq_getElem?_getD, List.getElem?_eq_getElem hk]
    rfl
  have c := compF_map (g := gNm 3) (tt := tTru (eCB gAll (aCons (eLc (iSeq (bVar 1)) (gTp 2 (gsCons (gNm 4) (gsCons (gNm 5) gsNil))) tYs (eBin D.eq (eBin D.ix (eBin D.ix (bVar 2) (bVar 3)) (bVar 4)) (bVar 5)) [4, 5]) aNil))) (te := eBin D.ix (eBin D.ix (bVar 0) (eC (.int 1))) (bVar 3)) (ρ := [.sh (worldD s ws), .sh (.lst (e.map pD)), .sh (.lst ((rowsM [[]] s).map rowD)), .un, .un, .un]) (S := S)
    (fun (k : Nat) => D.int (k : Int)) (fun k => fitsB ((rowsM [[]] s).getD k []) e) (fun k => frD (nf (ws.getD k 0) ws.sum)) (List.range (rowsM [[]] s).length) fun k hk => by
      have hk := List.mem_range.mp hk
      have hrow : ((rowsM [[]] s).getD k []).length = s.length := by
        rw [List.getD_eq_getElem?_getD, List.getElem?_eq_getElem hk]
        exact row_len (List.getElem_mem hk)
      refine ⟨[.sh (worldD s ws), .sh (.lst (e.map pD)), .sh (.lst ((rowsM [[]] s).map rowD)), .sh (.int (k : Int)), .un, .un], rfl, ?_, fun _ => ?_⟩
      · refine tru_bl ?_
        refine all_b (ρ := [.sh (worldD s ws), .sh (.lst (e.map pD)), .sh (.lst ((rowsM [[]] s).map rowD)), .sh (.int (k : Int)), .un, .un]) (S := S) pD (fun p => decide (((rowsM [[]] s).getD k [])[p.1]? = some p.2)) e rfl fun p hp => ?_
        refine ⟨[.sh (worldD s ws), .sh (.lst (e.map pD)), .sh (.lst ((rowsM [[]] s).map rowD)), .sh (.int (k : Int)), .sh (.int (p.1 : Int)), .sh (.int p.2)], rfl, ?_⟩
        have hp1 : p.1 < ((rowsM [[]] s).getD k []).length := by rw [hrow]; exact he p hp
        have at_ : D.ix (rowD ((rowsM [[]] s).getD k [])) (.int (p.1 : Int)) = some (.int (((rowsM [[]] s).getD k []).getD p.1 0)) := by
          unfold rowD
          rw [ix_tup (by rw [List.length_map]; exact hp1), List.getElem_map, List.getD_eq_getElem?_getD (i := p.1), List.getElem?_eq_getElem hp1]
          rfl
        have e2 : decide (((rowsM [[]] s).getD k [])[p.1]? = some p.2) = decide (((rowsM [[]] s).getD k []).getD p.1 0 = p.2) := by
          rw [List.getD_eq_getElem?_getD (i := p.1), List.getElem?_eq_getElem hp1]
          exact decide_eq_decide.mpr ⟨fun h => Option.some.inj h, fun h => congrArg some h⟩
        rw [e2]
        exact eBin_of (S1 := S) (S2 := S) (d2 := .int p.2) (eBin_of (S1 := S) (S2 := S) (d2 := .int (p.1 : Int)) (ix k _ _ hk) rfl at_) rfl (eq_int _ _)
      · have hw : k < ws.length := by rw [h.len]; exact hk
        refine eBin_of (S1 := S) (S2 := S) (d1 := .tup (ws.map fun w => frD (nf w ws.sum))) (d2 := .int (k : Int)) (eBin_of (S1 := S) (S2 := S) (d1 := worldD s ws) (d2 := .int 1) rfl rfl (at1 _ _ _)) rfl ?_
        rw [ix_tup (by rw [List.length_map]; exact hw), List.getElem_map, List.getD_eq_getElem?_getD, List.getElem?_eq_getElem hw]
        rfl
  have rg : iRng (aCons (eCB gLen (aCons (bVar 2) aNil)) aNil) [.sh (worldD s ws), .sh (.lst (e.map pD)), .sh (.lst ((rowsM [[]] s).map rowD)), .un, .un, .un] S = some ((List.range (rowsM [[]] s).length).map fun (i : Nat) => D.int (i : Int), S) := iRng_of (ds := [.int ((rowsM [[]] s).length : Int)]) (S1 := S) (aCons_of (eCB_of (ds := [.lst ((rowsM [[]] s).map rowD)]) (S1 := S) rfl (by simp only [gLen, List.length_map])) rfl) (rangeOf_nat (by omega))
  have ef : ((List.range (rowsM [[]] s).length).filter fun k => fitsB ((rowsM [[]] s).getD k []) e).map (fun k => frD (nf (ws.getD k 0) ws.sum)) = (((rowsM [[]] s).zip ws).filter fun p => fitsB p.1 e).map fun p => frD (nf p.2 ws.sum) := by
    rw [zip_range [] 0 _ _ h.len.symm, List.filter_map, List.map_map]
    rfl
  have t := (total_w h.pos h.sum_bd (h.ws fun p => fitsB p.1 e) (.lst ((((rowsM [[]] s).zip ws).filter fun p => fitsB p.1 e).map fun p => frD (nf p.2 ws.sum))) (by rw [List.map_map]; rfl) S).1
  rw [← ef] at t
  unfold F__law_chance b__law_chance
  refine fnD_rt (S' := S) (sSeq_of st1 (sRet_of (eCall_of (aCons_of (eLc_of (vs := [3]) rg c) rfl) t))) rfl
end
end W13

set_option Elab.async false
set_option linter.all false
set_option maxRecDepth 100000
namespace W13
open DL
open L2 (atI atI_nat ixN)
theorem ne_row (a b : List Int) : D.ne (rowD a) (rowD b) = some (.bl (!decide (a = b))) := by
  have e : ((rowD a).fit 60 && (rowD b).fit 60) = true := by rw [fit_row 60 (by decide), fit_row 60 (by decide)]; rfl
  unfold D.ne
  rw [if_pos e]
  show some (D.bl (!PySem.PyData.eqv (rowD a).toP (rowD b).toP)) = _
  rw [eqv_row]
end W13

set_option Elab.async false
set_option linter.all false
set_option maxRecDepth 100000
namespace W13
open DL
open L2 (atI atI_nat ixN)
def natsL (l : List Nat) : List D := l.map fun (i : Nat) => D.int (i : Int)
def sortN (l : List Nat) : List Nat := l.mergeSort fun a b => D.le' (.int (a : Int)) (.int (b : Int))
theorem canSort_nat (l : List Nat) : canSort (natsL l) = true := by
  unfold canSort natsL
  simp only [List.all_map, Bool.and_eq_true, Bool.or_eq_true, List.all_eq_true, Function.comp]
  exact ⟨⟨fun x _ => rfl, fun x _ y _ => rfl⟩, .inr fun x _ => rfl⟩
theorem sort_nats (l : List Nat) : (natsL l).mergeSort D.le' = natsL (sortN l) := by
  unfold natsL sortN
  rw [List.map_mergeSort (s := D.le') (fun a _ b _ => rfl)]
theorem sortedL (l : List Nat) : gSorted [.lst (natsL l)] = some (.lst (natsL (sortN l))) := by
  show (if canSort (natsL l) = true then some (D.lst ((natsL l).mergeSort D.le')) else none) = _
  rw [if_pos (canSort_nat l), sort_nats]
theorem sortedT (l : List Nat) : gSorted [varsD l] = some (.lst (natsL (sortN l))) := by
  show (if canSort (natsL l) = true then some (D.lst ((natsL l).mergeSort D.le')) else none) = _
  rw [if_pos (canSort_nat l), sort_nats]
theorem sortN_mem {l : List Nat} {x : Nat} : x ∈ sortN l ↔ x ∈ l := (List.mergeSort_perm _ _).mem_iff
theorem sortN_len (l : List Nat) : (sortN l).length = l.length := List.length_mergeSort _
def atE (V : List Nat) (r : List Int) : Ev := V.map fun v => (v, r.getD v 0)
theorem fits_congr {r : List Int} {e e' : Ev} (h : ∀ p, p ∈ e ↔ p ∈ e') : fitsB r e = fitsB r e' := by
  unfold fitsB
  rw [Bool.eq_iff_iff, List.all_eq_true, List.all_eq_true]
  exact ⟨fun z p hp => z p ((h p).mpr hp), fun z p hp => z p ((h p).mp hp)⟩
theorem Wt_congr {s : List Nat} {ws : List Int} {e e' : Ev} (h : ∀ p, p ∈ e ↔ p ∈ e') : Wt s ws e = Wt s ws e' := by
  unfold Wt
  have : (fun p : List Int × Int => fitsB p.1 e) = fun p => fitsB p.1 e' := funext fun p => fits_congr h
  rw [this]
/-- the weight of the rows that are like r at V -/
def mW (s : List Nat) (ws : List Int) (V : List Nat) (r : List Int) : Int := Wt s ws (atE V r)
theorem mW_congr {s : List Nat} {ws : List Int} {V V' : List Nat} (r : List Int) (h : ∀ v, v ∈ V ↔ v ∈ V') : mW s ws V r = mW s ws V' r := Wt_congr fun p => by
  unfold atE
  rw [List.mem_map, List.mem_map]
  exact ⟨fun ⟨v, hv, e⟩ => ⟨v, (h v).mp hv, e⟩, fun ⟨v, hv, e⟩ => ⟨v, (h v).mpr hv, e⟩⟩
theorem below_at {n : Nat} {V : List Nat} {r : List Int} (h : ∀ v ∈ V, v < n) : Below n (atE V r) := fun p hp => by
  obtain ⟨v, hv, rfl⟩ := List.mem_map.mp hp
  exact h v hv
abbrev Say := List Nat × List Nat × List Nat
def sayD (x : Say) : D := .tup [varsD x.1, varsD x.2.1, varsD x.2.2]
structure SayB (n : Nat) (x : Say) : Prop where
  a : ∀ v ∈ x.1, v < n
  b : ∀ v ∈ x.2.1, v < n
  c : ∀ v ∈ x.2.2, v < n
  la : x.1.length ≤ 10
  lb : x.2.1.length ≤ 10
  lc : x.2.2.length ≤ 10
theorem at_ev (r : List Int) (V : List Nat) (hV : ∀ v ∈ V, v < r.length) : (atE V r).map pD = V.map fun (v : Nat) => D.tup [.int (v : Int), .int (r.getD v 0)] := by
  unfold atE
  rw [List.map_map]
  rfl
theorem event_of_s (r : List Int) (V : List Nat) (hV : ∀ v ∈ V, v < r.length) (S : Sto) : F_event_of [rowD r, varsD V] S = some (evD (atE (sortN V) r), S) := by
  have c := compF_all (g := gNm 2) (te := eTup (aCons (eVar 2) (aCons (eBin D.ix (bVar 0) (bVar 2)) aNil))) (ρ := [.sh (rowD r), .sh (varsD V), .un]) (S := S) (fun (v : Nat) => D.int (v : Int)) (fun (v : Nat) => D.tup [.int (v : Int), .int (r.getD v 0)]) (sortN V) fun v hv => by
    have hv' := hV v (sortN_mem.mp hv)
    refine ⟨[.sh (rowD r), .sh (varsD V), .sh (.int (v : Int))], rfl, pair_s (S1 := S) (S2 := S) rfl (eBin_of (S1 := S) (S2 := S) (d1 := rowD r) (d2 := .int (v : Int)) rfl rfl ?_)⟩
    unfold rowD
    rw [ix_tup (by rw [List.length_map]; exact hv'), List.getElem_map, List.getD_eq_getElem?_getD, List.getElem?_eq_getElem hv']
    rfl
  have it : iSeq (eCB gSorted (aCons (bVar 1) aNil)) [.sh (rowD r), .sh (varsD V), .un] S = some (natsL (sortN V), S) := iSeq_of (eCB_of (ds := [varsD V]) (S1 := S) rfl (sortedT V)) rfl
  unfold F_event_of b_event_of
  refine fnD_rt (S' := S) (sRet_of (d := evD (atE (sortN V) r)) (eCB_of (aCons_of (eLc_of (vs := [2]) it c) rfl) ?_)) rfl
  unfold evD
  rw [at_ev r _ fun v hv => hV v (sortN_mem.mp hv)]
  rfl
section
variable {s : List Nat} {ws : List Int}
theorem at_s (h : Wo s ws) (r : List Int) (hr : r.length = s.length) (V : List Nat) (hV : ∀ v ∈ V, v < s.length) {ρ : Rho} {S : Sto} {f : Ex} (h0 : eVar 0 ρ S = some (worldD s ws, S)) (h2 : eVar 2 ρ S = some (rowD r, S)) (hf : f ρ S = some (varsD V, S)) :
    eCall F_chance (aCons (eVar 0) (aCons (eCall F_event_of (aCons (eVar 2) (aCons f aNil))) aNil)) ρ S = some (frD (nf (mW s ws V r) ws.sum), S) := by
  have e := event_of_s r V (fun v hv => by rw [hr]; exact hV v hv) S
  have c := chance_s h (atE (sortN V) r) S (below_at fun v hv => hV v (sortN_mem.mp hv))
  have q : Wt s ws (atE (sortN V) r) = mW s ws V r := mW_congr r fun v => sortN_mem
  rw [q] at c
  exact eCall_of (aCons_of h0 (aCons_of (eCall_of (aCons_of h2 (aCons_of hf rfl)) e) rfl)) c
theorem law_at_s (h : Wo s ws) (r : List Int) (hr : r.length = s.length) (V : List Nat) (hV : ∀ v ∈ V, v < s.length) (S : Sto) : F__law_at [worldD s ws, varsD V, rowD r] S = some (frD (nf (mW s ws V r) ws.sum), S) := by
  have c := compF_all (g := gNm 3) (te := eTup (aCons (eVar 3) (aCons (eBin D.ix (bVar 2) (bVar 3)) aNil))) (ρ := [.sh (worldD s ws), .sh (varsD V), .sh (rowD r), .un]) (S := S) (fun (v : Nat) => D.int (v : Int)) (fun (v : Nat) => D.tup [.int (v : Int), .int (r.getD v 0)]) V fun v hv => by
    have hv' : v < r.length := by rw [hr]; exact hV v hv
    refine ⟨[.sh (worldD s ws), .sh (varsD V), .sh (rowD r), .sh (.int (v : Int))], rfl, pair_s (S1 := S) (S2 := S) rfl (eBin_of (S1 := S) (S2 := S) (d1 := rowD r) (d2 := .int (v : Int)) rfl rfl ?_)⟩
    unfold rowD
    rw [ix_tup (by rw [List.length_map]; exact hv'), List.getElem_map, List.getD_eq_getElem?_getD, List.getElem?_eq_getElem hv']
    rfl
  rw [← at_ev r V fun v hv => by rw [hr]; exact hV v hv] at c
  have l := eLc_of (vs := [3]) (it := iSeq (bVar 1)) (ρ := [.sh (worldD s ws), .sh (varsD V), .sh (rowD r), .un]) (S := S) rfl c
  unfold F__law_at b__law_at
  exact fnD_rt (S' := S) (sRet_of (eCall_of (aCons_of (S1 := S) rfl (aCons_of l rfl)) (law_chance_s h (atE V r) S (below_at hV)))) rfl
/-- broken at the row -/
def brk (s : List Nat) (ws : List Int) (x : Say) (r : List Int) : Bool :=
  !decide (tmF (nf (mW s ws (x.1 ++ x.2.2) r) ws.sum) (nf (mW s ws (x.2.1 ++ x.2.2) r) ws.sum) = tmF (nf (mW s ws (x.1 ++ x.2.1 ++ x.2.2) r) ws.sum) (nf (mW s ws x.2.2 r) ws.sum))
theorem fb_m (h : Wo s ws) (V : List Nat) (r : List Int) : Fb 10 (nf (mW s ws V r) ws.sum) := nf_fb (h.wt_bd _) h.pos h.sum_bd
theorem nn_m (h : Wo s ws) (V : List Nat) (r : List Int) : 0 ≤ (nf (mW s ws V r) ws.sum).1 := nf_nn h.pos (h.wt_nn _)
theorem ne_fr (p q : Int × Int) : D.ne (frD p) (frD q) = some (.bl (!decide (p = q))) := by
  have e := ne_row [p.1, p.2] [q.1, q.2]
  have e2 : decide ([p.1, p.2] = [q.1, q.2]) = decide (p = q) := decide_eq_decide.mpr ⟨fun z => by
    injection z with z1 z2
    injection z2 with z2 _
    exact Prod.ext z1 z2, fun z => by rw [z]⟩
  rw [e2] at e
  exact e
theorem add_vars {a b : List Nat} (h : a.length + b.length ≤ 1000) : D.add (varsD a) (varsD b) = some (varsD (a ++ b)) := by
  unfold varsD
  rw [add_tup (szle (by rw [List.length_map, List.length_map]; omega)), List.map_append]
theorem is_broken_s (h : Wo s ws) {x : Say} (hx : SayB s.length x) {r : List Int} (hr : r.length = s.length) (S : Sto) : F_is_broken [worldD s ws, sayD x, rowD r] S = some (.bl (brk s ws x r), S) := by
  obtain ⟨a, b, c⟩ := x
  obtain ⟨ha, hb, hc, la, lb, lc⟩ := hx
  have la : a.length ≤ 10 := la
  have lb : b.length ≤ 10 := lb
  have lc : c.length ≤ 10 := lc
  have iac : ∀ v ∈ a ++ c, v < s.length := fun v hv => (List.mem_append.mp hv).elim (ha v) (hc v)
  have ibc : ∀ v ∈ b ++ c, v < s.length := fun v hv => (List.mem_append.mp hv).elim (hb v) (hc v)
  have iab : ∀ v ∈ a ++ b ++ c, v < s.length := fun v hv => (List.mem_append.mp hv).elim (fun z => (List.mem_append.mp z).elim (ha v) (hb v)) (hc v)
  have q : ∀ z6 z7 : Sl, ∀ {f1 f2 : Ex} {V1 V2 : List Nat}, (∀ v ∈ V1, v < s.length) → (∀ v ∈ V2, v < s.length) → f1 [.sh (worldD s ws), .sh (sayD (a, b, c)), .sh (rowD r), .sh (varsD a), .sh (varsD b), .sh (varsD c), z6, z7] S = some (varsD V1, S) → f2 [.sh (worldD s ws), .sh (sayD (a, b, c)), .sh (rowD r), .sh (varsD a), .sh (varsD b), .sh (varsD c), z6, z7] S = some (varsD V2, S) →
      eCall F_times (aCons (eCall F_chance (aCons (eVar 0) (aCons (eCall F_event_of (aCons (eVar 2) (aCons f1 aNil))) aNil))) (aCons (eCall F_chance (aCons (eVar 0) (aCons (eCall F_event_of (aCons (eVar 2) (aCons f2 aNil))) aNil))) aNil)) [.sh (worldD s ws), .sh (sayD (a, b, c)), .sh (rowD r), .sh (varsD a), .sh (varsD b), .sh (varsD c), z6, z7] S = some (frD (tmF (nf (mW s ws V1 r) ws.sum) (nf (mW s ws V2 r) ws.sum)), S) := fun z6 z7 {f1 f2 V1 V2} i1 i2 e1 e2 =>
    eCall_of (aCons_of (at_s h r hr V1 i1 rfl rfl e1) (aCons_of (at_s h r hr V2 i2 rfl rfl e2) rfl)) (times_s S (fb_m h V1 r) (fb_m h V2 r) (by decide))
  unfold F_is_broken b_is_broken
  refine fnD_rt (S' := S) ?_ rfl
  refine sSeq_of (ρ' := [.sh (worldD s ws), .sh (sayD (a, b, c)), .sh (rowD r), .sh (varsD a), .sh (varsD b), .sh (varsD c), .un, .un]) (S1 := S) (sAsg_of (d := sayD (a, b, c)) (S1 := S) rfl rfl) ?_
  refine sSeq_of (sAsg_of (q .un .un iac ibc (eBin_of (S1 := S) (S2 := S) (d1 := varsD a) (d2 := varsD c) rfl rfl (add_vars (by show a.length + c.length ≤ 1000; omega))) (eBin_of (S1 := S) (S2 := S) (d1 := varsD b) (d2 := varsD c) rfl rfl (add_vars (by show b.length + c.length ≤ 1000; omega)))) rfl) ?_
  refine sSeq_of (sAsg_of (q (.sh (frD (tmF (nf (mW s ws (a ++ c) r) ws.sum) (nf (mW s ws (b ++ c) r) ws.sum)))) .un iab hc (eBin_of (S1 := S) (S2 := S) (d1 := varsD (a ++ b)) (d2 := varsD c) (eBin_of (S1 := S) (S2 := S) (d1 := varsD a) (d2 := varsD b) rfl rfl (add_vars (by show a.length + b.length ≤ 1000; omega))) rfl (add_vars (by rw [List.length_append]; show a.length + b.length + c.length ≤ 1000; omega))) rfl) rfl) ?_
  exact sRet_of (eBin_of (S1 := S) (S2 := S) (d1 := frD _) (d2 := frD _) rfl rfl (ne_fr _ _))
theorem law_fails_at_s (h : Wo s ws) {x : Say} (hx : SayB s.length x) {r : List Int} (hr : r.length = s.length) (S : Sto) : F__law_fails_at [worldD s ws, sayD x, rowD r] S = some (.bl (brk s ws x r), S) := by
  obtain ⟨a, b, c⟩ := x
  obtain ⟨ha, hb, hc, la, lb, lc⟩ := hx
  have la : a.length ≤ 10 := la
  have lb : b.length ≤ 10 := lb
  have lc : c.length ≤ 10 := lc
  have iac : ∀ v ∈ a ++ c, v < s.length := fun v hv => (List.mem_append.mp hv).elim (ha v) (hc v)
  have ibc : ∀ v ∈ b ++ c, v < s.length := fun v hv => (List.mem_append.mp hv).elim (hb v) (hc v)
  have iab : ∀ v ∈ a ++ b ++ c, v < s.length := fun v hv => (List.mem_append.mp hv).elim (fun z => (List.mem_append.mp z).elim (ha v) (hb v)) (hc v)
  have q : ∀ z6 : Sl, ∀ {f1 f2 : Ex} {V1 V2 : List Nat}, (∀ v ∈ V1, v < s.length) → (∀ v ∈ V2, v < s.length) → f1 [.sh (worldD s ws), .sh (sayD (a, b, c)), .sh (rowD r), .sh (varsD a), .sh (varsD b), .sh (varsD c), z6] S = some (varsD V1, S) → f2 [.sh (worldD s ws), .sh (sayD (a, b, c)), .sh (rowD r), .sh (varsD a), .sh (varsD b), .sh (varsD c), z6] S = some (varsD V2, S) →
      eCall F__law_times (aCons (eCall F__law_at (aCons (eVar 0) (aCons f1 (aCons (eVar 2) aNil)))) (aCons (eCall F__law_at (aCons (eVar 0) (aCons f2 (aCons (eVar 2) aNil)))) aNil)) [.sh (worldD s ws), .sh (sayD (a, b, c)), .sh (rowD r), .sh (varsD a), .sh (varsD b), .sh (varsD c), z6] S = some (frD (tmF (nf (mW s ws V1 r) ws.sum) (nf (mW s ws V2 r) ws.sum)), S) := fun z6 {f1 f2 V1 V2} i1 i2 e1 e2 =>
    eCall_of (aCons_of (eCall_of (aCons_of (S1 := S) rfl (aCons_of e1 (aCons_of (S1 := S) rfl rfl))) (law_at_s h r hr V1 i1 S)) (aCons_of (eCall_of (aCons_of (S1 := S) rfl (aCons_of e2 (aCons_of (S1 := S) rfl rfl))) (law_at_s h r hr V2 i2 S)) rfl)) (law_times_s S (fb_m h V1 r) (fb_m h V2 r) (nn_m h V1 r) (nn_m h V2 r) (by decide))
  unfold F__law_fails_at b__law_fails_at
  refine fnD_rt (S' := S) ?_ rfl
  refine sSeq_of (ρ' := [.sh (worldD s ws), .sh (sayD (a, b, c)), .sh (rowD r), .sh (varsD a), .sh (varsD b), .sh (varsD c), .un]) (S1 := S) (sAsg_of (d := sayD (a, b, c)) (S1 := S) rfl rfl) ?_
  refine sSeq_of (sAsg_of (q .un iac ibc (eBin_of (S1 := S) (S2 := S) (d1 := varsD a) (d2 := varsD c) rfl rfl (add_vars (by show a.length + c.length ≤ 1000; omega))) (eBin_of (S1 := S) (S2 := S) (d1 := varsD b) (d2 := varsD c) rfl rfl (add_vars (by show b.length + c.length ≤ 1000; omega)))) rfl) ?_
  exact sRet_of (eBin_of (S1 := S) (S2 := S) (d1 := frD _) rfl (q (.sh (frD (tmF (nf (mW s ws (a ++ c) r) ws.sum) (nf (mW s ws (b ++ c) r) ws.sum)))) iab hc (eBin_of (S1 := S) (S2 := S) (d1 := varsD (a ++ b)) (d2 := varsD c) (eBin_of (S1 := S) (S2 := S) (d1 := varsD a) (d2 := varsD b) rfl rfl (add_vars (by show a.length + b.length ≤ 1000; omega))) rfl (add_vars (by rw [List.length_append]; show a.length + b.length + c.length ≤ 1000; omega))) rfl) (ne_fr _ _))
end
end W13

set_option Elab.async false
set_option linter.all false
set_option maxRecDepth 100000
namespace W13
open DL
open L2 (atI atI_nat ixN)
/-- a paper: the first row that breaks it, or none -/
def hpD (o : Option (List Int)) : D := match o with
  | some r => .tup [.str "fails", rowD r]
  | none => .tup [.str "holds"]
theorem sfh : ("fails" : PySem.Str) ≠ ("holds" : PySem.Str) := by decide +kernel
theorem str_ne {x y : PySem.Str} (h : x ≠ y) : D.str x ≠ D.str y := fun e => h (D.str.inj e)
theorem in12 (n : Nat) : D.notInA (.int (n : Int)) (.tup [.int 1, .int 2]) = some (.bl (!(decide (n = 1) || decide (n = 2)))) := by
  show D.notIn (.int (n : Int)) (.tup [.int 1, .int 2]) = _
  unfold D.notIn
  simp only [D.fit, D.fits, Bool.and_self, if_true, List.any_cons, List.any_nil, Bool.or_false]
  congr 3
  unfold D.eqv
  simp only [D.toP, PySem.PyData.eqv]
  congr 1
  · rw [Bool.eq_iff_iff, beq_iff_eq, decide_eq_true_eq]; omega
  · rw [Bool.eq_iff_iff, beq_iff_eq, decide_eq_true_eq]; omega
theorem eq_holds (o : Option (List Int)) : D.eq (hpD o) (.tup [.str "holds"]) = some (.bl o.isNone) := by
  cases o with
  | none =>
    have f : ((hpD none).fit 60 && (D.tup [D.str "holds"]).fit 60) = true := by
      unfold hpD
      simp only [D.fit, D.fits, Bool.and_self]
    unfold D.eq
    rw [if_pos f]
    unfold hpD
    simp [D.eqv, D.toP, D.toPs, PySem.PyData.eqv, PySem.PyData.eqvAll]
  | some e =>
    have f : ((hpD (some e)).fit 60 && (D.tup [D.str "holds"]).fit 60) = true := by
      unfold hpD rowD
      simp only [D.fit, D.fits, fits_ints, Bool.and_self]
    unfold D.eq
    rw [if_pos f]
    unfold hpD
    simp only [D.eqv, D.toP, D.toPs, PySem.PyData.eqv, PySem.PyData.eqvAll, Bool.and_false, Option.isNone]
section
variable {s : List Nat} {ws : List Int}
def ffB (s : List Nat) (ws : List Int) (x : Say) : Option (List Int) := (rowsM [[]] s).find? (brk s ws x)
theorem holding_paper_s (h : Wo s ws) {x : Say} (hx : SayB s.length x) (S : Sto) : F_holding_paper [worldD s ws, sayD x] S = some (hpD (ffB s ws x), S) := by
  have r := rows_of_s s S h.sm
  have it : iSeq (eCall F_rows_of (aCons (eBin D.ix (bVar 0) (eC (.int 0))) aNil)) [.sh (worldD s ws), .sh (sayD x), .un] S = some ((rowsM [[]] s).map rowD, S) := iSeq_of (eCall_of (aCons_of (eBin_of (S1 := S) (S2 := S) (d1 := worldD s ws) (d2 := .int 0) rfl rfl (at0 _ _)) rfl) r) rfl
  obtain ⟨f1, f2⟩ := find_for (g := gNm 2) (b := sIf (tTru (eCall F_is_broken (aCons (eVar 0) (aCons (eVar 1) (aCons (eVar 2) aNil))))) (sRet (eTup (aCons (eC (.str "fails")) (aCons (eVar 2) aNil)))) sNx) (S := S) rowD (brk s ws x) (fun r => D.tup [.str "fails", rowD r]) (fun z : Sl => [.sh (worldD s ws), .sh (sayD x), z]) (rowsM [[]] s) .un fun q hq t => by
    have b := is_broken_s h hx (row_len hq) S
    have c : tTru (eCall F_is_broken (aCons (eVar 0) (aCons (eVar 1) (aCons (eVar 2) aNil)))) [.sh (worldD s ws), .sh (sayD x), .sh (rowD q)] S = some (brk s ws x q, S) := tru_bl (eCall_of (ds := [worldD s ws, sayD x, rowD q]) (S1 := S) rfl b)
    refine ⟨[.sh (worldD s ws), .sh (sayD x), .sh (rowD q)], rfl, fun e => ?_, fun e => ⟨.sh (rowD q), ?_⟩⟩
    · rw [e] at c
      exact sIf_t c (sRet_of (pair_s (S1 := S) (S2 := S) rfl rfl))
    · rw [e] at c
      exact cond_f c
  unfold F_holding_paper b_holding_paper
  refine fnD_rt (S' := S) ?_ rfl
  unfold ffB
  cases e : (rowsM [[]] s).find? (brk s ws x) with
  | some q => exact sSeq_rt (sFor_of it (f1 q e))
  | none =>
    obtain ⟨t', e2⟩ := f2 e
    exact sSeq_of (sFor_of it e2) (sRet_of (tup1 (S1 := S) rfl))
/-- what is right of papers -/
def JH (s : List Nat) (ws : List Int) (x : Say) (d : D) : Prop := (d = .tup [.str "holds"] ∧ ffB s ws x = none) ∨ ∃ row, d = .tup [.str "fails", rowD row] ∧ row.length = s.length ∧ RowOk s row ∧ brk s ws x row = true
theorem jh_len {x : Say} {d : D} (h : JH s ws x d) : (d = .tup [.str "holds"]) ∨ ∃ b, d = .tup [.str "fails", b] := by
  rcases h with ⟨rfl, _⟩ | ⟨row, rfl, _⟩
  · exact .inl rfl
  · exact .inr ⟨_, rfl⟩
def goodI (d : D) (n : Nat) : Bool := match d with
  | .int i => decide (0 ≤ i) && decide (i < (n : Int))
  | _ => false
theorem good_row : ∀ {ys : List D} {s : List Nat}, ys.length = s.length → ((ys.zip s).all fun p => goodI p.1 p.2) = true → ∃ row : List Int, ys = row.map D.int ∧ row.length = s.length ∧ RowOk s row
  | [], [], _, _ => ⟨[], rfl, rfl, RowOk.nil _⟩
  | y :: ys, n :: s, hl, h => by
    rw [List.zip_cons_cons, List.all_cons, Bool.and_eq_true] at h
    obtain ⟨row, rfl, l, ok⟩ := good_row (by simpa using hl) h.2
    have h1 := h.1
    cases y with
    | int i =>
      unfold goodI at h1
      simp only [Bool.and_eq_true, decide_eq_true_eq] at h1
      refine ⟨i :: row, rfl, by rw [List.length_cons, List.length_cons, l], fun j hj => ?_⟩
      cases j with
      | zero => simpa using h1
      | succ j => simpa using ok j (by simpa using hj)
    | _ => simp [goodI] at h1
theorem row_good : ∀ {row : List Int} {s : List Nat}, row.length = s.length → RowOk s row → (((row.map D.int).zip s).all fun p => goodI p.1 p.2) = true
  | [], [], _, _ => rfl
  | i :: row, n :: s, hl, h => by
    rw [List.map_cons, List.zip_cons_cons, List.all_cons, Bool.and_eq_true]
    refine ⟨?_, row_good (by simpa using hl) fun j hj => ?_⟩
    · have := h 0 (by simp)
      unfold goodI
      simpa using this
    · simpa using h (j + 1) (by simpa using hj)
theorem zip2 (ys : List D) (s : List Nat) : List.zipWith (fun x y => D.tup [x, y]) ys (s.map fun (n : Nat) => D.int (n : Int)) = (ys.zip s).map fun p => D.tup [p.1, .int (p.2 : Int)] := by
  rw [List.zipWith_map_right, ← List.map_uncurry_zip_eq_zipWith]
  rfl
theorem judge_s (h : Wo s ws) {x : Say} (hx : SayB s.length x) {d : D} (hp : Pap d) (S : Sto) : ∃ k : Bool, F_judge_holding [worldD s ws, sayD x, d] S = some (.bl k, S) ∧ (k = true ↔ JH s ws x d) := by
  have fin : ∀ {k : Bool}, b_judge_holding [.sh (worldD s ws), .sh (sayD x), .sh d, .un, .un] S = some (.rt (.bl k) S) → F_judge_holding [worldD s ws, sayD x, d] S = some (.bl k, S) := fun e => fnD_rt e rfl
  have c1 : tNo (tTru (eCB gIsi (aCons (bVar 2) (aCons (eC (.ty "tuple")) aNil)))) [.sh (worldD s ws), .sh (sayD x), .sh d, .un, .un] S = some (!d.isTp, S) := tNo_of (tru_bl (eCB_of (ds := [d, .ty "tuple"]) (S1 := S) rfl (isiT hp)))
  have no : ∀ {Q : Prop}, (Q → False) → ((false = true) ↔ Q) := fun f => ⟨fun e => absurd e Bool.false_ne_true, fun q => (f q).elim⟩
  unfold b_judge_holding at fin
  by_cases ht : ∃ xs, d = .tup xs
  · obtain ⟨xs, rfl⟩ := ht
    obtain ⟨_, hxs⟩ := ok_tup.mp hp
    have ln : ∀ {z3 z4 : Sl}, eCB gLen (aCons (bVar 2) aNil) [.sh (worldD s ws), .sh (sayD x), .sh (.tup xs), z3, z4] S = some (.int (xs.length : Int), S) := eCB_of (ds := [.tup xs]) (S1 := S) rfl (len_d xs)
    have c2 : tBl (eBin D.notInA (eCB gLen (aCons (bVar 2) aNil)) (eTup (aCons (eC (.int 1)) (aCons (eC (.int 2)) aNil)))) [.sh (worldD s ws), .sh (sayD x), .sh (.tup xs), .un, .un] S = some (!(decide (xs.length = 1) || decide (xs.length = 2)), S) := tBl_of (eBin_of (S2 := S) ln (pair_s (S1 := S) (S2 := S) rfl rfl) (in12 xs.length))
    by_cases l12 : xs.length = 1 ∨ xs.length = 2
    · have e12 : (!(decide (xs.length = 1) || decide (xs.length = 2))) = false := by
        rcases l12 with z | z <;> simp [z]
      rw [e12] at c2
      obtain ⟨a, rest, rfl⟩ : ∃ a rest, xs = a :: rest := by
        cases xs with
        | nil => simp at l12
        | cons a rest => exact ⟨a, rest, rfl⟩
      have ha : a.ok 8 4 = true := hxs a (.head _)
      have a0 : ∀ {z3 z4 : Sl}, eBin D.ix (bVar 2) (eC (.int 0)) [.sh (worldD s ws), .sh (sayD x), .sh (.tup (a :: rest)), z3, z4] S = some (a, S) := eBin_of (S1 := S) (S2 := S) (d1 := .tup (a :: rest)) (d2 := .int 0) rfl rfl (at0 _ _)
      have c3 : tNo (tTru (eCB gIsi (aCons (eBin D.ix (bVar 2) (eC (.int 0))) (aCons (eC (.ty "str")) aNil)))) [.sh (worldD s ws), .sh (sayD x), .sh (.tup (a :: rest)), .un, .un] S = some (!a.isS, S) := tNo_of (tru_bl (isi_of a0 (isiS ha)))
      have c := tOr_f c1 (tOr_f c2 c3)
      by_cases hs' : ∃ y, a = .str y
      · obtain ⟨y, rfl⟩ := hs'
        have q1 : tBl (eBin D.eq (eBin D.ix (bVar 2) (eC (.int 0))) (eC (.str "holds"))) [.sh (worldD s ws), .sh (sayD x), .sh (.tup (.str y :: rest)), .un, .un] S = some (decide (y = "holds"), S) := tBl_of (eBin_of (S1 := S) (S2 := S) a0 rfl (eq_strs _ _))
        by_cases yn : y = ("holds" : PySem.Str)
        · rw [decide_eq_true yn] at q1
          subst yn
          have hpp := holding_paper_s h hx S
          have l1 : eBin D.eq (eCB gLen (aCons (bVar 2) aNil)) (eC (.int 1)) [.sh (worldD s ws), .sh (sayD x), .sh (.tup (.str "holds" :: rest)), .un, .un] S = some (.bl (decide (((D.str "holds" :: rest).length : Int) = 1)), S) := eBin_of (S2 := S) (d2 := .int 1) ln rfl (eq_int _ _)
          cases rest with
          | nil =>
            have e2 : eBin D.eq (eCall F_holding_paper (aCons (eVar 0) (aCons (eVar 1) aNil))) (bVar 2) [.sh (worldD s ws), .sh (sayD x), .sh (.tup [.str "holds"]), .un, .un] S = some (.bl (ffB s ws x).isNone, S) := eBin_of (S1 := S) (S2 := S) (eCall_of (ds := [worldD s ws, sayD x]) (S1 := S) rfl hpp) rfl (eq_holds _)
            have l1' : decide ((([D.str "holds"] : List D).length : Int) = 1) = true := by decide
            rw [l1'] at l1
            refine ⟨_, fin (sSeq_of (sIf_f c rfl) (sSeq_rt (sIf_t q1 (sRet_of (eAn_t l1 e2))))), ?_⟩
            rw [Option.isNone_iff_eq_none]
            constructor
            · intro z; exact .inl ⟨rfl, z⟩
            · rintro (⟨_, z⟩ | ⟨row, z, _⟩)
              · exact z
              · have := congrArg List.length (D.tup.inj z)
                simp at this
          | cons b r2 =>
            have l1' : decide (((D.str "holds" :: b :: r2).length : Int) = 1) = false := by
              simp only [List.length_cons]
              exact decide_eq_false (by omega)
            rw [l1'] at l1
            refine ⟨false, fin (sSeq_of (sIf_f c rfl) (sSeq_rt (sIf_t q1 (sRet_of (eAn_f l1))))), no fun z => ?_⟩
            rcases jh_len z with z | ⟨b', z⟩
            · have := congrArg List.length (D.tup.inj z)
              simp at this
            · injection D.tup.inj z with z1 _
              exact str_ne sfh z1.symm
        · rw [decide_eq_false yn] at q1
          have d1 : tBl (eBin D.ne (eBin D.ix (bVar 2) (eC (.int 0))) (eC (.str "fails"))) [.sh (worldD s ws), .sh (sayD x), .sh (.tup (.str y :: rest)), .un, .un] S = some (!decide (y = "fails"), S) := tBl_of (eBin_of (S1 := S) (S2 := S) a0 rfl (ne_strs _ _))
          by_cases yf : y = ("fails" : PySem.Str)
          · rw [decide_eq_true yf] at d1
            subst yf
            have d2 : tBl (eBin D.ne (eCB gLen (aCons (bVar 2) aNil)) (eC (.int 2))) [.sh (worldD s ws), .sh (sayD x), .sh (.tup (.str "fails" :: rest)), .un, .un] S = some (!decide (((D.str "fails" :: rest).length : Int) = 2), S) := tBl_of (eBin_of (S2 := S) (d2 := .int 2) ln rfl (ne_int _ _))
            by_cases l2 : rest.length = 1
            · obtain ⟨b, rfl⟩ : ∃ b, rest = [b] := by
                cases rest with
                | nil => simp at l2
                | cons b r2 => cases r2 with
                  | nil => exact ⟨b, rfl⟩
                  | cons b2 r3 => simp at l2
              have l2' : (!decide (((D.str "fails" :: [b]).length : Int) = 2)) = false := rfl
              rw [l2'] at d2
              have hb : b.ok 8 4 = true := hxs b (.tail _ (.head _))
              have b1 : ∀ {z3 z4 : Sl}, eBin D.ix (bVar 2) (eC (.int 1)) [.sh (worldD s ws), .sh (sayD x), .sh (.tup [.str "fails", b]), z3, z4] S = some (b, S) := eBin_of (S1 := S) (S2 := S) (d1 := .tup [.str "fails", b]) (d2 := .int 1) rfl rfl (at1 _ _ _)
              have d3 : tNo (tTru (eCB gIsi (aCons (eBin D.ix (bVar 2) (eC (.int 1))) (aCons (eC (.ty "tuple")) aNil)))) [.sh (worldD s ws), .sh (sayD x), .sh (.tup [.str "fails", b]), .un, .un] S = some (!b.isTp, S) := tNo_of (tru_bl (isi_of b1 (isiT hb)))
              by_cases bt : ∃ ys, b = .tup ys
              · obtain ⟨ys, rfl⟩ := bt
                have sz0 : ∀ {z3 z4 : Sl}, eBin D.ix (bVar 0) (eC (.int 0)) [.sh (worldD s ws), .sh (sayD x), .sh (.tup [.str "fails", .tup ys]), z3, z4] S = some (szD s, S) := eBin_of (S1 := S) (S2 := S) (d1 := worldD s ws) (d2 := .int 0) rfl rfl (at0 _ _)
                have d4 : tBl (eBin D.ne (eCB gLen (aCons (eBin D.ix (bVar 2) (eC (.int 1))) aNil)) (eCB gLen (aCons (eBin D.ix (bVar 0) (eC (.int 0))) aNil))) [.sh (worldD s ws), .sh (sayD x), .sh (.tup [.str "fails", .tup ys]), .un, .un] S = some (!decide ((ys.length : Int) = (s.length : Int)), S) := tBl_of (eBin_of (S1 := S) (S2 := S) (eCB_of (aCons_of b1 rfl) (len_d ys)) (eCB_of (aCons_of sz0 rfl) (by simp only [gLen, szD, List.length_map])) (ne_int _ _))
                by_cases yl : ys.length = s.length
                · have yl' : (!decide ((ys.length : Int) = (s.length : Int))) = false := by rw [decide_eq_true (by omega)]; rfl
                  rw [yl'] at d4
                  have cc := tOr_f d1 (tOr_f d2 (tOr_f d3 d4))
                  have hys : ∀ q ∈ ys, q.ok 8 3 = true := (ok_tup.mp hb).2
                  have it : iZpA (aCons (eBin D.ix (bVar 2) (eC (.int 1))) (aCons (eBin D.ix (bVar 0) (eC (.int 0))) aNil)) [.sh (worldD s ws), .sh (sayD x), .sh (.tup [.str "fails", .tup ys]), .un, .un] S = some ((ys.zip s).map fun p => D.tup [p.1, .int (p.2 : Int)], S) := by
                    unfold iZpA
                    rw [aCons_of b1 (aCons_of sz0 rfl), Option.bind_some, ← zip2]
                    rfl
                  have al := all_b (ρ := [.sh (worldD s ws), .sh (sayD x), .sh (.tup [.str "fails", .tup ys]), .un, .un]) (S := S) (g := gTp 2 (gsCons (gNm 3) (gsCons (gNm 4) gsNil))) (te := eAn (eCall F_is_integer (aCons (eVar 3) aNil)) (eChain D.le D.lt (eC (.int 0)) (bVar 3) (bVar 4))) (w := [3, 4]) (fun p : D × Nat => D.tup [p.1, .int (p.2 : Int)]) (fun p => goodI p.1 p.2) (ys.zip s) it fun p hpz => by
                    refine ⟨[.sh (worldD s ws), .sh (sayD x), .sh (.tup [.str "fails", .tup ys]), .sh p.1, .sh (.int (p.2 : Int))], rfl, ?_⟩
                    have ii := is_int_s (hys p.1 (List.of_mem_zip hpz).1) S
                    have e1 : eCall F_is_integer (aCons (eVar 3) aNil) [.sh (worldD s ws), .sh (sayD x), .sh (.tup [.str "fails", .tup ys]), .sh p.1, .sh (.int (p.2 : Int))] S = some (.bl p.1.isI, S) := eCall_of (ds := [p.1]) (S1 := S) rfl ii
                    by_cases isi : ∃ i, p.1 = .int i
                    · obtain ⟨i, ei⟩ := isi
                      rw [ei] at e1 ⊢
                      exact eAn_t e1 (chain_ll (S := S) rfl rfl fun _ => rfl)
                    · have e0 : p.1.isI = false := by
                        generalize p.1 = pd at isi
                        cases pd <;> first | rfl | exact absurd ⟨_, rfl⟩ isi
                      have e00 : goodI p.1 p.2 = false := by
                        generalize p.1 = pd at isi
                        cases pd <;> first | rfl | exact absurd ⟨_, rfl⟩ isi
                      rw [e0] at e1
                      rw [e00]
                      exact eAn_f e1
                  by_cases gd : ((ys.zip s).all fun p => goodI p.1 p.2) = true
                  · rw [gd] at al
                    obtain ⟨row, rfl, rl, ro⟩ := good_row yl gd
                    have bk := is_broken_s h hx rl S
                    refine ⟨brk s ws x row, fin (sSeq_of (sIf_f c rfl) (sSeq_of (sIf_f q1 rfl) (sSeq_of (sIf_f cc rfl) (sSeq_of (sIf_f (tNo_of (tru_bl al)) rfl) (sRet_of (eCall_of (aCons_of (S1 := S) rfl (aCons_of (S1 := S) rfl (aCons_of b1 rfl))) bk)))))), ?_⟩
                    constructor
                    · intro z; exact .inr ⟨row, rfl, rl, ro, z⟩
                    · rintro (⟨z, _⟩ | ⟨row', z, _, _, z2⟩)
                      · have := congrArg List.length (D.tup.inj z)
                        simp at this
                      · have e : rowD row = rowD row' := by
                          injection D.tup.inj z with _ z
                          injection z with z _
                        have e2 : row = row' := by
                          have := List.map_inj_right (f := D.int) (fun a b h => D.int.inj h) |>.mp (D.tup.inj e)
                          exact this
                        rw [e2]; exact z2
                  · rw [Bool.eq_false_iff.mpr gd] at al
                    refine ⟨false, fin (sSeq_of (sIf_f c rfl) (sSeq_of (sIf_f q1 rfl) (sSeq_of (sIf_f cc rfl) (sSeq_rt (sIf_t (tNo_of (tru_bl al)) (sRet_of (S1 := S) rfl)))))), no fun z => ?_⟩
                    rcases z with ⟨z, _⟩ | ⟨row, z, rl, ro, _⟩
                    · have := congrArg List.length (D.tup.inj z)
                      simp at this
                    · injection D.tup.inj z with _ z
                      injection z with z _
                      rw [D.tup.inj z] at gd
                      exact gd (row_good rl ro)
                · have yl' : (!decide ((ys.length : Int) = (s.length : Int))) = true := by rw [decide_eq_false (by omega)]; rfl
                  rw [yl'] at d4
                  have cc := tOr_f d1 (tOr_f d2 (tOr_f d3 d4))
                  refine ⟨false, fin (sSeq_of (sIf_f c rfl) (sSeq_of (sIf_f q1 rfl) (sSeq_rt (sIf_t cc (sRet_of (S1 := S) rfl))))), no fun z => ?_⟩
                  rcases z with ⟨z, _⟩ | ⟨row, z, rl, _⟩
                  · have := congrArg List.length (D.tup.inj z)
                    simp at this
                  · injection D.tup.inj z with _ z
                    injection z with z _
                    rw [D.tup.inj z, List.length_map] at yl
                    exact yl rl
              · have b0 : b.isTp = false := by
                  cases b <;> first | rfl | exact absurd ⟨_, rfl⟩ bt
                rw [b0] at d3
                have cc := tOr_f d1 (tOr_f d2 (tOr_t (t2 := tBl (eBin D.ne (eCB gLen (aCons (eBin D.ix (bVar 2) (eC (.int 1))) aNil)) (eCB gLen (aCons (eBin D.ix (bVar 0) (eC (.int 0))) aNil)))) d3))
                refine ⟨false, fin (sSeq_of (sIf_f c rfl) (sSeq_of (sIf_f q1 rfl) (sSeq_rt (sIf_t cc (sRet_of (S1 := S) rfl))))), no fun z => ?_⟩
                rcases z with ⟨z, _⟩ | ⟨row, z, _⟩
                · have := congrArg List.length (D.tup.inj z)
                  simp at this
                · injection D.tup.inj z with _ z
                  injection z with z _
                  exact bt ⟨_, z⟩
            · have l2' : (!decide (((D.str "fails" :: rest).length : Int) = 2)) = true := by
                rw [decide_eq_false (by rw [List.length_cons]; omega)]
                rfl
              rw [l2'] at d2
              have cc := tOr_f d1 (tOr_t (t2 := DL.tOr (tNo (tTru (eCB gIsi (aCons (eBin D.ix (bVar 2) (eC (.int 1))) (aCons (eC (.ty "tuple")) aNil))))) (tBl (eBin D.ne (eCB gLen (aCons (eBin D.ix (bVar 2) (eC (.int 1))) aNil)) (eCB gLen (aCons (eBin D.ix (bVar 0) (eC (.int 0))) aNil))))) d2)
              refine ⟨false, fin (sSeq_of (sIf_f c rfl) (sSeq_of (sIf_f q1 rfl) (sSeq_rt (sIf_t cc (sRet_of (S1 := S) rfl))))), no fun z => ?_⟩
              rcases jh_len z with z | ⟨b', z⟩
              · injection D.tup.inj z with z1 _
                exact str_ne sfh z1
              · injection D.tup.inj z with _ z
                rw [z] at l2
                exact l2 rfl
          · rw [decide_eq_false yf] at d1
            have cc := tOr_t (t2 := DL.tOr (tBl (eBin D.ne (eCB gLen (aCons (bVar 2) aNil)) (eC (.int 2)))) (DL.tOr (tNo (tTru (eCB gIsi (aCons (eBin D.ix (bVar 2) (eC (.int 1))) (aCons (eC (.ty "tuple")) aNil))))) (tBl (eBin D.ne (eCB gLen (aCons (eBin D.ix (bVar 2) (eC (.int 1))) aNil)) (eCB gLen (aCons (eBin D.ix (bVar 0) (eC (.int 0))) aNil)))))) d1
            refine ⟨false, fin (sSeq_of (sIf_f c rfl) (sSeq_of (sIf_f q1 rfl) (sSeq_rt (sIf_t cc (sRet_of (S1 := S) rfl))))), no fun z => ?_⟩
            rcases jh_len z with z | ⟨b', z⟩
            · injection D.tup.inj z with z1 _
              exact yn (D.str.inj z1)
            · injection D.tup.inj z with z1 _
              exact yf (D.str.inj z1)
      · have a00 : a.isS = false := by
          cases a <;> first | rfl | exact absurd ⟨_, rfl⟩ hs'
        rw [a00] at c
        refine ⟨false, fin (sSeq_rt (sIf_t c (sRet_of (S1 := S) rfl))), no fun z => ?_⟩
        rcases jh_len z with z | ⟨b', z⟩
        · injection D.tup.inj z with z1 _
          exact hs' ⟨_, z1⟩
        · injection D.tup.inj z with z1 _
          exact hs' ⟨_, z1⟩
    · have e12 : (!(decide (xs.length = 1) || decide (xs.length = 2))) = true := by
        rw [decide_eq_false fun z => l12 (.inl z), decide_eq_false fun z => l12 (.inr z)]
        rfl
      rw [e12] at c2
      have c := tOr_f c1 (tOr_t (t2 := tNo (tTru (eCB gIsi (aCons (eBin D.ix (bVar 2) (eC (.int 0))) (aCons (eC (.ty "str")) aNil))))) c2)
      refine ⟨false, fin (sSeq_rt (sIf_t c (sRet_of (S1 := S) rfl))), no fun z => l12 ?_⟩
      rcases jh_len z with z | ⟨b', z⟩
      · exact .inl (by rw [D.tup.inj z]; rfl)
      · exact .inr (by rw [D.tup.inj z]; rfl)
  · have t0 : d.isTp = false := by
      cases d <;> first | rfl | exact absurd ⟨_, rfl⟩ ht
    rw [t0] at c1
    have c := tOr_t (t2 := DL.tOr (tBl (eBin D.notInA (eCB gLen (aCons (bVar 2) aNil)) (eTup (aCons (eC (.int 1)) (aCons (eC (.int 2)) aNil))))) (tNo (tTru (eCB gIsi (aCons (eBin D.ix (bVar 2) (eC (.int 0))) (aCons (eC (.ty "str")) aNil)))))) c1
    refine ⟨false, fin (sSeq_rt (sIf_t c (sRet_of (S1 := S) rfl))), no fun z => ht ?_⟩
    rcases jh_len z with z | ⟨b', z⟩
    · exact ⟨_, z⟩
    · exact ⟨_, z⟩
end
end W13

set_option Elab.async false
set_option linter.all false
set_option maxRecDepth 100000
namespace W13
open DL
open L2 (atI atI_nat ixN)
theorem fits_rows (n : Nat) (hn : 1 ≤ n) : ∀ F : List (List Int), D.fits (F.map rowD) n = true
  | [] => by simp [D.fits]
  | r :: F => by
    rw [List.map_cons]
    simp only [D.fits, fits_rows n hn F, fit_row n hn r, Bool.and_self]
theorem any_rows (row : List Int) : ∀ F : List (List Int), ((F.map rowD).any fun z => z.eqv (rowD row)) = decide (row ∈ F)
  | [] => by simp
  | r :: F => by
    rw [List.map_cons, List.any_cons, any_rows row F]
    have e : (rowD r).eqv (rowD row) = decide (r = row) := eqv_row r row
    rw [e, Bool.eq_iff_iff, Bool.or_eq_true, decide_eq_true_eq, decide_eq_true_eq, decide_eq_true_eq, List.mem_cons]
    exact ⟨fun h => h.elim (fun z => .inl z.symm) .inr, fun h => h.elim (fun z => .inl z.symm) .inr⟩
theorem isIn_rows (row : List Int) (F : List (List Int)) : D.isInA (rowD row) (.lst (F.map rowD)) = some (.bl (decide (row ∈ F))) := by
  show D.isIn (rowD row) (.lst (F.map rowD)) = _
  unfold D.isIn
  simp only [any_rows]
  rw [if_pos (by simp [fits_rows, fit_row])]
section
variable {s : List Nat} {ws : List Int}
def failL (s : List Nat) (ws : List Int) (x : Say) : List (List Int) := (rowsM [[]] s).filter (brk s ws x)
theorem fail_empty {x : Say} : (failL s ws x).isEmpty = true ↔ ffB s ws x = none := by
  unfold failL ffB
  rw [List.isEmpty_iff, List.filter_eq_nil_iff, List.find?_eq_none]
theorem ints_of : ∀ {ys : List D}, (ys.all fun d => d.isI) = true → ∃ row : List Int, ys = row.map D.int
  | [], _ => ⟨[], rfl⟩
  | y :: ys, h => by
    rw [List.all_cons, Bool.and_eq_true] at h
    obtain ⟨row, rfl⟩ := ints_of h.2
    cases y with
    | int i => exact ⟨i :: row, rfl⟩
    | _ => exact absurd h.1 (by simp [D.isI])
theorem ints_all (row : List Int) : ((row.map D.int).all fun d => d.isI) = true := by
  rw [List.all_eq_true]
  intro d hd
  obtain ⟨i, _, rfl⟩ := List.mem_map.mp hd
  rfl
theorem is_paper_s (h : Wo s ws) {x : Say} {d : D} (hp : Pap d) (S : Sto) : ∃ k : Bool, F__law_is_paper [worldD s ws, sayD x, .lst ((failL s ws x).map rowD), d] S = some (.bl k, S) ∧ (k = true ↔ JH s ws x d) := by
  have fin : ∀ {k : Bool}, b__law_is_paper [.sh (worldD s ws), .sh (sayD x), .sh (.lst ((failL s ws x).map rowD)), .sh d, .un] S = some (.rt (.bl k) S) → F__law_is_paper [worldD s ws, sayD x, .lst ((failL s ws x).map rowD), d] S = some (.bl k, S) := fun e => fnD_rt e rfl
  have no : ∀ {Q : Prop}, (Q → False) → ((false = true) ↔ Q) := fun f => ⟨fun e => absurd e Bool.false_ne_true, fun q => (f q).elim⟩
  have hol : Pap (.tup [.str "holds"]) := ok_tup.mpr ⟨by show 1 ≤ 8; decide, fun y hy => by rw [List.mem_singleton.mp hy]; simp [D.ok, names]⟩
  obtain ⟨k1, e1, i1⟩ := repr_eq (f := bVar 3) (g := eTup (aCons (eC (.str "holds")) aNil)) (ρ := [.sh (worldD s ws), .sh (sayD x), .sh (.lst ((failL s ws x).map rowD)), .sh d, .un]) (S := S) (S1 := S) (S2 := S) hp hol rfl (tup1 (S1 := S) rfl)
  unfold b__law_is_paper at fin
  cases k1 with
  | true =>
    have ed := i1.mp rfl
    subst ed
    have en : eNo (bVar 2) [.sh (worldD s ws), .sh (sayD x), .sh (.lst ((failL s ws x).map rowD)), .sh (.tup [.str "holds"]), .un] S = some (.bl (failL s ws x).isEmpty, S) := by
      show (some (D.bl (!(!((failL s ws x).map rowD).isEmpty)), S) : Option (D × Sto)) = _
      rw [Bool.not_not, List.isEmpty_map]
    refine ⟨(failL s ws x).isEmpty, fin (sSeq_rt (sIf_t (tBl_of e1) (sRet_of en))), ?_⟩
    rw [fail_empty]
    constructor
    · intro z; exact .inl ⟨rfl, z⟩
    · rintro (⟨_, z⟩ | ⟨row, z, _⟩)
      · exact z
      · have := congrArg List.length (D.tup.inj z)
        simp at this
  | false =>
    have nh : d ≠ .tup [.str "holds"] := fun z => absurd (i1.mpr z) Bool.false_ne_true
    have c1 : tNo (tTru (eCB gIsi (aCons (bVar 3) (aCons (eC (.ty "tuple")) aNil)))) [.sh (worldD s ws), .sh (sayD x), .sh (.lst ((failL s ws x).map rowD)), .sh d, .un] S = some (!d.isTp, S) := tNo_of (tru_bl (eCB_of (ds := [d, .ty "tuple"]) (S1 := S) rfl (isiT hp)))
    by_cases ht : ∃ xs, d = .tup xs
    · obtain ⟨xs, rfl⟩ := ht
      obtain ⟨_, hxs⟩ := ok_tup.mp hp
      have c2 : tBl (eBin D.ne (eCB gLen (aCons (bVar 3) aNil)) (eC (.int 2))) [.sh (worldD s ws), .sh (sayD x), .sh (.lst ((failL s ws x).map rowD)), .sh (.tup xs), .un] S = some (!decide ((xs.length : Int) = 2), S) := tBl_of (eBin_of (S1 := S) (S2 := S) (d2 := .int 2) (eCB_of (ds := [.tup xs]) (S1 := S) rfl (len_d xs)) rfl (ne_int _ _))
      by_cases l2 : xs.length = 2
      · obtain ⟨a, b, rfl⟩ := two_of l2
        have l2' : (!decide ((([a, b] : List D).length : Int) = 2)) = false := rfl
        rw [l2'] at c2
        have ha : a.ok 8 4 = true := hxs a (.head _)
        have hb : b.ok 8 4 = true := hxs b (.tail _ (.head _))
        have a0 : eBin D.ix (bVar 3) (eC (.int 0)) [.sh (worldD s ws), .sh (sayD x), .sh (.lst ((failL s ws x).map rowD)), .sh (.tup [a, b]), .un] S = some (a, S) := eBin_of (S1 := S) (S2 := S) (d1 := .tup [a, b]) (d2 := .int 0) rfl rfl (at0 _ _)
        have b1 : ∀ {z : Sl}, eBin D.ix (bVar 3) (eC (.int 1)) [.sh (worldD s ws), .sh (sayD x), .sh (.lst ((failL s ws x).map rowD)), .sh (.tup [a, b]), z] S = some (b, S) := eBin_of (S1 := S) (S2 := S) (d1 := .tup [a, b]) (d2 := .int 1) rfl rfl (at1 _ _ _)
        have pf : Pap (.str "fails") := by show (D.str "fails").ok 8 5 = true; simp [D.ok, names]
        have pa : Pap a := ok_mono (by decide) ha (by decide)
        have c3 : tBl (eBin D.ne (eCB gRepr (aCons (eBin D.ix (bVar 3) (eC (.int 0))) aNil)) (eCB gRepr (aCons (eC (.str "fails")) aNil))) [.sh (worldD s ws), .sh (sayD x), .sh (.lst ((failL s ws x).map rowD)), .sh (.tup [a, b]), .un] S = some (!decide (a.toP.shown = (D.str "fails").toP.shown), S) := tBl_of (repr_nval (S1 := S) pa pf a0 rfl)
        by_cases af : a = .str "fails"
        · rw [decide_eq_true ((shown_iff pa pf).mpr af)] at c3
          subst af
          have cc := tOr_f c1 (tOr_f c2 c3)
          have t1 : eCB gIsi (aCons (eBin D.ix (bVar 3) (eC (.int 1))) (aCons (eC (.ty "tuple")) aNil)) [.sh (worldD s ws), .sh (sayD x), .sh (.lst ((failL s ws x).map rowD)), .sh (.tup [.str "fails", b]), .un] S = some (.bl b.isTp, S) := isi_of b1 (isiT hb)
          by_cases bt : ∃ ys, b = .tup ys
          · obtain ⟨ys, rfl⟩ := bt
            have hys : ∀ q ∈ ys, q.ok 8 3 = true := (ok_tup.mp hb).2
            have al := all_b (ρ := [.sh (worldD s ws), .sh (sayD x), .sh (.lst ((failL s ws x).map rowD)), .sh (.tup [.str "fails", .tup ys]), .un]) (S := S) (g := gNm 4) (te := eCall F__law_is_int (aCons (eVar 4) aNil)) (w := [4]) (fun q : D => q) (fun q => q.isI) ys (it := iSeq (eBin D.ix (bVar 3) (eC (.int 1)))) (by rw [List.map_id']; exact iSeq_of b1 rfl) fun q hq =>
              ⟨[.sh (worldD s ws), .sh (sayD x), .sh (.lst ((failL s ws x).map rowD)), .sh (.tup [.str "fails", .tup ys]), .sh q], rfl, eCall_of (ds := [q]) (S1 := S) rfl (law_is_int_s (hys q hq) S)⟩
            by_cases gi : (ys.all fun q => q.isI) = true
            · rw [gi] at al
              obtain ⟨row, rfl⟩ := ints_of gi
              have inn : eBin D.isInA (eBin D.ix (bVar 3) (eC (.int 1))) (bVar 2) [.sh (worldD s ws), .sh (sayD x), .sh (.lst ((failL s ws x).map rowD)), .sh (.tup [.str "fails", .tup (row.map D.int)]), .un] S = some (.bl (decide (row ∈ failL s ws x)), S) := eBin_of (S1 := S) (S2 := S) (d1 := rowD row) b1 rfl (isIn_rows row _)
              refine ⟨decide (row ∈ failL s ws x), fin (sSeq_of (sIf_f (tBl_of e1) rfl) (sSeq_of (sIf_f cc rfl) (sRet_of (eAn_t t1 (eAn_t al inn))))), ?_⟩
              rw [decide_eq_true_eq]
              unfold failL
              rw [List.mem_filter, rows_mem]
              constructor
              · rintro ⟨⟨z1, z2⟩, z3⟩; exact .inr ⟨row, rfl, z1, z2, z3⟩
              · rintro (⟨z, _⟩ | ⟨row', z, z1, z2, z3⟩)
                · have := congrArg List.length (D.tup.inj z)
                  simp at this
                · have e2 : row = row' := by
                    injection D.tup.inj z with _ z
                    injection z with z _
                    exact List.map_inj_right (f := D.int) (fun a b h => D.int.inj h) |>.mp (D.tup.inj z)
                  rw [e2]
                  exact ⟨⟨z1, z2⟩, z3⟩
            · rw [Bool.eq_false_iff.mpr gi] at al
              refine ⟨false, fin (sSeq_of (sIf_f (tBl_of e1) rfl) (sSeq_of (sIf_f cc rfl) (sRet_of (eAn_t t1 (eAn_f al))))), no fun z => ?_⟩
              rcases z with ⟨z, _⟩ | ⟨row, z, _⟩
              · have := congrArg List.length (D.tup.inj z)
                simp at this
              · injection D.tup.inj z with _ z
                injection z with z _
                rw [D.tup.inj z] at gi
                exact gi (ints_all row)
          · have b0 : b.isTp = false := by
              cases b <;> first | rfl | exact absurd ⟨_, rfl⟩ bt
            rw [b0] at t1
            refine ⟨false, fin (sSeq_of (sIf_f (tBl_of e1) rfl) (sSeq_of (sIf_f cc rfl) (sRet_of (eAn_f t1)))), no fun z => ?_⟩
            rcases z with ⟨z, _⟩ | ⟨row, z, _⟩
            · have := congrArg List.length (D.tup.inj z)
              simp at this
            · injection D.tup.inj z with _ z
              injection z with z _
              exact bt ⟨_, z⟩
        · rw [decide_eq_false fun z => af ((shown_iff pa pf).mp z)] at c3
          have cc := tOr_f c1 (tOr_f c2 c3)
          refine ⟨false, fin (sSeq_of (sIf_f (tBl_of e1) rfl) (sSeq_rt (sIf_t cc (sRet_of (S1 := S) rfl)))), no fun z => ?_⟩
          rcases jh_len z with z | ⟨b', z⟩
          · exact nh z
          · injection D.tup.inj z with z _
            exact af z
      · have l2' : (!decide ((xs.length : Int) = 2)) = true := by
          rw [decide_eq_false (by omega)]
          rfl
        rw [l2'] at c2
        have cc := tOr_f c1 (tOr_t (t2 := tBl (eBin D.ne (eCB gRepr (aCons (eBin D.ix (bVar 3) (eC (.int 0))) aNil)) (eCB gRepr (aCons (eC (.str "fails")) aNil)))) c2)
        refine ⟨false, fin (sSeq_of (sIf_f (tBl_of e1) rfl) (sSeq_rt (sIf_t cc (sRet_of (S1 := S) rfl)))), no fun z => ?_⟩
        rcases jh_len z with z | ⟨b', z⟩
        · exact nh z
        · rw [D.tup.inj z] at l2
          exact l2 rfl
    · have t0 : d.isTp = false := by
        cases d <;> first | rfl | exact absurd ⟨_, rfl⟩ ht
      rw [t0] at c1
      have cc := tOr_t (t2 := DL.tOr (tBl (eBin D.ne (eCB gLen (aCons (bVar 3) aNil)) (eC (.int 2)))) (tBl (eBin D.ne (eCB gRepr (aCons (eBin D.ix (bVar 3) (eC (.int 0))) aNil)) (eCB gRepr (aCons (eC (.str "fails")) aNil))))) c1
      refine ⟨false, fin (sSeq_of (sIf_f (tBl_of e1) rfl) (sSeq_rt (sIf_t cc (sRet_of (S1 := S) rfl)))), no fun z => ht ?_⟩
      rcases jh_len z with z | ⟨b', z⟩
      · exact ⟨_, z⟩
      · exact ⟨_, z⟩
end
end W13

set_option Elab.async false
set_option linter.all false
set_option maxRecDepth 100000
namespace W13
open DL
open L2 (atI atI_nat ixN)
open PySem.W (alike alikeAll)
theorem vars_row (l : List Nat) : varsD l = rowD (l.map fun (v : Nat) => (v : Int)) := by
  unfold varsD rowD
  rw [List.map_map]
  rfl
theorem cast_inj : ∀ {a b : List Nat}, (a.map fun (v : Nat) => (v : Int)) = (b.map fun (v : Nat) => (v : Int)) ↔ a = b := fun {a b} =>
  List.map_inj_right fun x y h => by omega
theorem ne_vars (a b : List Nat) : D.ne (varsD a) (varsD b) = some (.bl (!decide (a = b))) := by
  rw [vars_row, vars_row, ne_row, decide_eq_decide.mpr cast_inj]
theorem any_vars (v : Nat) : ∀ q : List Nat, ((natsL q).any fun z => z.eqv (.int (v : Int))) = decide (v ∈ q)
  | [] => by simp [natsL]
  | p :: q => by
    show ((D.int (p : Int)).eqv (.int (v : Int)) || (natsL q).any fun z => z.eqv (.int (v : Int))) = _
    rw [any_vars v q]
    have e : (D.int (p : Int)).eqv (.int (v : Int)) = decide (p = v) := by
      unfold D.eqv
      simp only [D.toP, PySem.PyData.eqv]
      rw [Bool.eq_iff_iff, beq_iff_eq, decide_eq_true_eq]
      omega
    rw [e, Bool.eq_iff_iff, Bool.or_eq_true, decide_eq_true_eq, decide_eq_true_eq, decide_eq_true_eq, List.mem_cons]
    exact ⟨fun h => h.elim (fun z => .inl z.symm) .inr, fun h => h.elim (fun z => .inl z.symm) .inr⟩
theorem fits_vars (n : Nat) : ∀ q : List Nat, D.fits (natsL q) n = true
  | [] => by simp [natsL, D.fits]
  | p :: q => by
    show D.fits (D.int (p : Int) :: natsL q) n = true
    simp only [D.fits, D.fit, fits_vars n q, Bool.and_self]
theorem in_vars (v : Nat) (q : List Nat) : D.isInA (.int (v : Int)) (varsD q) = some (.bl (decide (v ∈ q))) := by
  show D.isIn (.int (v : Int)) (.tup (natsL q)) = _
  unfold D.isIn
  simp only [fits_vars, any_vars]
  rw [if_pos (by simp [D.fit])]
theorem notin_vars (v : Nat) (q : List Nat) : D.notInA (.int (v : Int)) (varsD q) = some (.bl (!decide (v ∈ q))) := by
  show D.notIn (.int (v : Int)) (.tup (natsL q)) = _
  unfold D.notIn
  simp only [fits_vars, any_vars]
  rw [if_pos (by simp [D.fit])]
def tog (a b : List Nat) : List Nat := sortN (a ++ b)
def rest (b q : List Nat) : List Nat := b.filter fun v => !decide (v ∈ q)
theorem together_s (a b : List Nat) (S : Sto) (h : a.length + b.length ≤ 1000) : F_together [varsD a, varsD b] S = some (varsD (tog a b), S) := by
  unfold F_together b_together
  exact fnD_rt (S' := S) (sRet_of (d := varsD (tog a b)) (eCB_of (aCons_of (eCB_of (aCons_of (eBin_of (S1 := S) (S2 := S) (d1 := varsD a) (d2 := varsD b) rfl rfl (add_vars h)) rfl) (sortedT (a ++ b))) rfl) rfl)) rfl
theorem rest_of_s (b q : List Nat) (S : Sto) : F_rest_of [varsD b, varsD q] S = some (varsD (rest b q), S) := by
  have c := compF_map (g := gNm 2) (tt := tBl (eBin D.notInA (bVar 2) (bVar 1))) (te := eVar 2) (ρ := [.sh (varsD b), .sh (varsD q), .un]) (S := S) (fun (v : Nat) => D.int (v : Int)) (fun v => !decide (v ∈ q)) (fun (v : Nat) => D.int (v : Int)) b fun v _ =>
    ⟨[.sh (varsD b), .sh (varsD q), .sh (.int (v : Int))], rfl, tBl_of (eBin_of (S1 := S) (S2 := S) (d1 := .int (v : Int)) (d2 := varsD q) rfl rfl (notin_vars v q)), fun _ => rfl⟩
  have l := eLc_of (vs := [2]) (it := iSeq (bVar 0)) (ρ := [.sh (varsD b), .sh (varsD q), .un]) (S := S) rfl c
  unfold F_rest_of b_rest_of
  exact fnD_rt (S' := S) (sRet_of (d := varsD (rest b q)) (eCB_of (aCons_of l rfl) rfl)) rfl
theorem s3 : 3 ≤ PySem.sizeLine := by decide
theorem say0 {ρ : Rho} {S : Sto} {x : Say} {i : Nat} (h : bVar i ρ S = some (sayD x, S)) : eBin D.ix (bVar i) (eC (.int 0)) ρ S = some (varsD x.1, S) := eBin_of (S1 := S) (S2 := S) (d1 := sayD x) (d2 := .int 0) h rfl (at0 _ _)
theorem say1 {ρ : Rho} {S : Sto} {x : Say} {i : Nat} (h : bVar i ρ S = some (sayD x, S)) : eBin D.ix (bVar i) (eC (.int 1)) ρ S = some (varsD x.2.1, S) := eBin_of (S1 := S) (S2 := S) (d1 := sayD x) (d2 := .int 1) h rfl (at1 _ _ _)
theorem say2 {ρ : Rho} {S : Sto} {x : Say} {i : Nat} (h : bVar i ρ S = some (sayD x, S)) : eBin D.ix (bVar i) (eC (.int 2)) ρ S = some (varsD x.2.2, S) := eBin_of (S1 := S) (S2 := S) (d1 := sayD x) (d2 := .int 2) h rfl (at2 _ _ _ _)
theorem tup3 {f1 f2 f3 : Ex} {ρ : Rho} {S S1 S2 S3 : Sto} {d1 d2 d3 : D} (h1 : f1 ρ S = some (d1, S1)) (h2 : f2 ρ S1 = some (d2, S2)) (h3 : f3 ρ S2 = some (d3, S3)) : eTup (aCons f1 (aCons f2 (aCons f3 aNil))) ρ S = some (.tup [d1, d2, d3], S3) := eTup_of (aCons_of h1 (aCons_of h2 (aCons_of h3 rfl))) s3
theorem turned_s (x : Say) (S : Sto) : F_turned [sayD x] S = some (sayD (x.2.1, x.1, x.2.2), S) := by
  unfold F_turned b_turned
  exact fnD_rt (S' := S) (sRet_of (tup3 (say1 (x := x) rfl) (say0 (x := x) rfl) (say2 (x := x) rfl))) rfl
theorem weak_s (x : Say) (q : List Nat) (S : Sto) (h : x.2.2.length + x.2.1.length ≤ 1000) : F_weak [sayD x, varsD q] S = some (sayD (x.1, q, tog x.2.2 (rest x.2.1 q)), S) := by
  have r := rest_of_s x.2.1 q S
  have t := together_s x.2.2 (rest x.2.1 q) S (by have := List.length_filter_le (fun v => !decide (v ∈ q)) x.2.1; unfold rest; omega)
  unfold F_weak b_weak
  exact fnD_rt (S' := S) (sRet_of (tup3 (S2 := S) (d2 := varsD q) (say0 (x := x) rfl) rfl (eCall_of (aCons_of (say2 (x := x) rfl) (aCons_of (eCall_of (aCons_of (say1 (x := x) rfl) (aCons_of (S1 := S) rfl rfl)) r) rfl)) t))) rfl
def joinC (x y : Say) : Bool := decide (x.1 = y.1) && decide (x.2.2 = tog y.2.1 y.2.2)
def joinM (x y : Say) : Say := (x.1, tog x.2.1 y.2.1, y.2.2)
theorem joined_s (x y : Say) (S : Sto) (h1 : y.2.1.length + y.2.2.length ≤ 1000) (h2 : x.2.1.length + y.2.1.length ≤ 1000) : F_joined [sayD x, sayD y] S = some (if joinC x y = true then sayD (joinM x y) else .non, S) := by
  have t1 := together_s y.2.1 y.2.2 S h1
  have t2 := together_s x.2.1 y.2.1 S h2
  have c1 : tBl (eBin D.ne (eBin D.ix (bVar 0) (eC (.int 0))) (eBin D.ix (bVar 1) (eC (.int 0)))) [.sh (sayD x), .sh (sayD y)] S = some (!decide (x.1 = y.1), S) := tBl_of (eBin_of (S1 := S) (S2 := S) (say0 (x := x) rfl) (say0 (x := y) rfl) (ne_vars _ _))
  have c2 : tBl (eBin D.ne (eBin D.ix (bVar 0) (eC (.int 2))) (eCall F_together (aCons (eBin D.ix (bVar 1) (eC (.int 1))) (aCons (eBin D.ix (bVar 1) (eC (.int 2))) aNil)))) [.sh (sayD x), .sh (sayD y)] S = some (!decide (x.2.2 = tog y.2.1 y.2.2), S) := tBl_of (eBin_of (S1 := S) (S2 := S) (say2 (x := x) rfl) (eCall_of (aCons_of (say1 (x := y) rfl) (aCons_of (say2 (x := y) rfl) rfl)) t1) (ne_vars _ _))
  unfold F_joined b_joined
  refine fnD_rt (S' := S) ?_ rfl
  unfold joinC
  by_cases e1 : x.1 = y.1
  · rw [decide_eq_true e1] at c1 ⊢
    by_cases e2 : x.2.2 = tog y.2.1 y.2.2
    · rw [decide_eq_true e2] at c2 ⊢
      rw [Bool.and_self, if_pos rfl]
      exact sSeq_of (cond_f (tOr_f c1 c2)) (sRet_of (tup3 (say0 (x := x) rfl) (eCall_of (aCons_of (say1 (x := x) rfl) (aCons_of (say1 (x := y) rfl) rfl)) t2) (say2 (x := y) rfl)))
    · rw [decide_eq_false e2] at c2 ⊢
      rw [Bool.and_false, if_neg Bool.false_ne_true]
      exact sSeq_rt (sIf_t (tOr_f c1 c2) (sRet_of (S1 := S) rfl))
  · rw [decide_eq_false e1] at c1 ⊢
    rw [Bool.false_and, if_neg Bool.false_ne_true]
    exact sSeq_rt (sIf_t (tOr_t c1) (sRet_of (S1 := S) rfl))
def crossC (x y : Say) : Bool := decide (x.1 = y.1) && ((y.2.1.all fun a => decide (a ∈ x.2.2)) && ((x.2.1.all fun b => decide (b ∈ y.2.2)) && decide (rest x.2.2 y.2.1 = rest y.2.2 x.2.1)))
def crossM (x y : Say) : Say := (x.1, tog x.2.1 y.2.1, rest x.2.2 y.2.1)
theorem crossed_s (x y : Say) (S : Sto) (h2 : x.2.1.length + y.2.1.length ≤ 1000) : F_crossed [sayD x, sayD y] S = some (if crossC x y = true then sayD (crossM x y) else .non, S) := by
  have t2 := together_s x.2.1 y.2.1 S h2
  have r1 := rest_of_s x.2.2 y.2.1 S
  have r2 := rest_of_s y.2.2 x.2.1 S
  have c1 : tBl (eBin D.ne (eBin D.ix (bVar 0) (eC (.int 0))) (eBin D.ix (bVar 1) (eC (.int 0)))) [.sh (sayD x), .sh (sayD y), .un, .un, .un] S = some (!decide (x.1 = y.1), S) := tBl_of (eBin_of (S1 := S) (S2 := S) (say0 (x := x) rfl) (say0 (x := y) rfl) (ne_vars _ _))
  have a1 := all_b (ρ := [.sh (sayD x), .sh (sayD y), .un, .un, .un]) (S := S) (g := gNm 3) (te := eBin D.isInA (bVar 3) (eBin D.ix (bVar 0) (eC (.int 2)))) (w := [3]) (fun (v : Nat) => D.int (v : Int)) (fun a => decide (a ∈ x.2.2)) y.2.1 (it := iSeq (eBin D.ix (bVar 1) (eC (.int 1)))) (iSeq_of (say1 (x := y) rfl) rfl) fun v _ =>
    ⟨[.sh (sayD x), .sh (sayD y), .un, .sh (.int (v : Int)), .un], rfl, eBin_of (S1 := S) (S2 := S) (d1 := .int (v : Int)) rfl (say2 (x := x) rfl) (in_vars v _)⟩
  have a2 := all_b (ρ := [.sh (sayD x), .sh (sayD y), .un, .un, .un]) (S := S) (g := gNm 4) (te := eBin D.isInA (bVar 4) (eBin D.ix (bVar 1) (eC (.int 2)))) (w := [4]) (fun (v : Nat) => D.int (v : Int)) (fun b => decide (b ∈ y.2.2)) x.2.1 (it := iSeq (eBin D.ix (bVar 0) (eC (.int 1)))) (iSeq_of (say1 (x := x) rfl) rfl) fun v _ =>
    ⟨[.sh (sayD x), .sh (sayD y), .un, .un, .sh (.int (v : Int))], rfl, eBin_of (S1 := S) (S2 := S) (d1 := .int (v : Int)) rfl (say2 (x := y) rfl) (in_vars v _)⟩
  have c2 := tNo_of (tru_bl a1)
  have c3 := tNo_of (tru_bl a2)
  have st2 : sAsg (eCall F_rest_of (aCons (eBin D.ix (bVar 0) (eC (.int 2))) (aCons (eBin D.ix (bVar 1) (eC (.int 1))) aNil))) (gNm 2) [.sh (sayD x), .sh (sayD y), .un, .un, .un] S = some (.nx [.sh (sayD x), .sh (sayD y), .sh (varsD (rest x.2.2 y.2.1)), .un, .un] S) := sAsg_of (eCall_of (aCons_of (say2 (x := x) rfl) (aCons_of (say1 (x := y) rfl) rfl)) r1) rfl
  have c4 : tBl (eBin D.ne (bVar 2) (eCall F_rest_of (aCons (eBin D.ix (bVar 1) (eC (.int 2))) (aCons (eBin D.ix (bVar 0) (eC (.int 1))) aNil)))) [.sh (sayD x), .sh (sayD y), .sh (varsD (rest x.2.2 y.2.1)), .un, .un] S = some (!decide (rest x.2.2 y.2.1 = rest y.2.2 x.2.1), S) := tBl_of (eBin_of (S1 := S) (S2 := S) rfl (eCall_of (aCons_of (say2 (x := y) rfl) (aCons_of (say1 (x := x) rfl) rfl)) r2) (ne_vars _ _))
  unfold F_crossed b_crossed
  refine fnD_rt (S' := S) ?_ rfl
  unfold crossC
  by_cases e1 : x.1 = y.1
  · rw [decide_eq_true e1] at c1 ⊢
    rw [Bool.true_and]
    cases e2 : (y.2.1.all fun a => decide (a ∈ x.2.2)) with
    | false =>
      rw [e2] at c2
      rw [Bool.false_and, if_neg Bool.false_ne_true]
      exact sSeq_rt (sIf_t (tOr_f c1 (tOr_t c2)) (sRet_of (S1 := S) rfl))
    | true =>
      rw [e2] at c2
      rw [Bool.true_and]
      cases e3 : (x.2.1.all fun b => decide (b ∈ y.2.2)) with
      | false =>
        rw [e3] at c3
        rw [Bool.false_and, if_neg Bool.false_ne_true]
        exact sSeq_rt (sIf_t (tOr_f c1 (tOr_f c2 c3)) (sRet_of (S1 := S) rfl))
      | true =>
        rw [e3] at c3
        rw [Bool.true_and]
        refine sSeq_of (cond_f (tOr_f c1 (tOr_f c2 c3))) (sSeq_of st2 ?_)
        by_cases e4 : rest x.2.2 y.2.1 = rest y.2.2 x.2.1
        · rw [decide_eq_true e4] at c4 ⊢
          rw [if_pos rfl]
          exact sSeq_of (cond_f c4) (sRet_of (tup3 (S3 := S) (d3 := varsD (rest x.2.2 y.2.1)) (say0 (x := x) rfl) (eCall_of (aCons_of (say1 (x := x) rfl) (aCons_of (say1 (x := y) rfl) rfl)) t2) rfl))
        · rw [decide_eq_false e4] at c4 ⊢
          rw [if_neg Bool.false_ne_true]
          exact sSeq_rt (sIf_t c4 (sRet_of (S1 := S) rfl))
  · rw [decide_eq_false e1] at c1 ⊢
    rw [Bool.false_and, if_neg Bool.false_ne_true]
    exact sSeq_rt (sIf_t (tOr_t c1) (sRet_of (S1 := S) rfl))
/-! parts -/
theorem lt_lt {ρ : Rho} {S : Sto} {f1 f2 f3 : Ex} {i j k : Int} (h1 : f1 ρ S = some (.int i, S)) (h2 : f2 ρ S = some (.int j, S)) (h3 : f3 ρ S = some (.int k, S)) : eChain D.lt D.lt f1 f2 f3 ρ S = some (.bl (decide (i < j) && decide (j < k)), S) := by
  by_cases c : i < j
  · rw [decide_eq_true c, Bool.true_and]
    exact chain_of h1 h2 (lt_of _ _ c) h3 rfl
  · rw [decide_eq_false c, Bool.false_and]
    unfold eChain
    rw [h1, Option.bind_some, h2, Option.bind_some]
    have : D.lt (.int i) (.int j) = some (.bl false) := by
      show some (D.bl (decide (i < j))) = _
      rw [decide_eq_false c]
    rw [this, Option.bind_some]
theorem alike_vars (a b : List Nat) : alike (varsD a).toP (varsD b).toP = true := by
  rw [vars_row, vars_row]
  exact alike_row _ _
theorem fit_varsD (n : Nat) (hn : 0 < n) (a : List Nat) : (varsD a).fit n = true := by
  rw [vars_row]
  exact fit_row n hn _
theorem pa_loop (S : Sto) (a z3 : Sl) : ∀ (suf pre : List Nat) (F : List (List Nat)) (z2 : Sl), (∀ q ∈ F, q.Sublist pre) → F.length * 2 ^ suf.length ≤ 2000 → pre.length + suf.length ≤ 100 →
    ∃ (F' : List (List Nat)) (z2' : Sl), forF (gNm 2) (sAsg (eBin D.add (bVar 1) (eLc (iSeq (bVar 1)) (gNm 3) tYs (eBin D.add (bVar 3) (eTup (aCons (eVar 2) aNil))) [3])) (gNm 1)) (natsL suf) [a, .sh (.lst (F.map varsD)), z2, .un] S = some (.nx [a, .sh (.lst (F'.map varsD)), z2', .un] S) ∧ (∀ q ∈ F', q.Sublist (pre ++ suf)) ∧ F'.length ≤ 2000
  | [], pre, F, z2, hF, hl, _ => ⟨F, z2, rfl, fun q hq => by rw [List.append_nil]; exact hF q hq, by rw [List.length_nil] at hl; omega⟩
  | v :: suf, pre, F, z2, hF, hl, hp => by
    have h2 : 2 ^ (v :: suf).length = 2 * 2 ^ suf.length := by rw [List.length_cons, Nat.pow_succ]; omega
    rw [h2] at hl
    have pos : 1 ≤ 2 ^ suf.length := Nat.one_le_two_pow
    have hFl : F.length ≤ 2000 := by
      refine Nat.le_trans ?_ hl
      exact Nat.le_mul_of_pos_right _ (by omega)
    have c := compF_all (g := gNm 3) (te := eBin D.add (bVar 3) (eTup (aCons (eVar 2) aNil))) (ρ := [a, .sh (.lst (F.map varsD)), .sh (.int (v : Int)), .un]) (S := S) varsD (fun q => varsD (q ++ [v])) F fun q hq => by
      have ql : q.length ≤ 100 := by
        have := (hF q hq).length_le
        omega
      exact ⟨[a, .sh (.lst (F.map varsD)), .sh (.int (v : Int)), .sh (varsD q)], rfl, eBin_of (S1 := S) (S2 := S) (d1 := varsD q) (d2 := varsD [v]) rfl (tup1 (S1 := S) rfl) (add_vars (by rw [List.length_singleton]; omega))⟩
    have l := eLc_of (vs := [3]) (it := iSeq (bVar 1)) (ρ := [a, .sh (.lst (F.map varsD)), .sh (.int (v : Int)), .un]) (S := S) rfl c
    have e : (F.map fun q => varsD (q ++ [v])) = (F.map fun q => q ++ [v]).map varsD := by rw [List.map_map]; rfl
    have st : sAsg (eBin D.add (bVar 1) (eLc (iSeq (bVar 1)) (gNm 3) tYs (eBin D.add (bVar 3) (eTup (aCons (eVar 2) aNil))) [3])) (gNm 1) [a, .sh (.lst (F.map varsD)), .sh (.int (v : Int)), .un] S = some (.nx [a, .sh (.lst ((F ++ F.map fun q => q ++ [v]).map varsD)), .sh (.int (v : Int)), .un] S) := by
      refine sAsg_of (eBin_of (S1 := S) (S2 := S) (d1 := .lst (F.map varsD)) rfl l ?_) rfl
      rw [e, List.map_append]
      exact add_lst (szle (by rw [List.length_map, List.length_map, List.length_map]; omega))
    obtain ⟨F', z', i1, i2, i3⟩ := pa_loop S a z3 suf (pre ++ [v]) (F ++ F.map fun q => q ++ [v]) (.sh (.int (v : Int))) (fun q hq => by
      rcases List.mem_append.mp hq with h | h
      · exact (hF q h).trans (List.sublist_append_left _ _)
      · obtain ⟨q', hq', rfl⟩ := List.mem_map.mp h
        exact (hF q' hq').append (List.Sublist.refl [v])) (by
      rw [List.length_append, List.length_map]
      have : (F.length + F.length) * 2 ^ suf.length = F.length * (2 * 2 ^ suf.length) := by
        rw [← Nat.two_mul, Nat.mul_assoc, Nat.mul_left_comm]
      omega) (by rw [List.length_append, List.length_singleton]; rw [List.length_cons] at hp; omega)
    refine ⟨F', z', (forF_step (g := gNm 2) (x := .int (v : Int)) (ρ1 := [a, .sh (.lst (F.map varsD)), .sh (.int (v : Int)), .un]) rfl st).trans i1, fun q hq => ?_, i3⟩
    have := i2 q hq
    rwa [List.append_assoc] at this
theorem parts_of_s (b : List Nat) (S : Sto) (hb : b.length ≤ 10) : ∃ ps : List (List Nat), F_parts_of [varsD b] S = some (.lst (ps.map varsD), S) ∧ ∀ q ∈ ps, q.Sublist b ∧ 0 < q.length ∧ q.length < b.length := by
  obtain ⟨F, z2, i1, i2, i3⟩ := pa_loop S (.sh (varsD b)) .un b [] [[]] .un (fun q hq => by rw [List.mem_singleton.mp hq]; exact List.Sublist.refl _) (by
    rw [List.length_singleton, Nat.one_mul]
    exact Nat.le_trans (Nat.pow_le_pow_right (by decide) hb) (by decide)) (by rw [List.length_nil]; omega)
  rw [List.nil_append] at i2
  have st1 : sAsg (eLst (aCons (eTup aNil) aNil)) (gNm 1) [.sh (varsD b), .un, .un, .un] S = some (.nx [.sh (varsD b), .sh (.lst (([[]] : List (List Nat)).map varsD)), .un, .un] S) := sAsg_of (eLst_of (ds := [.tup []]) (aCons_of (eTup_of (ds := []) (S1 := S) rfl (Nat.zero_le _)) rfl) (by show 1 ≤ PySem.sizeLine; decide)) rfl
  have c := compF_map (g := gNm 3) (tt := tBl (eChain D.lt D.lt (eC (.int 0)) (eCB gLen (aCons (bVar 3) aNil)) (eCB gLen (aCons (bVar 0) aNil)))) (te := eVar 3) (ρ := [.sh (varsD b), .sh (.lst (F.map varsD)), z2, .un]) (S := S) varsD (fun q => decide ((0 : Int) < (q.length : Int)) && decide ((q.length : Int) < (b.length : Int))) varsD F fun q _ =>
    ⟨[.sh (varsD b), .sh (.lst (F.map varsD)), z2, .sh (varsD q)], rfl, tBl_of (lt_lt (S := S) rfl (eCB_of (ds := [varsD q]) (S1 := S) rfl (by simp only [gLen, varsD, List.length_map])) (eCB_of (ds := [varsD b]) (S1 := S) rfl (by simp only [gLen, varsD, List.length_map]))), fun _ => rfl⟩
  have l := eLc_of (vs := [3]) (it := iSeq (bVar 1)) (ρ := [.sh (varsD b), .sh (.lst (F.map varsD)), z2, .un]) (S := S) rfl c
  generalize hG : F.filter (fun q => decide ((0 : Int) < (q.length : Int)) && decide ((q.length : Int) < (b.length : Int))) = G at l
  have hGq : ∀ q ∈ G, q.Sublist b ∧ 0 < q.length ∧ q.length < b.length := fun q hq => by
    rw [← hG] at hq
    obtain ⟨h1, h2⟩ := List.mem_filter.mp hq
    simp only [Bool.and_eq_true, decide_eq_true_eq] at h2
    exact ⟨i2 q h1, by omega, by omega⟩
  have cs : canSort (G.map varsD) = true := by
    unfold canSort
    simp only [List.all_map, Bool.and_eq_true, Bool.or_eq_true, List.all_eq_true, Function.comp]
    refine ⟨⟨fun q _ => fit_varsD 40 (by decide) q, fun q _ r _ => alike_vars q r⟩, .inl fun q hq => ?_⟩
    have := (hGq q hq).2.1
    cases q with
    | nil => simp at this
    | cons v q => rfl
  refine ⟨G.mergeSort fun p q => D.le' (varsD p) (varsD q), ?_, fun q hq => hGq q ((List.mergeSort_perm _ _).mem_iff.mp hq)⟩
  have gs : gSorted [.lst (G.map varsD)] = some (.lst ((G.mergeSort fun p q => D.le' (varsD p) (varsD q)).map varsD)) := by
    show (if canSort (G.map varsD) = true then some (D.lst ((G.map varsD).mergeSort D.le')) else none) = _
    rw [if_pos cs, List.map_mergeSort (s := D.le') (fun a _ b _ => rfl)]
  unfold F_parts_of b_parts_of
  refine fnD_rt (S' := S) ?_ rfl
  refine sSeq_of st1 ?_
  refine sSeq_of (sFor_of (xs := natsL b) (iSeq_of (d := varsD b) (S1 := S) rfl rfl) i1) ?_
  exact sRet_of (eCB_of (aCons_of l rfl) gs)
end W13

set_option Elab.async false
set_option linter.all false
set_option maxRecDepth 100000
namespace W13
open DL
open L2 (atI atI_nat ixN)
open PySem.W (alike alikeAll)
theorem le_trans' (a b c : D) (h1 : D.le' a b = true) (h2 : D.le' b c = true) : D.le' a c = true := by
  unfold D.le' at *
  rw [Bool.not_eq_true'] at *
  cases e : PySem.W.dataLt c.toP a.toP with
  | false => rfl
  | true =>
    rcases PyProof.Rows.lex_negTrans _ (PySem.W.keyToks b.toP) _ e with z | z
    · rw [show PySem.W.dataLt c.toP b.toP = true from z] at h2; cases h2
    · rw [show PySem.W.dataLt b.toP a.toP = true from z] at h1; cases h1
theorem le_total' (a b : D) : (D.le' a b || D.le' b a) = true := by
  unfold D.le'
  cases e : PySem.W.dataLt b.toP a.toP with
  | false => rfl
  | true =>
    cases e2 : PySem.W.dataLt a.toP b.toP with
    | false => rfl
    | true =>
      have := PyProof.Rows.lex_trans _ _ _ e e2
      rw [PyProof.Rows.lex_irrefl] at this
      cases this
def nextS (a : Nat) (x : Say) (i : Nat) : Say := if i = 0 then (x.1 ++ [a], x.2.1, x.2.2) else if i = 1 then (x.1, x.2.1 ++ [a], x.2.2) else if i = 2 then (x.1, x.2.1, x.2.2 ++ [a]) else x
def genStep (a : Nat) (F : List Say) : List Say := F.flatMap fun x => (List.range 4).map (nextS a x)
def genGo : List Nat → List Say → List Say
  | [], F => F
  | a :: as, F => genGo as (genStep a F)
def okS (x : Say) : Bool := !x.1.isEmpty && !x.2.1.isEmpty
def allL (n : Nat) : List Say := (genGo (List.range n) [([], [], [])]).filter okS
def sayL (n : Nat) : List Say := (allL n).mergeSort fun x y => D.le' (sayD x) (sayD y)
theorem sayL_mem {n : Nat} {x : Say} : x ∈ sayL n ↔ x ∈ allL n := (List.mergeSort_perm _ _).mem_iff
theorem sayL_sorted (n : Nat) : (sayL n).Pairwise fun x y => D.le' (sayD x) (sayD y) = true :=
  List.pairwise_mergeSort (fun a b c => le_trans' (sayD a) (sayD b) (sayD c)) (fun a b => le_total' (sayD a) (sayD b)) (allL n)
theorem canSort_say (l : List Say) : canSort (l.map sayD) = true := by
  unfold canSort
  simp only [List.all_map, Bool.and_eq_true, Bool.or_eq_true, List.all_eq_true, Function.comp]
  refine ⟨⟨fun x _ => ?_, fun x _ y _ => ?_⟩, .inl fun x _ => rfl⟩
  · unfold sayD
    simp only [D.fit, D.fits, fit_varsD 39 (by decide), Bool.and_self]
  · unfold sayD
    simp only [D.toP, D.toPs, alike, alikeAll, alike_vars, Bool.and_self]
/-- sorted again: the same -/
theorem sort_say {l : List Say} (h : l.Pairwise fun x y => D.le' (sayD x) (sayD y) = true) : (l.map sayD).mergeSort D.le' = l.map sayD := by
  refine List.mergeSort_of_pairwise ?_
  rw [List.pairwise_map]
  exact h
def asE : Ex := eIf (tBl (eBin D.lt (bVar 4) (eC (.int 3)))) (eBin D.add (eBin D.add (eSl D.slice (bVar 3) pNo (pIs (bVar 4))) (eTup (aCons (eBin D.add (eBin D.ix (bVar 3) (bVar 4)) (eTup (aCons (eVar 2) aNil))) aNil))) (eSl D.slice (bVar 3) (pIs (eBin D.add (bVar 4) (eC (.int 1)))) pNo)) (eVar 3)
theorem as_in {x : Say} {i : Nat} (hi : i < 4) (h : x.1.length + x.2.1.length + x.2.2.length ≤ 900) (S : Sto) (n a : Nat) (z1 : Sl) : asE [.sh (.int (n : Int)), z1, .sh (.int (a : Int)), .sh (sayD x), .sh (.int (i : Int))] S = some (sayD (nextS a x i), S) := by
  obtain ⟨p, q, r⟩ := x
  have h : p.length + q.length + r.length ≤ 900 := h
  have mk : ∀ (i : Nat) (v : List Nat) (hi : i < 3) (hv : ([varsD p, varsD q, varsD r] : List D)[i]? = some (varsD v)) (hl : v.length ≤ 900), asE [.sh (.int (n : Int)), z1, .sh (.int (a : Int)), .sh (sayD (p, q, r)), .sh (.int (i : Int))] S = some (.tup (([varsD p, varsD q, varsD r] : List D).take i ++ [varsD (v ++ [a])] ++ ([varsD p, varsD q, varsD r] : List D).drop (i + 1)), S) := fun i v hi hv hl => by
    have c : tBl (eBin D.lt (bVar 4) (eC (.int 3))) [.sh (.int (n : Int)), z1, .sh (.int (a : Int)), .sh (sayD (p, q, r)), .sh (.int (i : Int))] S = some (true, S) := by
      rw [← decide_eq_true (show (i : Int) < 3 by omega)]
      exact tBl_of (eBin_of (S1 := S) (S2 := S) (d1 := .int (i : Int)) (d2 := .int 3) rfl rfl (i_lt _ _))
    have a1 : eSl D.slice (bVar 3) pNo (pIs (bVar 4)) [.sh (.int (n : Int)), z1, .sh (.int (a : Int)), .sh (sayD (p, q, r)), .sh (.int (i : Int))] S = some (.tup (([varsD p, varsD q, varsD r] : List D).take i), S) := eSl_of (S1 := S) (S2 := S) (S3 := S) (d := sayD (p, q, r)) (lo := none) (hi := some (i : Int)) rfl rfl rfl (by rw [← cut_hi]; rfl)
    have a2 : eTup (aCons (eBin D.add (eBin D.ix (bVar 3) (bVar 4)) (eTup (aCons (eVar 2) aNil))) aNil) [.sh (.int (n : Int)), z1, .sh (.int (a : Int)), .sh (sayD (p, q, r)), .sh (.int (i : Int))] S = some (.tup [varsD (v ++ [a])], S) := tup1 (eBin_of (S1 := S) (S2 := S) (d1 := varsD v) (d2 := varsD [a]) (eBin_of (S1 := S) (S2 := S) (d1 := sayD (p, q, r)) (d2 := .int (i : Int)) rfl rfl (atI_nat hv)) (tup1 (S1 := S) rfl) (add_vars (by rw [List.length_singleton]; omega)))
    have a3 : eSl D.slice (bVar 3) (pIs (eBin D.add (bVar 4) (eC (.int 1)))) pNo [.sh (.int (n : Int)), z1, .sh (.int (a : Int)), .sh (sayD (p, q, r)), .sh (.int (i : Int))] S = some (.tup (([varsD p, varsD q, varsD r] : List D).drop (i + 1)), S) := eSl_of (S1 := S) (S2 := S) (S3 := S) (d := sayD (p, q, r)) (lo := some ((i + 1 : Nat) : Int)) (hi := none) rfl rfl rfl (by rw [← cut_lo]; rfl)
    refine eIf_t c (eBin_of (eBin_of a1 a2 (add_tup (szle ?_))) a3 (add_tup (szle ?_)))
    · rw [List.length_take, List.length_singleton]
      have : min i ([varsD p, varsD q, varsD r] : List D).length ≤ 3 := Nat.le_trans (Nat.min_le_right _ _) (Nat.le_refl 3)
      omega
    · rw [List.length_append, List.length_take, List.length_singleton, List.length_drop]
      have : min i ([varsD p, varsD q, varsD r] : List D).length ≤ 3 := Nat.le_trans (Nat.min_le_right _ _) (Nat.le_refl 3)
      have : ([varsD p, varsD q, varsD r] : List D).length = 3 := rfl
      omega
  have hc : i = 0 ∨ i = 1 ∨ i = 2 ∨ i = 3 := by omega
  rcases hc with rfl | rfl | rfl | rfl
  · exact mk 0 p (by decide) rfl (by omega)
  · exact mk 1 q (by decide) rfl (by omega)
  · exact mk 2 r (by decide) rfl (by omega)
  · have c : tBl (eBin D.lt (bVar 4) (eC (.int 3))) [.sh (.int (n : Int)), z1, .sh (.int (a : Int)), .sh (sayD (p, q, r)), .sh (.int ((3 : Nat) : Int))] S = some (false, S) := by
      rw [← decide_eq_false (show ¬ ((3 : Nat) : Int) < 3 by omega)]
      exact tBl_of (eBin_of (S1 := S) (S2 := S) (d1 := .int ((3 : Nat) : Int)) (d2 := .int 3) rfl rfl (i_lt _ _))
    exact eIf_f c rfl
theorem next_len (a : Nat) (x : Say) (i : Nat) : (nextS a x i).1.length + (nextS a x i).2.1.length + (nextS a x i).2.2.length ≤ x.1.length + x.2.1.length + x.2.2.length + 1 := by
  unfold nextS
  by_cases h0 : i = 0
  · rw [if_pos h0]; simp only [List.length_append, List.length_singleton]; omega
  · rw [if_neg h0]
    by_cases h1 : i = 1
    · rw [if_pos h1]; simp only [List.length_append, List.length_singleton]; omega
    · rw [if_neg h1]
      by_cases h2 : i = 2
      · rw [if_pos h2]; simp only [List.length_append, List.length_singleton]; omega
      · rw [if_neg h2]; omega
theorem as_loop (n : Nat) (S : Sto) : ∀ (as : List Nat) (F : List Say) (k : Nat) (z2 : Sl), (∀ x ∈ F, x.1.length + x.2.1.length + x.2.2.length ≤ k) → k + as.length ≤ 800 → F.length * 4 ^ as.length ≤ 5000 →
    ∃ z2', forF (gNm 2) (sAsg (eLc2 (iSeq (bVar 1)) (gNm 3) tYs (iRng (aCons (eC (.int 4)) aNil)) (gNm 4) tYs asE [3, 4] [4]) (gNm 1)) (natsL as) [.sh (.int (n : Int)), .sh (.lst (F.map sayD)), z2, .un, .un] S = some (.nx [.sh (.int (n : Int)), .sh (.lst ((genGo as F).map sayD)), z2', .un, .un] S)
  | [], F, k, z2, _, _, _ => ⟨z2, rfl⟩
  | a :: as, F, k, z2, hF, hk, hl => by
    rw [List.length_cons] at hk
    have h4 : 4 ^ (a :: as).length = 4 * 4 ^ as.length := by rw [List.length_cons, Nat.pow_succ]; omega
    rw [h4] at hl
    have pos : 1 ≤ 4 ^ as.length := Nat.pow_le_pow_right (n := 4) (by decide) (Nat.zero_le _)
    have co := compO_all (g := gNm 3) (g1 := gNm 4) (tt1 := tYs) (it1 := iRng (aCons (eC (.int 4)) aNil)) (te := asE) (vs1 := [4]) (ρ := [.sh (.int (n : Int)), .sh (.lst (F.map sayD)), .sh (.int (a : Int)), .un, .un]) (S := S) sayD (fun x => (List.range 4).map fun i => sayD (nextS a x i)) F fun x hx => by
      refine ⟨[.sh (.int (n : Int)), .sh (.lst (F.map sayD)), .sh (.int (a : Int)), .sh (sayD x), .un], (List.range 4).map fun (i : Nat) => D.int (i : Int), rfl, iRng_of (ds := [.int ((4 : Nat) : Int)]) (S1 := S) rfl (rangeOf_nat (by decide)), ?_⟩
      refine compF_all (g := gNm 4) (te := asE) (ρ := [.sh (.int (n : Int)), .sh (.lst (F.map sayD)), .sh (.int (a : Int)), .sh (sayD x), .un]) (S := S) (fun (i : Nat) => D.int (i : Int)) (fun i => sayD (nextS a x i)) (List.range 4) fun i hi => ?_
      exact ⟨[.sh (.int (n : Int)), .sh (.lst (F.map sayD)), .sh (.int (a : Int)), .sh (sayD x), .sh (.int (i : Int))], rfl, as_in (List.mem_range.mp hi) (by have := hF x hx; omega) S n a _⟩
    have fl : (F.flatMap fun x => (List.range 4).map fun i => sayD (nextS a x i)) = (genStep a F).map sayD := by
      unfold genStep
      rw [List.map_flatMap]
      congr 1
    rw [fl] at co
    have gl : (genStep a F).length = F.length * 4 := by
      unfold genStep
      rw [List.length_flatMap]
      simp only [List.length_map, List.length_range, List.map_const', List.sum_replicate_nat]
    have hFl : F.length * 4 ≤ 5000 := by
      refine Nat.le_trans ?_ hl
      exact Nat.mul_le_mul_left _ (by omega)
    have ev : eLc2 (iSeq (bVar 1)) (gNm 3) tYs (iRng (aCons (eC (.int 4)) aNil)) (gNm 4) tYs asE [3, 4] [4] [.sh (.int (n : Int)), .sh (.lst (F.map sayD)), .sh (.int (a : Int)), .un, .un] S = some (.lst ((genStep a F).map sayD), S) := by
      unfold eLc2
      rw [iSeq_of (f := bVar 1) (ρ := [.sh (.int (n : Int)), .sh (.lst (F.map sayD)), .sh (.int (a : Int)), .un, .un]) (S := S) (S1 := S) (d := .lst (F.map sayD)) rfl rfl, Option.bind_some]
      show (compO _ _ _ _ _ _ _ [.sh (.int (n : Int)), .sh (.lst (F.map sayD)), .sh (.int (a : Int)), .un, .un] (F.map sayD) S).bind _ = _
      rw [co, Option.bind_some]
      have len : ((genStep a F).map sayD).length ≤ PySem.sizeLine := szle (by rw [List.length_map, gl]; omega)
      show (if ((genStep a F).map sayD).length ≤ PySem.sizeLine then some (D.lst ((genStep a F).map sayD), S) else none) = _
      rw [if_pos len]
    obtain ⟨z', i1⟩ := as_loop n S as (genStep a F) (k + 1) (.sh (.int (a : Int))) (fun x hx => by
      obtain ⟨y, hy, hx⟩ := List.mem_flatMap.mp hx
      obtain ⟨i, _, rfl⟩ := List.mem_map.mp hx
      have := next_len a y i
      have := hF y hy
      omega) (by omega) (by
      rw [gl, Nat.mul_assoc]
      exact hl)
    exact ⟨z', (forF_step (g := gNm 2) (x := .int (a : Int)) (ρ1 := [.sh (.int (n : Int)), .sh (.lst (F.map sayD)), .sh (.int (a : Int)), .un, .un]) rfl (sAsg_of ev rfl)).trans i1⟩
theorem all_sayings_s (n : Nat) (hn : n ≤ 4) (S : Sto) : F_all_sayings [.int (n : Int)] S = some (.tup ((sayL n).map sayD), S) := by
  have st1 : sAsg (eLst (aCons (eTup (aCons (eTup aNil) (aCons (eTup aNil) (aCons (eTup aNil) aNil)))) aNil)) (gNm 1) [.sh (.int (n : Int)), .un, .un, .un, .un] S = some (.nx [.sh (.int (n : Int)), .sh (.lst (([([], [], [])] : List Say).map sayD)), .un, .un, .un] S) := by
    have e0 : ∀ ρ : Rho, eTup aNil ρ S = some (.tup [], S) := fun ρ => eTup_of (ds := []) (S1 := S) rfl (Nat.zero_le _)
    exact sAsg_of (eLst_of (ds := [sayD ([], [], [])]) (aCons_of (tup3 (e0 _) (e0 _) (e0 _)) rfl) (by show 1 ≤ PySem.sizeLine; decide)) rfl
  have rg : iRng (aCons (bVar 0) aNil) [.sh (.int (n : Int)), .sh (.lst (([([], [], [])] : List Say).map sayD)), .un, .un, .un] S = some (natsL (List.range n), S) := iRng_of (ds := [.int (n : Int)]) (S1 := S) rfl (rangeOf_nat (by omega))
  obtain ⟨z2, i1⟩ := as_loop n S (List.range n) [([], [], [])] 0 .un (fun x hx => by rw [List.mem_singleton.mp hx]; exact Nat.le_refl 0) (by rw [List.length_range]; omega) (by
    rw [List.length_range, List.length_singleton, Nat.one_mul]
    exact Nat.le_trans (Nat.pow_le_pow_right (by decide) hn) (by decide))
  have c := compF_map (g := gNm 3) (tt := tAn (tTru (eBin D.ix (bVar 3) (eC (.int 0)))) (tTru (eBin D.ix (bVar 3) (eC (.int 1))))) (te := eVar 3) (ρ := [.sh (.int (n : Int)), .sh (.lst ((genGo (List.range n) [([], [], [])]).map sayD)), z2, .un, .un]) (S := S) sayD okS sayD (genGo (List.range n) [([], [], [])]) fun x _ => by
    refine ⟨[.sh (.int (n : Int)), .sh (.lst ((genGo (List.range n) [([], [], [])]).map sayD)), z2, .sh (sayD x), .un], rfl, ?_, fun _ => rfl⟩
    have t1 : tTru (eBin D.ix (bVar 3) (eC (.int 0))) [.sh (.int (n : Int)), .sh (.lst ((genGo (List.range n) [([], [], [])]).map sayD)), z2, .sh (sayD x), .un] S = some (!x.1.isEmpty, S) := tTru_of (say0 (x := x) rfl) (by unfold varsD; show some (!(x.1.map _).isEmpty) = _; rw [List.isEmpty_map])
    have t2 : tTru (eBin D.ix (bVar 3) (eC (.int 1))) [.sh (.int (n : Int)), .sh (.lst ((genGo (List.range n) [([], [], [])]).map sayD)), z2, .sh (sayD x), .un] S = some (!x.2.1.isEmpty, S) := tTru_of (say1 (x := x) rfl) (by unfold varsD; show some (!(x.2.1.map _).isEmpty) = _; rw [List.isEmpty_map])
    unfold okS
    cases e : (!x.1.isEmpty) with
    | true => rw [e] at t1; rw [Bool.true_and]; exact tAn_t t1 t2
    | false => rw [e] at t1; rw [Bool.false_and]; exact tAn_f t1
  have l := eLc_of (vs := [3]) (it := iSeq (bVar 1)) (ρ := [.sh (.int (n : Int)), .sh (.lst ((genGo (List.range n) [([], [], [])]).map sayD)), z2, .un, .un]) (S := S) rfl c
  have gs : gSorted [.lst (((genGo (List.range n) [([], [], [])]).filter okS).map sayD)] = some (.lst ((sayL n).map sayD)) := by
    show (if canSort ((allL n).map sayD) = true then some (D.lst (((allL n).map sayD).mergeSort D.le')) else none) = _
    rw [if_pos (canSort_say _)]
    unfold sayL
    rw [List.map_mergeSort (s := D.le') (fun a _ b _ => rfl)]
  unfold F_all_sayings b_all_sayings
  refine fnD_rt (S' := S) ?_ rfl
  refine sSeq_of st1 ?_
  refine sSeq_of (sFor_of rg i1) ?_
  exact sRet_of (d := .tup ((sayL n).map sayD)) (eCB_of (aCons_of (eCB_of (aCons_of l rfl) gs) rfl) rfl)
end W13

set_option Elab.async false
set_option linter.all false
set_option maxRecDepth 100000
namespace W13
open DL
open L2 (atI atI_nat ixN)
section
theorem sSetIx_of {i j : Nat} {f fi : Ex} {ρ : Rho} {S S1 S2 : Sto} {xs : List D} {d : D} (h1 : f ρ S = some (d, S1)) (h0 : ρ[i]? = some (.ow (.lst xs))) (h2 : fi ρ S1 = some (.int (j : Int), S2)) (hj : j < xs.length) : sSetIx i f fi ρ S = some (.nx (ρ.set i (.ow (.lst (xs.set j d)))) S2) := by
  unfold sSetIx
  rw [h1, Option.bind_some, h0]
  show (fi ρ S1).bind _ = _
  rw [h2, Option.bind_some]
  show (ixN xs.length (j : Int)).map _ = _
  rw [ixN_lt hj]
  rfl
end
end W13

set_option Elab.async false
set_option linter.all false
set_option maxRecDepth 100000
namespace W13
open DL
open L2 (atI atI_nat ixN)
theorem mem_le_sum {l : List Int} {x : Int} (hx : x ∈ l) (h : ∀ y ∈ l, 0 ≤ y) : x ≤ l.sum := by
  have := sub_sum (l := [x]) (m := l) (List.singleton_sublist.mpr hx) h
  simpa using this
theorem sum_le {k : Int} (hk : 0 ≤ k) : ∀ {l : List Int}, (∀ y ∈ l, y ≤ k) → l.sum ≤ k * l.length
  | [], _ => by simp
  | x :: l, h => by
    have := h x List.mem_cons_self
    have := sum_le hk (l := l) fun y hy => h y (List.mem_cons_of_mem _ hy)
    rw [List.sum_cons, List.length_cons]
    push_cast
    rw [Int.mul_add, Int.mul_one]
    omega
end W13

set_option Elab.async false
set_option linter.all false
set_option maxRecDepth 100000
namespace W13
open DL
open L2 (atI atI_nat)
section
variable {s : List Nat} {ws : List Int}
theorem rowsM_pow : ∀ {s : List Nat} {found : List (List Int)}, (∀ n ∈ s, n ≤ 3) → (rowsM found s).length ≤ found.length * 3 ^ s.length
  | [], found, h => by simp [rowsM]
  | n :: s, found, h => by
    have ih := rowsM_pow (s := s) (found := found.flatMap (rowsStep n)) fun m hm => h m (List.mem_cons_of_mem _ hm)
    have hn := h n List.mem_cons_self
    have fl := flat_len (f := rowsStep n) (k := 3) (xs := found) fun r _ => by unfold rowsStep; simpa using hn
    refine Nat.le_trans ih (Nat.le_trans (Nat.mul_le_mul_right _ fl) ?_)
    rw [List.length_cons, Nat.pow_succ, Nat.mul_assoc, Nat.mul_comm 3]
    exact Nat.le_refl _
end
end W13

set_option Elab.async false
set_option linter.all false
set_option maxRecDepth 100000
namespace W13
open DL
open L2 (atI atI_nat ixN)
section
theorem tm_nf (a b : Int) {A B : Int} (hA : 0 < A) (hB : 0 < B) : tmF (nf a A) (nf b B) = nf (a * b) (A * B) := by
  have ha := nf_cross a A
  have hb := nf_cross b B
  unfold tmF
  refine nf_eq (Int.mul_pos (nf_pos hA) (nf_pos hB)) (Int.mul_pos hA hB) ?_
  generalize (nf a A).1 = a1 at *
  generalize (nf a A).2 = a2 at *
  generalize (nf b B).1 = b1 at *
  generalize (nf b B).2 = b2 at *
  calc a1 * b1 * (A * B) = (a1 * A) * (b1 * B) := by simp only [Int.mul_assoc, Int.mul_left_comm]
    _ = (a * a2) * (b * b2) := by rw [ha, hb]
    _ = a * b * (a2 * b2) := by simp only [Int.mul_assoc, Int.mul_left_comm]
end
end W13

set_option Elab.async false
set_option linter.all false
set_option maxRecDepth 100000
namespace W13
open DL
open L2 (atI atI_nat ixN)
structure SzK (s : List Nat) : Prop where
  len : s.length ≤ 3
  one : 1 ≤ s.length
  val : ∀ n ∈ s, 2 ≤ n ∧ n ≤ 3
theorem SzK.small {s : List Nat} (h : SzK s) : Small [[]] s := by
  refine ⟨fun n hn => (h.val n hn).2, ?_, fun r hr => by rw [List.mem_singleton.mp hr, List.length_nil]; have := h.len; omega⟩
  have : 3 ^ s.length ≤ 3 ^ 3 := Nat.pow_le_pow_right (by decide) h.len
  rw [List.length_singleton]
  omega
theorem SzK.rows {s : List Nat} (h : SzK s) : (rowsM [[]] s).length ≤ 3 ^ s.length := by
  have := rowsM_pow (s := s) (found := [[]]) fun n hn => (h.val n hn).2
  rw [List.length_singleton, Nat.one_mul] at this
  exact this
theorem SzK.ne {s : List Nat} (h : SzK s) : 0 < (rowsM [[]] s).length := by
  have : (s.map fun _ => (0 : Int)) ∈ rowsM [[]] s := rows_mem.mpr ⟨List.length_map _, fun j hj => by
    rw [List.length_map] at hj
    have hv := h.val (s.getD j 0) (by rw [List.getD_eq_getElem?_getD, List.getElem?_eq_getElem hj]; exact List.getElem_mem hj)
    have e : (s.map fun _ => (0 : Int)).getD j 0 = 0 := by
      rw [List.getD_eq_getElem?_getD, List.getElem?_map, List.getElem?_eq_getElem hj]
      rfl
    rw [e]
    omega⟩
  exact List.length_pos_of_mem this
theorem sOwn_of {f : Ex} {i : Nat} {ρ : Rho} {S S1 : Sto} {xs : List D} (h : f ρ S = some (.lst xs, S1)) : sOwn f i ρ S = some (.nx (ρ.set i (.ow (.lst xs))) S1) := by
  unfold sOwn
  rw [h]
  rfl
theorem sum_lst (r : List Int) : gSumA [.lst (r.map D.int)] = some (.int r.sum) := by
  show (intsOf (r.map D.int)).map _ = _
  rw [intsOf_row]
  rfl
theorem sum_set {b : Int} {t : List Int} (h : ∀ x ∈ t, 0 ≤ x) : 0 < ((b :: t).set 0 1).sum := by
  show 0 < ((1 : Int) :: t).sum
  rw [List.sum_cons]
  have := sum_nonneg h
  omega
theorem law_world_s {s : List Nat} (hs : SzK s) {m : Nat} {S : Sto} (hg : Good m S) (hm : m ≤ 1000) : ∃ (ws : List Int) (S' : Sto), F__law_world [.ref 0, szD s] S = some (worldD s ws, S') ∧ ws.length = (rowsM [[]] s).length ∧ (∀ w ∈ ws, 0 ≤ w ∧ w ≤ 3) ∧ 0 < ws.sum ∧ Good (m + 27) S' := by
  have r := law_values_s (szD s) s S rfl hs.small
  have rl := hs.rows
  have l27 : 3 ^ s.length ≤ 27 := Nat.pow_le_pow_right (n := 3) (j := 3) (by decide) hs.len
  have c := compF_st (g := gNm 3) (te := eBin D.ix (eLst (aCons (eC (.int 0)) (aCons (eC (.int 1)) (aCons (eC (.int 1)) (aCons (eC (.int 2)) (aCons (eC (.int 3)) aNil)))))) (eCall F__law_take (aCons (eVar 0) (aCons (eC (.int 5)) aNil)))) (ρ := [.sh (.ref 0), .sh (szD s), .un, .un, .un]) rowD D.int (fun b => 0 ≤ b ∧ b ≤ 3) fun x m S hm hS => by
    obtain ⟨d, S', hd, e, g⟩ := draw_s (fs := aCons (eC (.int 0)) (aCons (eC (.int 1)) (aCons (eC (.int 1)) (aCons (eC (.int 2)) (aCons (eC (.int 3)) aNil))))) (ρ := [.sh (.ref 0), .sh (szD s), .un, .sh (rowD x), .un]) (S := S) (ds := [.int 0, .int 1, .int 1, .int 2, .int 3]) (many := 5) rfl rfl hS (by omega) rfl (by decide) (by decide)
    have : ∃ b : Int, d = .int b ∧ 0 ≤ b ∧ b ≤ 3 := by
      simp only [List.mem_cons, List.not_mem_nil, or_false] at hd
      rcases hd with rfl | rfl | rfl | rfl | rfl
      · exact ⟨0, rfl, by decide, by decide⟩
      · exact ⟨1, rfl, by decide, by decide⟩
      · exact ⟨1, rfl, by decide, by decide⟩
      · exact ⟨2, rfl, by decide, by decide⟩
      · exact ⟨3, rfl, by decide, by decide⟩
    obtain ⟨b, rfl, hb⟩ := this
    exact ⟨[.sh (.ref 0), .sh (szD s), .un, .sh (rowD x), .un], b, S', rfl, e, g, hb⟩
  obtain ⟨bs, S1, e1, g1, bl, ok⟩ := c (rowsM [[]] s) m S hg (by omega)
  have it : iSeq (eCall F__law_values (aCons (eVar 1) aNil)) [.sh (.ref 0), .sh (szD s), .un, .un, .un] S = some ((rowsM [[]] s).map rowD, S) := iSeq_of (eCall_of (ds := [szD s]) (S1 := S) rfl r) rfl
  have st1 := sOwn_of (i := 2) (eLc_of (vs := [3]) (ρ := [.sh (.ref 0), .sh (szD s), .un, .un, .un]) it e1)
  have ct : tBl (eBin D.eq (eCB gSumA (aCons (bVar 2) aNil)) (eC (.int 0))) [.sh (.ref 0), .sh (szD s), .ow (.lst (bs.map D.int)), .un, .un] S1 = some (decide (bs.sum = 0), S1) := tBl_of (eBin_of (S1 := S1) (S2 := S1) (d2 := .int 0) (eCB_of (ds := [.lst (bs.map D.int)]) (S1 := S1) rfl (sum_lst bs)) rfl (eq_int _ _))
  have hb0 : 0 < bs.length := by rw [bl]; exact hs.ne
  have nn : ∀ x ∈ bs, 0 ≤ x := fun x hx => (ok x hx).1
  obtain ⟨ws, hw1, hw2, hw3, st2⟩ : ∃ ws : List Int, ws.length = bs.length ∧ (∀ w ∈ ws, 0 ≤ w ∧ w ≤ 3) ∧ 0 < ws.sum ∧ sIf (tBl (eBin D.eq (eCB gSumA (aCons (bVar 2) aNil)) (eC (.int 0)))) (sSetIx 2 (eC (.int 1)) (eC (.int 0))) sNx [.sh (.ref 0), .sh (szD s), .ow (.lst (bs.map D.int)), .un, .un] S1 = some (.nx [.sh (.ref 0), .sh (szD s), .ow (.lst (ws.map D.int)), .un, .un] S1) := by
    by_cases z : bs.sum = 0
    · rw [decide_eq_true z] at ct
      refine ⟨bs.set 0 1, List.length_set, fun w hw => ?_, ?_, ?_⟩
      · rcases List.mem_or_eq_of_mem_set hw with h | h
        · exact ok w h
        · rw [h]; decide
      · cases bs with
        | nil => simp at hb0
        | cons b t => exact sum_set fun x hx => nn x (.tail _ hx)
      · have st := sSetIx_of (i := 2) (j := 0) (f := eC (.int 1)) (fi := eC (.int 0)) (ρ := [.sh (.ref 0), .sh (szD s), .ow (.lst (bs.map D.int)), .un, .un]) (S := S1) (S1 := S1) (S2 := S1) (xs := bs.map D.int) (d := .int 1) rfl rfl rfl (by rw [List.length_map]; exact hb0)
        rw [List.map_set] 
        exact sIf_t ct st
    · rw [decide_eq_false z] at ct
      have := sum_nonneg nn
      exact ⟨bs, rfl, ok, by omega, cond_f ct⟩
  refine ⟨ws, S1, ?_, by rw [hw1, bl], hw2, hw3, g1.mono (by omega)⟩
  have wb : ws.sum ≤ 81 := by
    have := sum_le (k := 3) (by decide) fun w hw => (hw2 w hw).2
    rw [hw1, bl] at this
    omega
  have c2 := compF_all (g := gNm 4) (te := eCall F__law_fraction (aCons (eVar 4) (aCons (eCB gSumA (aCons (bVar 2) aNil)) aNil))) (ρ := [.sh (.ref 0), .sh (szD s), .sh (.lst (ws.map D.int)), .un, .un]) (S := S1) D.int (fun w => frD (nf w ws.sum)) ws fun w hw =>
    ⟨[.sh (.ref 0), .sh (szD s), .sh (.lst (ws.map D.int)), .un, .sh (.int w)], rfl, eCall_of (aCons_of (S1 := S1) rfl (aCons_of (eCB_of (ds := [.lst (ws.map D.int)]) (S1 := S1) rfl (sum_lst ws)) rfl)) (law_fraction_s w ws.sum S1 (hw2 w hw).1 hw3 (by
      have : ws.sum.natAbs < 2 ^ 10 := by omega
      exact bd_mono this (by decide)))⟩
  have l2 := eLc_of (vs := [4]) (it := iSeq (bVar 2)) (ρ := [.sh (.ref 0), .sh (szD s), .sh (.lst (ws.map D.int)), .un, .un]) (S := S1) rfl c2
  unfold F__law_world b__law_world
  refine fnD_rt ?_ (by rw [g1.len, hg.len])
  refine sSeq_of st1 (sSeq_of st2 (sFz_of rfl ?_))
  exact sRet_of (d := worldD s ws) (pair_s (S1 := S1) (d1 := szD s) rfl (eCB_of (aCons_of l2 rfl) rfl))
theorem rows_snoc : ∀ (s : List Nat) (n : Nat) (F : List (List Int)), rowsM F (s ++ [n]) = (rowsM F s).flatMap (rowsStep n)
  | [], n, F => rfl
  | k :: s, n, F => rows_snoc s n (F.flatMap (rowsStep k))
theorem rows_snoc_len (s : List Nat) (n : Nat) : (rowsM [[]] (s ++ [n])).length = (rowsM [[]] s).length * n := by
  rw [rows_snoc, List.length_flatMap]
  unfold rowsStep
  simp only [List.length_map, List.length_range, List.map_const', List.sum_replicate_nat]
def prodW (ws1 ws2 : List Int) : List Int := ws1.flatMap fun a => ws2.map fun b => a * b
theorem prod_sum : ∀ ws1 ws2 : List Int, (prodW ws1 ws2).sum = ws1.sum * ws2.sum
  | [], ws2 => by simp [prodW]
  | a :: ws1, ws2 => by
    have ih := prod_sum ws1 ws2
    unfold prodW at *
    rw [List.flatMap_cons, List.sum_append, ih, List.sum_cons, Int.add_mul]
    congr 1
    induction ws2 with
    | nil => simp
    | cons b t ih2 =>
      have ih2 := ih2 (prod_sum ws1 t)
      rw [List.map_cons, List.sum_cons, List.sum_cons, ih2, Int.mul_add]
theorem prod_len (ws1 ws2 : List Int) : (prodW ws1 ws2).length = ws1.length * ws2.length := by
  unfold prodW
  rw [List.length_flatMap]
  simp only [List.length_map, List.map_const', List.sum_replicate_nat]
theorem cut_init_s (s : List Nat) (n : Nat) : D.slice (szD (s ++ [n])) none (some (-1)) = some (szD s) := by
  show some (D.tup (cutD ((s ++ [n]).map fun (n : Nat) => D.int (n : Int)) none (some (-1)))) = _
  unfold cutD
  have a : HT.sIx ((s ++ [n]).map fun (n : Nat) => D.int (n : Int)).length ((s ++ [n]).map fun (n : Nat) => D.int (n : Int)).length (some (-1)) = s.length := by
    show ((-1 : Int) + (((s ++ [n]).map fun (n : Nat) => D.int (n : Int)).length : Nat)).toNat = s.length
    rw [List.length_map, List.length_append, List.length_singleton]
    omega
  have b : HT.sIx ((s ++ [n]).map fun (n : Nat) => D.int (n : Int)).length 0 none = 0 := rfl
  rw [a, b, List.drop_zero, Nat.sub_zero, List.map_append, List.take_left' (by rw [List.length_map])]
  rfl
theorem cut_last_s (s : List Nat) (n : Nat) : D.slice (szD (s ++ [n])) (some (-1)) none = some (szD [n]) := by
  show some (D.tup (cutD ((s ++ [n]).map fun (n : Nat) => D.int (n : Int)) (some (-1)) none)) = _
  unfold cutD
  have a : HT.sIx ((s ++ [n]).map fun (n : Nat) => D.int (n : Int)).length 0 (some (-1)) = s.length := by
    show ((-1 : Int) + (((s ++ [n]).map fun (n : Nat) => D.int (n : Int)).length : Nat)).toNat = s.length
    rw [List.length_map, List.length_append, List.length_singleton]
    omega
  have b : HT.sIx ((s ++ [n]).map fun (n : Nat) => D.int (n : Int)).length ((s ++ [n]).map fun (n : Nat) => D.int (n : Int)).length none = s.length + 1 := by
    show ((s ++ [n]).map fun (n : Nat) => D.int (n : Int)).length = s.length + 1
    rw [List.length_map, List.length_append, List.length_singleton]
  rw [a, b, List.map_append, List.drop_left' (by rw [List.length_map])]
  show some (D.tup (([n].map fun (n : Nat) => D.int (n : Int)).take (s.length + 1 - s.length))) = _
  rw [show s.length + 1 - s.length = 1 by omega]
  rfl
theorem tw_loop {W1 W2 : Int} (h1 : 0 < W1) (h2 : 0 < W2) (b1 : W1.natAbs < 2 ^ 10) (b2 : W2.natAbs < 2 ^ 10) (ws2 : List Int) (hw2 : ∀ w ∈ ws2, 0 ≤ w ∧ w ≤ 3) (hl2 : ws2.length ≤ 30) (S : Sto) (a b c d0 : Sl) (h3 : d0 = .sh (.tup [c0D, .tup (ws2.map fun w => frD (nf w W2))])) : ∀ (suf pre : List Int) (z5 : Sl), (∀ w ∈ suf, 0 ≤ w ∧ w ≤ 3) → pre.length + 30 * suf.length ≤ 5000 →
    ∃ z5', forF (gNm 5) (sAsg (eBin D.add (bVar 4) (eLc (iSeq (eBin D.ix (bVar 3) (eC (.int 1)))) (gNm 6) tYs (eCall F__law_times (aCons (eVar 5) (aCons (eVar 6) aNil))) [6])) (gNm 4)) (suf.map fun w => frD (nf w W1)) [a, b, c, d0, .sh (.lst (pre.map fun w => frD (nf w (W1 * W2)))), z5, .un] S = some (.nx [a, b, c, d0, .sh (.lst ((pre ++ prodW suf ws2).map fun w => frD (nf w (W1 * W2)))), z5', .un] S)
  | [], pre, z5, _, _ => ⟨z5, by simp only [prodW, List.flatMap_nil, List.append_nil]; rfl⟩
  | w :: suf, pre, z5, hw, hl => by
    rw [List.length_cons] at hl
    have hw0 := hw w (.head _)
    have co := compF_all (g := gNm 6) (te := eCall F__law_times (aCons (eVar 5) (aCons (eVar 6) aNil))) (ρ := [a, b, c, d0, .sh (.lst (pre.map fun w => frD (nf w (W1 * W2)))), .sh (frD (nf w W1)), .un]) (S := S) (fun y : Int => frD (nf y W2)) (fun y => frD (nf (w * y) (W1 * W2))) ws2 fun y hy => by
      have hy0 := hw2 y hy
      have t := law_times_s (p := nf w W1) (q := nf y W2) S (nf_fb (k := 10) (by omega) h1 b1) (nf_fb (k := 10) (by omega) h2 b2) (nf_nn h1 hw0.1) (nf_nn h2 hy0.1) (by decide)
      rw [tm_nf _ _ h1 h2] at t
      exact ⟨[a, b, c, d0, .sh (.lst (pre.map fun w => frD (nf w (W1 * W2)))), .sh (frD (nf w W1)), .sh (frD (nf y W2))], rfl, eCall_of (ds := [frD (nf w W1), frD (nf y W2)]) (S1 := S) rfl t⟩
    have it : iSeq (eBin D.ix (bVar 3) (eC (.int 1))) [a, b, c, d0, .sh (.lst (pre.map fun w => frD (nf w (W1 * W2)))), .sh (frD (nf w W1)), .un] S = some (ws2.map fun w => frD (nf w W2), S) := by
      rw [h3]
      exact iSeq_of (eBin_of (S1 := S) (S2 := S) (d1 := .tup [c0D, .tup (ws2.map fun w => frD (nf w W2))]) (d2 := .int 1) rfl rfl (at1 _ _ _)) rfl
    have lc := eLc_of (vs := [6]) (ρ := [a, b, c, d0, .sh (.lst (pre.map fun w => frD (nf w (W1 * W2)))), .sh (frD (nf w W1)), .un]) it co
    have ee : (ws2.map fun y => frD (nf (w * y) (W1 * W2))) = (ws2.map fun y => w * y).map fun w => frD (nf w (W1 * W2)) := by rw [List.map_map]; rfl
    have st : sAsg (eBin D.add (bVar 4) (eLc (iSeq (eBin D.ix (bVar 3) (eC (.int 1)))) (gNm 6) tYs (eCall F__law_times (aCons (eVar 5) (aCons (eVar 6) aNil))) [6])) (gNm 4) [a, b, c, d0, .sh (.lst (pre.map fun w => frD (nf w (W1 * W2)))), .sh (frD (nf w W1)), .un] S = some (.nx [a, b, c, d0, .sh (.lst ((pre ++ ws2.map fun y => w * y).map fun w => frD (nf w (W1 * W2)))), .sh (frD (nf w W1)), .un] S) := by
      refine sAsg_of (eBin_of (S1 := S) (S2 := S) (d1 := .lst (pre.map fun w => frD (nf w (W1 * W2)))) rfl lc ?_) rfl
      rw [ee, List.map_append]
      exact add_lst (szle (by rw [List.length_map, List.length_map, List.length_map]; omega))
    obtain ⟨z', i⟩ := tw_loop h1 h2 b1 b2 ws2 hw2 hl2 S a b c d0 h3 suf (pre ++ ws2.map fun y => w * y) (.sh (frD (nf w W1))) (fun x hx => hw x (.tail _ hx)) (by rw [List.length_append, List.length_map]; omega)
    refine ⟨z', (forF_step (g := gNm 5) (x := frD (nf w W1)) (ρ1 := [a, b, c, d0, .sh (.lst (pre.map fun w => frD (nf w (W1 * W2)))), .sh (frD (nf w W1)), .un]) rfl st).trans (i.trans ?_)⟩
    unfold prodW
    rw [List.flatMap_cons, List.append_assoc]
theorem times_worlds_s {s : List Nat} {n : Nat} (hs : SzK (s ++ [n])) (h1 : 1 ≤ s.length) {m : Nat} {S : Sto} (hg : Good m S) (hm : m ≤ 900) : ∃ (ws : List Int) (S' : Sto), F__law_times_worlds [.ref 0, szD (s ++ [n])] S = some (worldD (s ++ [n]) ws, S') ∧ Wo (s ++ [n]) ws ∧ Good (m + 54) S' := by
  have hl := hs.len
  rw [List.length_append, List.length_singleton] at hl
  have k1 : SzK s := ⟨by omega, h1, fun k hk => hs.val k (List.mem_append_left _ hk)⟩
  have k2 : SzK [n] := ⟨by show 1 ≤ 3; decide, by show 1 ≤ 1; decide, fun k hk => hs.val k (List.mem_append_right _ hk)⟩
  obtain ⟨ws1, S1, e1, l1, o1, p1, g1⟩ := law_world_s k1 hg (by omega)
  obtain ⟨ws2, S2, e2, l2, o2, p2, g2⟩ := law_world_s k2 g1 (by omega)
  have r1 := k1.rows
  have r2 := k2.rows
  have q1 : 3 ^ s.length ≤ 9 := Nat.pow_le_pow_right (n := 3) (j := 2) (by decide) (by omega)
  rw [List.length_singleton] at r2
  have w1 : ws1.sum ≤ 27 := by
    have := sum_le (k := 3) (by decide) fun w hw => (o1 w hw).2
    omega
  have w2 : ws2.sum ≤ 9 := by
    have := sum_le (k := 3) (by decide) fun w hw => (o2 w hw).2
    omega
  have st1 : sPar 2 3 (aCons (eCall F__law_world (aCons (eVar 0) (aCons (eSl D.slice (bVar 1) pNo (pIs (eUn D.neg (eC (.int 1))))) aNil))) (aCons (eCall F__law_world (aCons (eVar 0) (aCons (eSl D.slice (bVar 1) (pIs (eUn D.neg (eC (.int 1)))) pNo) aNil))) aNil)) [.sh (.ref 0), .sh (szD (s ++ [n])), .un, .un, .un, .un, .un] S = some (.nx [.sh (.ref 0), .sh (szD (s ++ [n])), .sh (worldD s ws1), .sh (worldD [n] ws2), .un, .un, .un] S2) :=
    sPar_of (aCons_of (eCall_of (aCons_of (S1 := S) rfl (aCons_of (eSl_of (S1 := S) (S2 := S) (S3 := S) (d := szD (s ++ [n])) (lo := none) (hi := some (-1)) rfl rfl (pIs_of (S1 := S) rfl) (cut_init_s s n)) rfl)) e1) (aCons_of (eCall_of (aCons_of (S1 := S1) rfl (aCons_of (eSl_of (S1 := S1) (S2 := S1) (S3 := S1) (d := szD (s ++ [n])) (lo := some (-1)) (hi := none) rfl (pIs_of (S1 := S1) rfl) rfl (cut_last_s s n)) rfl)) e2) rfl))
  obtain ⟨z5, lp⟩ := tw_loop (c0D := szD [n]) p1 p2 (by omega) (by omega) ws2 o2 (by rw [l2]; omega) S2 (.sh (.ref 0)) (.sh (szD (s ++ [n]))) (.sh (worldD s ws1)) (.sh (worldD [n] ws2)) rfl ws1 [] .un o1 (by rw [List.length_nil, l1]; omega)
  rw [List.nil_append] at lp
  have hsum := prod_sum ws1 ws2
  refine ⟨prodW ws1 ws2, S2, ?_, ⟨hs.small, ?_, fun w hw => ?_, by rw [hsum]; exact Int.mul_pos p1 p2, ?_⟩, g2.mono (by omega)⟩
  · unfold F__law_times_worlds b__law_times_worlds
    refine fnD_rt ?_ (by rw [g2.len, hg.len])
    refine sSeq_of st1 ?_
    refine sSeq_of (ρ' := [.sh (.ref 0), .sh (szD (s ++ [n])), .sh (worldD s ws1), .sh (worldD [n] ws2), .sh (.lst (([] : List Int).map fun w => frD (nf w (ws1.sum * ws2.sum)))), .un, .un]) (sAsg_of eLst_nil rfl) ?_
    refine sSeq_of (sFor_of (iSeq_of (eBin_of (S1 := S2) (S2 := S2) (d1 := worldD s ws1) (d2 := .int 1) rfl rfl (at1 _ _ _)) rfl) lp) ?_
    rw [← hsum]
    exact sRet_of (d := worldD (s ++ [n]) (prodW ws1 ws2)) (pair_s (S1 := S2) (d1 := szD (s ++ [n])) rfl (eCB_of (ds := [.lst ((prodW ws1 ws2).map fun w => frD (nf w (prodW ws1 ws2).sum))]) (S1 := S2) rfl rfl))
  · rw [prod_len, rows_snoc_len, l1, l2]
    have : (rowsM [[]] [n]).length = n := by
      have := rows_snoc_len [] n
      rw [List.nil_append] at this
      rw [this]
      show 1 * n = n
      omega
    rw [this]
  · unfold prodW at hw
    obtain ⟨a, ha, hw⟩ := List.mem_flatMap.mp hw
    obtain ⟨b, hb, rfl⟩ := List.mem_map.mp hw
    exact Int.mul_nonneg (o1 a ha).1 (o2 b hb).1
  · rw [hsum]
    have : ws1.sum * ws2.sum ≤ 27 * 9 := Int.mul_le_mul w1 w2 (by omega) (by omega)
    omega
end W13

set_option Elab.async false
set_option linter.all false
set_option maxRecDepth 100000
namespace W13
open DL
open L2 (atI atI_nat ixN)
/-! ## weights of rows: sums over one variable, independence -/
def sumR (k : Nat) (f : Nat → Int) : Int := ((List.range k).map f).sum
theorem sumR_congr {k : Nat} {f g : Nat → Int} (h : ∀ x, x < k → f x = g x) : sumR k f = sumR k g := by
  unfold sumR
  rw [List.map_congr_left fun x hx => h x (List.mem_range.mp hx)]
theorem sum_mul_l (c : Int) (f : Nat → Int) : ∀ l : List Nat, (l.map fun x => c * f x).sum = c * (l.map f).sum
  | [] => by simp
  | x :: l => by
    rw [List.map_cons, List.sum_cons, sum_mul_l c f l, List.map_cons, List.sum_cons, Int.mul_add]
theorem sum_mul_r (c : Int) (f : Nat → Int) : ∀ l : List Nat, (l.map fun x => f x * c).sum = (l.map f).sum * c
  | [] => by simp
  | x :: l => by
    rw [List.map_cons, List.sum_cons, sum_mul_r c f l, List.map_cons, List.sum_cons, Int.add_mul]
theorem sumR_mul_l (c : Int) (k : Nat) (f : Nat → Int) : sumR k (fun x => c * f x) = c * sumR k f := sum_mul_l c f _
theorem sumR_mul_r (c : Int) (k : Nat) (f : Nat → Int) : sumR k (fun x => f x * c) = sumR k f * c := sum_mul_r c f _
theorem sum_add (f g : Nat → Int) : ∀ l : List Nat, (l.map fun x => f x + g x).sum = (l.map f).sum + (l.map g).sum
  | [] => by simp
  | x :: l => by
    rw [List.map_cons, List.sum_cons, sum_add f g l, List.map_cons, List.sum_cons, List.map_cons, List.sum_cons]
    omega
theorem sumR_add (k : Nat) (f g : Nat → Int) : sumR k (fun x => f x + g x) = sumR k f + sumR k g := sum_add f g _
theorem sum_zero (f : Nat → Int) : ∀ l : List Nat, (∀ x ∈ l, f x = 0) → (l.map f).sum = 0
  | [], _ => by simp
  | x :: l, h => by
    rw [List.map_cons, List.sum_cons, h x (.head _), sum_zero f l fun y hy => h y (.tail _ hy), Int.add_zero]
theorem sum_one (w : Int) (x0 : Nat) : ∀ l : List Nat, l.Nodup → x0 ∈ l → (l.map fun x => if x = x0 then w else 0).sum = w
  | [], _, h => by simp at h
  | x :: l, nd, h => by
    rw [List.map_cons, List.sum_cons]
    obtain ⟨n1, n2⟩ := List.nodup_cons.mp nd
    by_cases e : x = x0
    · subst e
      rw [if_pos rfl, sum_zero _ l fun y hy => if_neg fun (z : y = x) => n1 (z ▸ hy), Int.add_zero]
    · rw [if_neg e, Int.zero_add]
      exact sum_one w x0 l n2 ((List.mem_cons.mp h).resolve_left fun z => e z.symm)
/-- the sum of what fits, of a list of rows with weights -/
def wS (q : List Int → Bool) (Z : List (List Int × Int)) : Int := ((Z.filter fun p => q p.1).map (·.2)).sum
theorem wS_cons (q : List Int → Bool) (z : List Int × Int) (Z : List (List Int × Int)) : wS q (z :: Z) = (if q z.1 = true then z.2 else 0) + wS q Z := by
  unfold wS
  rw [List.filter_cons]
  by_cases h : q z.1 = true
  · rw [if_pos h, if_pos h, List.map_cons, List.sum_cons]
  · rw [if_neg h, if_neg h, Int.zero_add]
theorem wS_split (k : Nat) (p : Nat → List Int → Bool) (q : List Int → Bool) : ∀ Z : List (List Int × Int), (∀ z ∈ Z, ∃ x0, x0 < k ∧ ∀ x, x < k → p x z.1 = (q z.1 && decide (x = x0))) → sumR k (fun x => wS (p x) Z) = wS q Z
  | [], _ => sum_zero _ _ fun x _ => rfl
  | z :: Z, h => by
    have ih := wS_split k p q Z fun y hy => h y (.tail _ hy)
    obtain ⟨x0, hx0, hp⟩ := h z (.head _)
    have e : sumR k (fun x => wS (p x) (z :: Z)) = sumR k (fun x => (if p x z.1 = true then z.2 else 0) + wS (p x) Z) := sumR_congr fun x _ => wS_cons _ _ _
    rw [e, sumR_add, ih, wS_cons]
    congr 1
    cases hq : q z.1 with
    | false =>
      rw [if_neg Bool.false_ne_true]
      exact sum_zero _ _ fun x hx => by
        rw [hp x (List.mem_range.mp hx), hq, Bool.false_and, if_neg Bool.false_ne_true]
    | true =>
      rw [if_pos rfl]
      have e2 : sumR k (fun x => if p x z.1 = true then z.2 else 0) = sumR k (fun x => if x = x0 then z.2 else 0) := sumR_congr fun x hx => by
        rw [hp x hx, hq, Bool.true_and]
        by_cases c : x = x0
        · rw [if_pos (decide_eq_true c), if_pos c]
        · rw [if_neg (by rw [decide_eq_false c]; exact Bool.false_ne_true), if_neg c]
      rw [e2]
      exact sum_one z.2 x0 _ List.nodup_range (List.mem_range.mpr hx0)
section
variable {s : List Nat} {ws : List Int}
theorem mW_eq (V : List Nat) (r : List Int) : mW s ws V r = wS (fun r' => fitsB r' (atE V r)) ((rowsM [[]] s).zip ws) := rfl
theorem fits_cons (r' r : List Int) (v : Nat) (V : List Nat) : fitsB r' (atE (v :: V) r) = (decide (r'[v]? = some (r.getD v 0)) && fitsB r' (atE V r)) := rfl
theorem atE_set {V : List Nat} {r : List Int} {v : Nat} (x : Int) (hv : v ∉ V) : atE V (r.set v x) = atE V r := by
  unfold atE
  refine List.map_congr_left fun u hu => ?_
  have : u ≠ v := fun z => hv (z ▸ hu)
  rw [List.getD_eq_getElem?_getD, List.getElem?_set_ne (fun z => this z.symm), ← List.getD_eq_getElem?_getD]
theorem mW_set {V : List Nat} (r : List Int) {v : Nat} (x : Int) (hv : v ∉ V) : mW s ws V (r.set v x) = mW s ws V r := by
  unfold mW
  rw [atE_set x hv]
theorem row_set {r : List Int} {v x : Nat} (hr : r ∈ rowsM [[]] s) (hx : x < s.getD v 0) : r.set v (x : Int) ∈ rowsM [[]] s := by
  obtain ⟨hl, ho⟩ := rows_mem.mp hr
  refine rows_mem.mpr ⟨by rw [List.length_set, hl], fun j hj => ?_⟩
  rw [List.length_set] at hj
  by_cases e : v = j
  · subst e
    rw [List.getD_eq_getElem?_getD, List.getElem?_set_self hj]
    show 0 ≤ (x : Int) ∧ (x : Int) < _
    omega
  · rw [List.getD_eq_getElem?_getD, List.getElem?_set_ne e, ← List.getD_eq_getElem?_getD]
    exact ho j hj
/-- the sum over one variable -/
theorem mW_sum {V : List Nat} {r : List Int} {v : Nat} (hr : r ∈ rowsM [[]] s) (hv : v < s.length) (hV : v ∉ V) : sumR (s.getD v 0) (fun x => mW s ws (v :: V) (r.set v (x : Int))) = mW s ws V r := by
  have rl := row_len hr
  refine wS_split (s.getD v 0) (fun x r' => fitsB r' (atE (v :: V) (r.set v (x : Int)))) (fun r' => fitsB r' (atE V r)) ((rowsM [[]] s).zip ws) fun z hz => ?_
  have hz1 : z.1 ∈ rowsM [[]] s := (List.of_mem_zip hz).1
  obtain ⟨zl, zo⟩ := rows_mem.mp hz1
  have zv := zo v (by omega)
  have gv : z.1[v]? = some (z.1.getD v 0) := by
    rw [List.getD_eq_getElem?_getD, List.getElem?_eq_getElem (by omega)]
    rfl
  refine ⟨(z.1.getD v 0).toNat, by omega, fun x hx => ?_⟩
  show fitsB z.1 (atE (v :: V) (r.set v (x : Int))) = _
  rw [fits_cons, atE_set _ hV, gv, Bool.and_comm]
  congr 1
  have e : (r.set v (x : Int)).getD v 0 = (x : Int) := by
    rw [List.getD_eq_getElem?_getD, List.getElem?_set_self (by omega)]
    rfl
  rw [e]
  refine decide_eq_decide.mpr ⟨fun h => ?_, fun h => ?_⟩
  · have := Option.some.inj h
    omega
  · rw [h]
    congr 1
    omega
theorem mW_nil (h : Wo s ws) (r : List Int) : mW s ws [] r = ws.sum := by
  have e : ((rowsM [[]] s).zip ws).filter (fun p => fitsB p.1 (atE [] r)) = (rowsM [[]] s).zip ws := List.filter_eq_self.mpr fun p _ => rfl
  show ((((rowsM [[]] s).zip ws).filter fun p => fitsB p.1 (atE [] r)).map (·.2)).sum = _
  rw [e, List.map_snd_zip (by rw [h.len]; exact Nat.le_refl _)]
theorem mW_nn (h : Wo s ws) (V : List Nat) (r : List Int) : 0 ≤ mW s ws V r := h.wt_nn _
theorem mW_le (h : Wo s ws) (v : Nat) (V : List Nat) (r : List Int) : mW s ws (v :: V) r ≤ mW s ws V r := by
  have e : ((rowsM [[]] s).zip ws).filter (fun p => fitsB p.1 (atE (v :: V) r)) = (((rowsM [[]] s).zip ws).filter fun p => fitsB p.1 (atE V r)).filter fun p => decide (p.1[v]? = some (r.getD v 0)) := by
    rw [List.filter_filter]
    rfl
  show ((((rowsM [[]] s).zip ws).filter fun p => fitsB p.1 (atE (v :: V) r)).map (·.2)).sum ≤ ((((rowsM [[]] s).zip ws).filter fun p => fitsB p.1 (atE V r)).map (·.2)).sum
  rw [e]
  refine sub_sum (List.Sublist.map _ List.filter_sublist) fun x hx => ?_
  exact h.nn x ((zip_sub _ _ _).subset hx)
theorem mW_pos (h : Wo s ws) (hp : ∀ w ∈ ws, 0 < w) {r : List Int} (hr : r ∈ rowsM [[]] s) {V : List Nat} (hV : ∀ v ∈ V, v < s.length) : 0 < mW s ws V r := by
  obtain ⟨j, hj, e⟩ := List.getElem_of_mem hr
  have hj2 : j < ws.length := by rw [h.len]; exact hj
  have hm : (r, ws[j]) ∈ (rowsM [[]] s).zip ws := by
    refine List.mem_of_getElem? (i := j) ?_
    rw [List.getElem?_zip_eq_some]
    exact ⟨by rw [List.getElem?_eq_getElem hj, e], List.getElem?_eq_getElem hj2⟩
  have hf : fitsB r (atE V r) = true := by
    unfold fitsB atE
    rw [List.all_map, List.all_eq_true]
    intro v hv
    have : v < r.length := by rw [row_len hr]; exact hV v hv
    show decide (r[v]? = some (r.getD v 0)) = true
    rw [List.getD_eq_getElem?_getD, List.getElem?_eq_getElem this]
    exact decide_eq_true rfl
  have hw : ws[j] ∈ (((rowsM [[]] s).zip ws).filter fun p => fitsB p.1 (atE V r)).map (·.2) := List.mem_map.mpr ⟨(r, ws[j]), List.mem_filter.mpr ⟨hm, hf⟩, rfl⟩
  have h1 := hp ws[j] (List.getElem_mem hj2)
  have h2 := mem_le_sum hw fun y hy => h.nn y ((zip_sub _ _ _).subset hy)
  have h3 : mW s ws V r = ((((rowsM [[]] s).zip ws).filter fun p => fitsB p.1 (atE V r)).map (·.2)).sum := rfl
  omega
theorem nf_inj {x y w : Int} (hw : 0 < w) (h : nf x w = nf y w) : x = y := by
  have a := nf_cross x w
  have b := nf_cross y w
  rw [h] at a
  have c := a.symm.trans b
  exact Int.eq_of_mul_eq_mul_right (Int.ne_of_gt (nf_pos hw)) c
theorem brk_iff (h : Wo s ws) (x : Say) (r : List Int) : brk s ws x r = false ↔ mW s ws (x.1 ++ x.2.2) r * mW s ws (x.2.1 ++ x.2.2) r = mW s ws (x.1 ++ x.2.1 ++ x.2.2) r * mW s ws x.2.2 r := by
  unfold brk
  rw [tm_nf _ _ h.pos h.pos, tm_nf _ _ h.pos h.pos, Bool.not_eq_false', decide_eq_true_eq]
  exact ⟨fun e => nf_inj (Int.mul_pos h.pos h.pos) e, fun e => by rw [e]⟩
/-- it holds -/
def Hol (s : List Nat) (ws : List Int) (x : Say) : Prop := ∀ r ∈ rowsM [[]] s, mW s ws (x.1 ++ x.2.2) r * mW s ws (x.2.1 ++ x.2.2) r = mW s ws (x.1 ++ x.2.1 ++ x.2.2) r * mW s ws x.2.2 r
theorem hol_iff (h : Wo s ws) (x : Say) : ffB s ws x = none ↔ Hol s ws x := by
  unfold ffB
  rw [List.find?_eq_none]
  exact ⟨fun e r hr => (brk_iff h x r).mp (Bool.eq_false_iff.mpr (e r hr)), fun e r hr => Bool.eq_false_iff.mp ((brk_iff h x r).mpr (e r hr))⟩
theorem hol_turn {a b c : List Nat} (h : Hol s ws (a, b, c)) : Hol s ws (b, a, c) := fun r hr => by
  have := h r hr
  show mW s ws (b ++ c) r * mW s ws (a ++ c) r = mW s ws (b ++ a ++ c) r * mW s ws c r
  rw [Int.mul_comm, mW_congr r (V := b ++ a ++ c) (V' := a ++ b ++ c) fun v => by simp only [List.mem_append]; exact ⟨fun z => z.elim (fun z => .inl (z.elim .inr .inl)) .inr, fun z => z.elim (fun z => .inl (z.elim .inr .inl)) .inr⟩]
  exact this
/-! three variables i, u, v -/
theorem hol_uv {i u v : Nat} : Hol s ws ([i], [u, v], []) ↔ ∀ r ∈ rowsM [[]] s, mW s ws [i] r * mW s ws [u, v] r = mW s ws [i, u, v] r * mW s ws [] r := Iff.rfl
theorem hol_v {i v : Nat} : Hol s ws ([i], [v], []) ↔ ∀ r ∈ rowsM [[]] s, mW s ws [i] r * mW s ws [v] r = mW s ws [i, v] r * mW s ws [] r := Iff.rfl
theorem hol_u_v {i u v : Nat} : Hol s ws ([i], [u], [v]) ↔ ∀ r ∈ rowsM [[]] s, mW s ws [i, v] r * mW s ws [u, v] r = mW s ws [i, u, v] r * mW s ws [v] r := Iff.rfl
theorem hol_swap {i u v : Nat} (h : Hol s ws ([i], [u, v], [])) : Hol s ws ([i], [v, u], []) := hol_uv.mpr fun r hr => by
  have e1 : mW s ws [v, u] r = mW s ws [u, v] r := mW_congr r fun w => by simp only [List.mem_cons, List.not_mem_nil, or_false]; exact ⟨fun z => z.elim .inr .inl, fun z => z.elim .inr .inl⟩
  have e2 : mW s ws [i, v, u] r = mW s ws [i, u, v] r := mW_congr r fun w => by simp only [List.mem_cons, List.not_mem_nil, or_false]; exact ⟨fun z => z.elim .inl fun z => .inr (z.elim .inr .inl), fun z => z.elim .inl fun z => .inr (z.elim .inr .inl)⟩
  rw [e1, e2]
  exact hol_uv.mp h r hr
structure Tri (s : List Nat) (i u v : Nat) : Prop where
  li : i < s.length
  lu : u < s.length
  lv : v < s.length
  iu : i ≠ u
  iv : i ≠ v
  uv : u ≠ v
theorem cyc {i u v : Nat} (r : List Int) : mW s ws [i, u, v] r = mW s ws [u, i, v] r := mW_congr r fun w => by
  simp only [List.mem_cons, List.not_mem_nil, or_false]
  exact ⟨fun z => z.elim (fun z => .inr (.inl z)) fun z => z.elim .inl fun z => .inr (.inr z), fun z => z.elim (fun z => .inr (.inl z)) fun z => z.elim .inl fun z => .inr (.inr z)⟩
theorem less_v {i u v : Nat} (t : Tri s i u v) (h : Hol s ws ([i], [u, v], [])) : Hol s ws ([i], [v], []) := hol_v.mpr fun r hr => by
  have nu1 : u ∉ [v] := by simp only [List.mem_singleton]; exact t.uv
  have nu2 : u ∉ [i, v] := by simp only [List.mem_cons, List.not_mem_nil, or_false]; exact fun z => z.elim (fun z => t.iu z.symm) t.uv
  have nu3 : u ∉ [i] := by simp only [List.mem_singleton]; exact fun z => t.iu z.symm
  have e : sumR (s.getD u 0) (fun x => mW s ws [i] r * mW s ws [u, v] (r.set u (x : Int))) = sumR (s.getD u 0) (fun x => mW s ws [u, i, v] (r.set u (x : Int)) * mW s ws [] r) := sumR_congr fun x hx => by
    have := hol_uv.mp h _ (row_set (v := u) hr hx)
    rw [mW_set r (x : Int) nu3, mW_set r (x : Int) (V := []) (by simp), cyc] at this
    exact this
  rw [sumR_mul_l, sumR_mul_r, mW_sum hr t.lu nu1, mW_sum hr t.lu nu2] at e
  exact e
theorem weak_v (w : Wo s ws) {i u v : Nat} (t : Tri s i u v) (h : Hol s ws ([i], [u, v], [])) : Hol s ws ([i], [u], [v]) := hol_u_v.mpr fun r hr => by
  have h1 := hol_v.mp (less_v t h) r hr
  have h2 := hol_uv.mp h r hr
  have hW : 0 < mW s ws [] r := by rw [mW_nil w]; exact w.pos
  refine Int.eq_of_mul_eq_mul_right (Int.ne_of_gt hW) ?_
  calc mW s ws [i, v] r * mW s ws [u, v] r * mW s ws [] r = (mW s ws [i, v] r * mW s ws [] r) * mW s ws [u, v] r := by rw [Int.mul_assoc, Int.mul_comm (mW s ws [u, v] r), ← Int.mul_assoc]
    _ = (mW s ws [i] r * mW s ws [v] r) * mW s ws [u, v] r := by rw [h1]
    _ = (mW s ws [i] r * mW s ws [u, v] r) * mW s ws [v] r := by rw [Int.mul_assoc, Int.mul_comm (mW s ws [v] r), ← Int.mul_assoc]
    _ = (mW s ws [i, u, v] r * mW s ws [] r) * mW s ws [v] r := by rw [h2]
    _ = mW s ws [i, u, v] r * mW s ws [v] r * mW s ws [] r := by rw [Int.mul_assoc, Int.mul_comm (mW s ws [] r), ← Int.mul_assoc]
theorem join_uv (w : Wo s ws) {i u v : Nat} (h1 : Hol s ws ([i], [u], [v])) (h2 : Hol s ws ([i], [v], [])) : Hol s ws ([i], [u, v], []) := hol_uv.mpr fun r hr => by
  have e1 := hol_u_v.mp h1 r hr
  have e2 := hol_v.mp h2 r hr
  by_cases z : mW s ws [v] r = 0
  · have a1 := mW_le w u [v] r
    have a2 := mW_nn w [u, v] r
    have a3 := mW_le w i [u, v] r
    have a4 := mW_nn w [i, u, v] r
    have z1 : mW s ws [u, v] r = 0 := by omega
    have z2 : mW s ws [i, u, v] r = 0 := by omega
    rw [z1, z2, Int.mul_zero, Int.zero_mul]
  · refine Int.eq_of_mul_eq_mul_right z ?_
    calc mW s ws [i] r * mW s ws [u, v] r * mW s ws [v] r = (mW s ws [i] r * mW s ws [v] r) * mW s ws [u, v] r := by rw [Int.mul_assoc, Int.mul_comm (mW s ws [u, v] r), ← Int.mul_assoc]
      _ = (mW s ws [i, v] r * mW s ws [] r) * mW s ws [u, v] r := by rw [e2]
      _ = (mW s ws [i, v] r * mW s ws [u, v] r) * mW s ws [] r := by rw [Int.mul_assoc, Int.mul_comm (mW s ws [] r), ← Int.mul_assoc]
      _ = (mW s ws [i, u, v] r * mW s ws [v] r) * mW s ws [] r := by rw [e1]
      _ = mW s ws [i, u, v] r * mW s ws [] r * mW s ws [v] r := by rw [Int.mul_assoc, Int.mul_comm (mW s ws [v] r), ← Int.mul_assoc]
theorem cross_uv (w : Wo s ws) (hp : ∀ x ∈ ws, 0 < x) {i u v : Nat} (t : Tri s i u v) (h1 : Hol s ws ([i], [u], [v])) (h2 : Hol s ws ([i], [v], [u])) : Hol s ws ([i], [u, v], []) := by
  refine join_uv w h1 (hol_v.mpr fun r hr => ?_)
  have key : ∀ r ∈ rowsM [[]] s, mW s ws [i, v] r * mW s ws [u] r = mW s ws [u, i] r * mW s ws [v] r := fun r hr => by
    have e1 := hol_u_v.mp h1 r hr
    have e2 := hol_u_v.mp h2 r hr
    have c1 : mW s ws [v, u] r = mW s ws [u, v] r := mW_congr r fun w => by simp only [List.mem_cons, List.not_mem_nil, or_false]; exact ⟨fun z => z.elim .inr .inl, fun z => z.elim .inr .inl⟩
    have c2 : mW s ws [i, v, u] r = mW s ws [i, u, v] r := mW_congr r fun w => by simp only [List.mem_cons, List.not_mem_nil, or_false]; exact ⟨fun z => z.elim .inl fun z => .inr (z.elim .inr .inl), fun z => z.elim .inl fun z => .inr (z.elim .inr .inl)⟩
    have c3 : mW s ws [i, u] r = mW s ws [u, i] r := mW_congr r fun w => by simp only [List.mem_cons, List.not_mem_nil, or_false]; exact ⟨fun z => z.elim .inr .inl, fun z => z.elim .inr .inl⟩
    rw [c1, c2, c3] at e2
    have pos : 0 < mW s ws [u, v] r := mW_pos w hp hr fun x hx => by
      simp only [List.mem_cons, List.not_mem_nil, or_false] at hx
      rcases hx with rfl | rfl
      · exact t.lu
      · exact t.lv
    refine Int.eq_of_mul_eq_mul_right (Int.ne_of_gt pos) ?_
    calc mW s ws [i, v] r * mW s ws [u] r * mW s ws [u, v] r = (mW s ws [i, v] r * mW s ws [u, v] r) * mW s ws [u] r := by rw [Int.mul_assoc, Int.mul_comm (mW s ws [u] r), ← Int.mul_assoc]
      _ = (mW s ws [i, u, v] r * mW s ws [v] r) * mW s ws [u] r := by rw [e1]
      _ = (mW s ws [i, u, v] r * mW s ws [u] r) * mW s ws [v] r := by rw [Int.mul_assoc, Int.mul_comm (mW s ws [v] r), ← Int.mul_assoc]
      _ = (mW s ws [u, i] r * mW s ws [u, v] r) * mW s ws [v] r := by rw [e2]
      _ = mW s ws [u, i] r * mW s ws [v] r * mW s ws [u, v] r := by rw [Int.mul_assoc, Int.mul_comm (mW s ws [u, v] r), ← Int.mul_assoc]
  have nu1 : u ∉ [v] := by simp only [List.mem_singleton]; exact t.uv
  have nu2 : u ∉ [i, v] := by simp only [List.mem_cons, List.not_mem_nil, or_false]; exact fun z => z.elim (fun z => t.iu z.symm) t.uv
  have nu3 : u ∉ [i] := by simp only [List.mem_singleton]; exact fun z => t.iu z.symm
  have e : sumR (s.getD u 0) (fun x => mW s ws [i, v] r * mW s ws [u] (r.set u (x : Int))) = sumR (s.getD u 0) (fun x => mW s ws [u, i] (r.set u (x : Int)) * mW s ws [v] r) := sumR_congr fun x hx => by
    have := key _ (row_set (v := u) hr hx)
    rw [mW_set r (x : Int) nu2, mW_set r (x : Int) nu1] at this
    exact this
  rw [sumR_mul_l, sumR_mul_r, mW_sum hr t.lu (by simp), mW_sum hr t.lu nu3] at e
  exact e.symm
end
end W13

set_option Elab.async false
set_option linter.all false
set_option maxRecDepth 100000
namespace DL
open PySem (NestedKey)
/-! ## dicts of weights: the model -/
section
variable {κ : Type} [DecidableEq κ]
variable {enc : κ → D} {nkOf : κ → NestedKey} {W : Int}
end
def nkR (r : List Int) : NestedKey := .tup (r.map .num)
theorem nks_ints : ∀ r : List Int, D.nks (r.map D.int) = some (r.map NestedKey.num)
  | [] => rfl
  | x :: r => by
    rw [List.map_cons]
    simp only [D.nks, D.nk, Option.bind_some, nks_ints r, Option.map_some]
    rfl
theorem nk_row (r : List Int) : (rowD r).nk = some (nkR r) := by
  unfold rowD nkR
  simp only [D.nk, nks_ints, Option.map_some]
end DL

set_option Elab.async false
set_option linter.all false
set_option maxRecDepth 100000
namespace DL
open PySem (NestedKey)
theorem depth_nums : ∀ r : List Int, NestedKey.depthAll (r.map NestedKey.num) ≤ 1
  | [] => by simp [NestedKey.depthAll]
  | x :: r => by
    have := depth_nums r
    rw [List.map_cons]
    simp only [NestedKey.depthAll, NestedKey.depth]
    omega
section
end
end DL
namespace W13
open DL
open L2 (atI atI_nat ixN)
section
variable {κ : Type} [DecidableEq κ] {enc : κ → D} {nkOf : κ → PySem.NestedKey} {W : Int} {l : List (κ × Int)} {i : Nat} {k : κ} {ρ : Rho} {S S1 S2 : Sto}
end
end W13

set_option Elab.async false
set_option linter.all false
set_option maxRecDepth 100000
namespace W13
open DL
open L2 (atI atI_nat ixN)
open PySem (NestedKey)
/-! ## the sayings that hold are closed -/
def trip : List (Nat × Nat × Nat) := [(0, 1, 2), (1, 0, 2), (2, 0, 1)]
def perm6 : List (Nat × Nat × Nat) := [(0, 1, 2), (1, 0, 2), (2, 0, 1), (0, 2, 1), (1, 2, 0), (2, 1, 0)]
theorem f_turn2 : ((allL 2).all fun x => decide ((x.2.1, x.1, x.2.2) ∈ allL 2)) = true := by decide +kernel
theorem f_turn3 : ((allL 3).all fun x => decide ((x.2.1, x.1, x.2.2) ∈ allL 3)) = true := by decide +kernel
theorem f_two : ((allL 2).all fun x => decide (x.2.1.length = 1) && decide (x.2.2 = [])) = true := by decide +kernel
theorem f_one : ((allL 2 ++ allL 3).all fun x => decide (1 ≤ x.2.1.length)) = true := by decide +kernel
theorem f_part : ((allL 3).all fun x => decide (x.2.1.length ≤ 1) || trip.any fun t => decide (x = ([t.1], [t.2.1, t.2.2], []))) = true := by decide +kernel
theorem f_mem : (perm6.all fun t => decide (([t.1], [t.2.1], []) ∈ allL 3) && decide (([t.1], [t.2.1], [t.2.2]) ∈ allL 3)) = true := by decide +kernel
theorem f_mem2 : (trip.all fun t => decide (([t.1], [t.2.1, t.2.2], []) ∈ allL 3)) = true := by decide +kernel
theorem f_join : ((allL 3).all fun x => (allL 3).all fun y => !(decide (x.1 = y.1) && decide (x.2.2.length = y.2.1.length + y.2.2.length)) || perm6.any fun t => decide (x = ([t.1], [t.2.1], [t.2.2])) && decide (y.1 = [t.1]) && decide (y.2.1.length = 1) && decide (y.2.2 = [])) = true := by decide +kernel
theorem f_cross : ((allL 3).all fun x => (allL 3).all fun y => !(decide (x.1 = y.1) && ((y.2.1.all fun a => decide (a ∈ x.2.2)) && (x.2.1.all fun b => decide (b ∈ y.2.2)))) || perm6.any fun t => decide (x = ([t.1], [t.2.1], [t.2.2])) && decide (y = ([t.1], [t.2.2], [t.2.1]))) = true := by decide +kernel
theorem f_nd2 : (allL 2).Nodup := by decide +kernel
theorem f_nd3 : (allL 3).Nodup := by decide +kernel
theorem f_len : (allL 2).length ≤ 100 ∧ (allL 3).length ≤ 100 := by decide +kernel
theorem f_b2 : ((allL 2).all fun x => (x.1.all fun v => decide (v < 2)) && (x.2.1.all fun v => decide (v < 2)) && (x.2.2.all fun v => decide (v < 2)) && decide (x.1.length ≤ 3) && decide (x.2.1.length ≤ 3) && decide (x.2.2.length ≤ 3)) = true := by decide +kernel
theorem f_b3 : ((allL 3).all fun x => (x.1.all fun v => decide (v < 3)) && (x.2.1.all fun v => decide (v < 3)) && (x.2.2.all fun v => decide (v < 3)) && decide (x.1.length ≤ 3) && decide (x.2.1.length ≤ 3) && decide (x.2.2.length ≤ 3)) = true := by decide +kernel
theorem f_perm : (perm6.all fun t => decide (t.1 < 3) && decide (t.2.1 < 3) && decide (t.2.2 < 3) && !decide (t.1 = t.2.1) && !decide (t.1 = t.2.2) && !decide (t.2.1 = t.2.2)) = true := by decide +kernel
theorem f_trip : (trip.all fun t => decide (t ∈ perm6) && decide ((t.1, t.2.2, t.2.1) ∈ perm6) && decide (t.2.1 < t.2.2)) = true := by decide +kernel
theorem f_sort : (perm6.all fun t => (decide (t.2.1 < t.2.2) && decide (t ∈ trip)) || (decide (t.2.2 < t.2.1) && decide ((t.1, t.2.2, t.2.1) ∈ trip))) = true := by decide +kernel
theorem f_perm2 : (perm6.all fun t => decide ((t.1, t.2.2, t.2.1) ∈ perm6)) = true := by decide +kernel
theorem bounds {n : Nat} (hn : n = 2 ∨ n = 3) {x : Say} (hx : x ∈ allL n) : SayB n x ∧ x.1.length ≤ 3 ∧ x.2.1.length ≤ 3 ∧ x.2.2.length ≤ 3 := by
  have go : ∀ m : Nat, ((allL m).all fun x => (x.1.all fun v => decide (v < m)) && (x.2.1.all fun v => decide (v < m)) && (x.2.2.all fun v => decide (v < m)) && decide (x.1.length ≤ 3) && decide (x.2.1.length ≤ 3) && decide (x.2.2.length ≤ 3)) = true → x ∈ allL m → SayB m x ∧ x.1.length ≤ 3 ∧ x.2.1.length ≤ 3 ∧ x.2.2.length ≤ 3 := fun m hm hx => by
    have := List.all_eq_true.mp hm x hx
    simp only [Bool.and_eq_true, decide_eq_true_eq, List.all_eq_true] at this
    obtain ⟨⟨⟨⟨⟨a, b⟩, c⟩, d⟩, e⟩, f⟩ := this
    exact ⟨⟨a, b, c, by omega, by omega, by omega⟩, d, e, f⟩
  rcases hn with rfl | rfl
  · exact go 2 f_b2 hx
  · exact go 3 f_b3 hx
theorem le_nat (a b : Nat) : D.le' (.int (a : Int)) (.int (b : Int)) = decide (a ≤ b) := by
  unfold D.le'
  simp only [D.toP]
  rw [PySem.W.dataLt_int, Bool.eq_iff_iff, Bool.not_eq_true', decide_eq_false_iff_not, decide_eq_true_eq]
  omega
theorem sortN_one (v : Nat) : sortN [v] = [v] := List.mergeSort_of_pairwise (List.pairwise_singleton _ _)
theorem sortN_two {u v : Nat} (h : u < v) : sortN [u, v] = [u, v] := List.mergeSort_of_pairwise (by
  rw [List.pairwise_cons]
  refine ⟨fun w hw => ?_, List.pairwise_singleton _ _⟩
  rw [List.mem_singleton.mp hw, le_nat]
  exact decide_eq_true (by omega))
theorem sortN_rev {u v : Nat} (h : u < v) : sortN [v, u] = [u, v] := by
  have hs : (sortN [v, u]).Pairwise fun (a b : Nat) => D.le' (.int (a : Int)) (.int (b : Int)) = true :=
    List.pairwise_mergeSort (le := fun (a b : Nat) => D.le' (.int (a : Int)) (.int (b : Int))) (fun a b c => le_trans' (.int (a : Int)) (.int (b : Int)) (.int (c : Int))) (fun a b => le_total' (.int (a : Int)) (.int (b : Int))) [v, u]
  have hl : (sortN [v, u]).length = 2 := sortN_len _
  have hm : ∀ x, x ∈ sortN [v, u] ↔ x ∈ [v, u] := fun x => sortN_mem
  generalize sortN [v, u] = l at *
  obtain ⟨a, b, rfl⟩ : ∃ a b, l = [a, b] := by
    cases l with
    | nil => simp at hl
    | cons a l => cases l with
      | nil => simp at hl
      | cons b l => cases l with
        | nil => exact ⟨a, b, rfl⟩
        | cons c l => simp at hl
  rw [List.pairwise_cons] at hs
  have hab := hs.1 b (.head _)
  rw [le_nat, decide_eq_true_eq] at hab
  have m1 := (hm u).mpr (by simp)
  have m2 := (hm v).mpr (by simp)
  simp only [List.mem_cons, List.not_mem_nil, or_false] at m1 m2
  have e1 : a = u := by rcases m1 with z | z <;> rcases m2 with y | y <;> omega
  have e2 : b = v := by rcases m1 with z | z <;> rcases m2 with y | y <;> omega
  rw [e1, e2]
section
variable {s : List Nat} {ws : List Int}
def foundL (s : List Nat) (ws : List Int) : List Say := (sayL s.length).filter fun x => (ffB s ws x).isNone
theorem found_mem (w : Wo s ws) {x : Say} : x ∈ foundL s ws ↔ x ∈ allL s.length ∧ Hol s ws x := by
  unfold foundL
  rw [List.mem_filter, sayL_mem, Option.isNone_iff_eq_none, hol_iff w]
theorem tri_of (h3 : s.length = 3) {t : Nat × Nat × Nat} (ht : t ∈ perm6) : Tri s t.1 t.2.1 t.2.2 := by
  have := List.all_eq_true.mp f_perm t ht
  simp only [Bool.and_eq_true, Bool.not_eq_true', decide_eq_true_eq, decide_eq_false_iff_not] at this
  obtain ⟨⟨⟨⟨⟨a, b⟩, c⟩, d⟩, e⟩, f⟩ := this
  exact ⟨by omega, by omega, by omega, d, e, f⟩
theorem perm_mem {t : Nat × Nat × Nat} (ht : t ∈ perm6) : (([t.1], [t.2.1], []) : Say) ∈ allL 3 ∧ (([t.1], [t.2.1], [t.2.2]) : Say) ∈ allL 3 := by
  have := List.all_eq_true.mp f_mem t ht
  simpa only [Bool.and_eq_true, decide_eq_true_eq] using this
/-- both of u, v: the pair in order holds -/
theorem pair_found (w : Wo s ws) (h3 : s.length = 3) {t : Nat × Nat × Nat} (ht : t ∈ perm6) (h : Hol s ws ([t.1], [t.2.1, t.2.2], [])) : (([t.1], sortN [t.2.1, t.2.2], []) : Say) ∈ foundL s ws := by
  have := List.all_eq_true.mp f_sort t ht
  simp only [Bool.or_eq_true, Bool.and_eq_true, decide_eq_true_eq] at this
  rw [found_mem w, h3]
  rcases this with ⟨l, m⟩ | ⟨l, m⟩
  · rw [sortN_two l]
    exact ⟨by have := List.all_eq_true.mp f_mem2 t m; simpa only [decide_eq_true_eq] using this, h⟩
  · rw [sortN_rev l]
    exact ⟨by have := List.all_eq_true.mp f_mem2 _ m; simpa only [decide_eq_true_eq] using this, hol_swap h⟩
theorem sub_pair {u v : Nat} {q : List Nat} (h : q.Sublist [u, v]) (h0 : 0 < q.length) (h1 : q.length < 2) : q = [u] ∨ q = [v] := by
  obtain ⟨x, rfl⟩ : ∃ x, q = [x] := by
    cases q with
    | nil => simp at h0
    | cons x q => cases q with
      | nil => exact ⟨x, rfl⟩
      | cons y q => simp only [List.length_cons] at h1; omega
  have := h.subset (List.mem_singleton.mpr rfl)
  simp only [List.mem_cons, List.not_mem_nil, or_false] at this
  rcases this with rfl | rfl
  · exact .inl rfl
  · exact .inr rfl
theorem weak_found (w : Wo s ws) (h3 : s.length = 3) {t : Nat × Nat × Nat} (ht : t ∈ perm6) (h : Hol s ws ([t.1], [t.2.1, t.2.2], [])) : (([t.1], [t.2.1], []) : Say) ∈ foundL s ws ∧ (([t.1], [t.2.1], tog [] (rest [t.2.1, t.2.2] [t.2.1])) : Say) ∈ foundL s ws := by
  have tr := tri_of h3 ht
  have tr2 : Tri s t.1 t.2.2 t.2.1 := ⟨tr.li, tr.lv, tr.lu, tr.iv, tr.iu, fun z => tr.uv z.symm⟩
  obtain ⟨m1, m2⟩ := perm_mem ht
  have r : rest [t.2.1, t.2.2] [t.2.1] = [t.2.2] := by
    unfold rest
    have : ¬ t.2.2 = t.2.1 := fun z => tr.uv z.symm
    simp [this]
  have e : tog [] (rest [t.2.1, t.2.2] [t.2.1]) = [t.2.2] := by
    rw [r]
    exact sortN_one _
  rw [e, found_mem w, found_mem w, h3]
  exact ⟨⟨m1, less_v tr2 (hol_swap h)⟩, m2, weak_v w tr h⟩
theorem weak_found2 (w : Wo s ws) (h3 : s.length = 3) {t : Nat × Nat × Nat} (ht : t ∈ perm6) (h : Hol s ws ([t.1], [t.2.1, t.2.2], [])) : (([t.1], [t.2.2], []) : Say) ∈ foundL s ws ∧ (([t.1], [t.2.2], tog [] (rest [t.2.1, t.2.2] [t.2.2])) : Say) ∈ foundL s ws := by
  have ht2 : (t.1, t.2.2, t.2.1) ∈ perm6 := by
    have := List.all_eq_true.mp f_perm2 t ht
    simpa only [decide_eq_true_eq] using this
  obtain ⟨a, b⟩ := weak_found w h3 ht2 (hol_swap h)
  have tr := tri_of h3 ht
  refine ⟨a, ?_⟩
  have r : rest [t.2.1, t.2.2] [t.2.2] = rest [t.2.2, t.2.1] [t.2.2] := by
    unfold rest
    have : ¬ t.2.1 = t.2.2 := tr.uv
    simp [this]
  rw [r]
  exact b
theorem say_mem {l : List Say} {x : Say} (h : x ∈ l) : sayD x ∈ l.map sayD := List.mem_map.mpr ⟨x, h, rfl⟩
theorem closed_ok (w : Wo s ws) (hn : s.length = 2 ∨ s.length = 3) (way : PySem.Str) (hw : way = "above" → ∀ x ∈ ws, 0 < x) (S : Sto) : ClosedC ((foundL s ws).map sayD) way S := by
  have bnd : ∀ {x : Say}, x ∈ foundL s ws → x.1.length ≤ 3 ∧ x.2.1.length ≤ 3 ∧ x.2.2.length ≤ 3 := fun hx => (bounds hn ((found_mem w).mp hx).1).2
  refine ⟨fun d hd => ?_, fun d hd => ?_, fun d1 hd1 d2 hd2 => ?_, fun hway d1 hd1 d2 hd2 => ?_⟩
  · obtain ⟨x, hx, rfl⟩ := List.mem_map.mp hd
    refine ⟨_, turned_s x S, say_mem ?_⟩
    rw [found_mem w] at hx ⊢
    refine ⟨?_, hol_turn hx.2⟩
    rcases hn with h2 | h3
    · rw [h2] at hx ⊢
      have := List.all_eq_true.mp f_turn2 x hx.1
      simpa only [decide_eq_true_eq] using this
    · rw [h3] at hx ⊢
      have := List.all_eq_true.mp f_turn3 x hx.1
      simpa only [decide_eq_true_eq] using this
  · obtain ⟨x, hx, rfl⟩ := List.mem_map.mp hd
    obtain ⟨b1, b2, b3⟩ := bnd hx
    obtain ⟨ps, e, hps⟩ := parts_of_s x.2.1 S (by omega)
    refine ⟨varsD x.1, varsD x.2.1, varsD x.2.2, ps.map varsD, rfl, e, fun qd hqd => ?_⟩
    obtain ⟨q, hq, rfl⟩ := List.mem_map.mp hqd
    obtain ⟨q1, q2, q3⟩ := hps q hq
    have key : (((x.1, q, x.2.2) : Say) ∈ foundL s ws) ∧ ((x.1, q, tog x.2.2 (rest x.2.1 q)) : Say) ∈ foundL s ws := by
      have hx' := (found_mem w).mp hx
      rcases hn with h2 | h3
      · rw [h2] at hx'
        have := List.all_eq_true.mp f_two x hx'.1
        simp only [Bool.and_eq_true, decide_eq_true_eq] at this
        omega
      · rw [h3] at hx'
        have := List.all_eq_true.mp f_part x hx'.1
        simp only [Bool.or_eq_true, decide_eq_true_eq, List.any_eq_true] at this
        rcases this with z | ⟨t, ht, rfl⟩
        · omega
        · have tt := List.all_eq_true.mp f_trip t ht
          simp only [Bool.and_eq_true, decide_eq_true_eq] at tt
          rcases sub_pair q1 q2 q3 with rfl | rfl
          · exact weak_found w h3 tt.1.1 hx'.2
          · exact weak_found2 w h3 tt.1.1 hx'.2
    exact ⟨say_mem key.1, _, weak_s x q S (by omega), say_mem key.2⟩
  · obtain ⟨x, hx, rfl⟩ := List.mem_map.mp hd1
    obtain ⟨y, hy, rfl⟩ := List.mem_map.mp hd2
    obtain ⟨b1, b2, b3⟩ := bnd hx
    obtain ⟨c1, c2, c3⟩ := bnd hy
    refine ⟨_, joined_s x y S (by omega) (by omega), ?_⟩
    by_cases jc : joinC x y = true
    · rw [if_pos jc]
      refine .inr (say_mem ?_)
      unfold joinC at jc
      simp only [Bool.and_eq_true, decide_eq_true_eq] at jc
      obtain ⟨j1, j2⟩ := jc
      have hx' := (found_mem w).mp hx
      have hy' := (found_mem w).mp hy
      have jl : x.2.2.length = y.2.1.length + y.2.2.length := by rw [j2]; unfold tog; rw [sortN_len, List.length_append]
      rcases hn with h2 | h3
      · rw [h2] at hx' hy'
        have f1 := List.all_eq_true.mp f_two x hx'.1
        have f2 := List.all_eq_true.mp f_two y hy'.1
        simp only [Bool.and_eq_true, decide_eq_true_eq] at f1 f2
        rw [f1.2, List.length_nil] at jl
        omega
      · rw [h3] at hx' hy'
        have f1 := List.all_eq_true.mp (List.all_eq_true.mp f_join x hx'.1) y hy'.1
        rw [decide_eq_true j1, decide_eq_true jl] at f1
        simp only [Bool.and_self, Bool.not_true, Bool.false_or, List.any_eq_true, Bool.and_eq_true, decide_eq_true_eq] at f1
        obtain ⟨t, ht, ⟨⟨ex, ey1⟩, ey2⟩, ey3⟩ := f1
        obtain ⟨ya, yb, yc⟩ := y
        have ey1 : ya = [t.1] := ey1
        have ey2 : yb.length = 1 := ey2
        have ey3 : yc = [] := ey3
        subst ex ey1 ey3
        obtain ⟨v', rfl⟩ : ∃ v', yb = [v'] := by
          cases yb with
          | nil => simp at ey2
          | cons a l => cases l with
            | nil => exact ⟨a, rfl⟩
            | cons b l => simp at ey2
        have hv : t.2.2 = v' := by
          have j2 : [t.2.2] = tog [v'] [] := j2
          unfold tog at j2
          rw [List.append_nil, sortN_one] at j2
          exact (List.cons.inj j2).1
        subst hv
        exact pair_found w h3 ht (join_uv w hx'.2 hy'.2)
    · rw [if_neg jc]
      exact .inl rfl
  · obtain ⟨x, hx, rfl⟩ := List.mem_map.mp hd1
    obtain ⟨y, hy, rfl⟩ := List.mem_map.mp hd2
    obtain ⟨b1, b2, b3⟩ := bnd hx
    obtain ⟨c1, c2, c3⟩ := bnd hy
    refine ⟨_, crossed_s x y S (by omega), ?_⟩
    by_cases jc : crossC x y = true
    · rw [if_pos jc]
      refine .inr (say_mem ?_)
      unfold crossC at jc
      rw [Bool.and_eq_true, Bool.and_eq_true, Bool.and_eq_true, decide_eq_true_eq] at jc
      obtain ⟨j1, j2, j3, _⟩ := jc
      have hx' := (found_mem w).mp hx
      have hy' := (found_mem w).mp hy
      rcases hn with h2 | h3
      · rw [h2] at hx' hy'
        have f1 := List.all_eq_true.mp f_two x hx'.1
        have f2 := List.all_eq_true.mp f_two y hy'.1
        simp only [Bool.and_eq_true, decide_eq_true_eq] at f1 f2
        rw [f1.2] at j2
        obtain ⟨a, e⟩ : ∃ a, a ∈ y.2.1 := List.exists_mem_of_length_pos (by omega)
        have := List.all_eq_true.mp j2 a e
        simp at this
      · rw [h3] at hx' hy'
        have f1 := List.all_eq_true.mp (List.all_eq_true.mp f_cross x hx'.1) y hy'.1
        rw [decide_eq_true j1, j2, j3] at f1
        simp only [Bool.and_self, Bool.not_true, Bool.false_or, List.any_eq_true, Bool.and_eq_true, decide_eq_true_eq] at f1
        obtain ⟨t, ht, rfl, rfl⟩ := f1
        have tr := tri_of h3 ht
        have r0 : rest [t.2.2] [t.2.2] = [] := by simp [rest]
        have := pair_found w h3 ht (cross_uv w (hw hway) tr hx'.2 hy'.2)
        show (([t.1], tog [t.2.1] [t.2.2], rest [t.2.2] [t.2.2]) : Say) ∈ foundL s ws
        rw [r0]
        exact this
    · rw [if_neg jc]
      exact .inl rfl
/-! keys -/
def nkV (l : List Nat) : NestedKey := nkR (l.map fun (v : Nat) => (v : Int))
theorem nk_vars (l : List Nat) : (varsD l).nk = some (nkV l) := by
  rw [vars_row, nk_row]
  rfl
theorem nk_say (x : Say) : (sayD x).nk = some (.tup [nkV x.1, nkV x.2.1, nkV x.2.2]) := by
  unfold sayD
  simp only [D.nk, D.nks, nk_vars, Option.bind_some, Option.map_some]
theorem depth_vars (l : List Nat) : (nkV l).depth ≤ 2 := by
  unfold nkV nkR
  have := depth_nums (l.map fun (v : Nat) => (v : Int))
  simp only [NestedKey.depth]
  omega
theorem key_say (x : Say) : ∃ k, (sayD x).keyOk true = some k := by
  refine ⟨.tup [nkV x.1, nkV x.2.1, nkV x.2.2], ?_⟩
  have e := nk_say x
  have d : (NestedKey.tup [nkV x.1, nkV x.2.1, nkV x.2.2]).depth ≤ 8 := by
    have a := depth_vars x.1
    have b := depth_vars x.2.1
    have c := depth_vars x.2.2
    simp only [NestedKey.depth, NestedKey.depthAll]
    omega
  show (sayD x).nk.bind (fun k => if k.depth ≤ 8 then some k else none) = _
  rw [e, Option.bind_some, if_pos d]
theorem nkV_inj {a b : List Nat} (h : nkV a = nkV b) : a = b := by
  unfold nkV nkR at h
  have h := NestedKey.tup.inj h
  have h2 := List.map_inj_right (f := NestedKey.num) (fun a b h => NestedKey.num.inj h) |>.mp h
  exact cast_inj.mp h2
theorem nk_inj {x y : Say} (h : (sayD x).nk = (sayD y).nk) : x = y := by
  rw [nk_say, nk_say] at h
  have h := NestedKey.tup.inj (Option.some.inj h)
  injection h with h1 h
  injection h with h2 h
  injection h with h3 _
  exact Prod.ext (nkV_inj h1) (Prod.ext (nkV_inj h2) (nkV_inj h3))
theorem ks_ok (hn : s.length = 2 ∨ s.length = 3) : KsOk ((foundL s ws).map sayD) := by
  have nd : (allL s.length).Nodup := by
    rcases hn with h | h <;> rw [h]
    · exact f_nd2
    · exact f_nd3
  have ln : (allL s.length).length ≤ 100 := by
    rcases hn with h | h <;> rw [h]
    · exact f_len.1
    · exact f_len.2
  refine ⟨?_, fun d hd => ?_, ?_⟩
  · rw [List.length_map]
    have a : (foundL s ws).length ≤ (sayL s.length).length := List.length_filter_le _ _
    have b : (sayL s.length).length = (allL s.length).length := List.length_mergeSort _
    omega
  · obtain ⟨x, _, rfl⟩ := List.mem_map.mp hd
    exact key_say x
  · have n1 : (sayL s.length).Nodup := (List.mergeSort_perm _ _).nodup_iff.mpr nd
    have n2 : (foundL s ws).Nodup := n1.filter _
    rw [List.map_map]
    show List.Pairwise _ _
    rw [List.pairwise_map]
    exact n2.imp fun h e => h (nk_inj e)
theorem closed_found (w : Wo s ws) (hn : s.length = 2 ∨ s.length = 3) (n : Int) (way : PySem.Str) (hw : way = "above" → ∀ x ∈ ws, 0 < x) (S : Sto) : F_closed [.int n, .tup ((foundL s ws).map sayD), .str way] S = some (.tup ((foundL s ws).map sayD), S) := by
  have e := closed_s (n := n) (ks_ok (ws := ws) hn) (closed_ok w hn way hw S) (canSort_say _)
  rw [sort_say (l := foundL s ws) (by unfold foundL; exact (sayL_sorted s.length).filter _)] at e
  exact e
end
end W13

set_option Elab.async false
set_option linter.all false
set_option maxRecDepth 100000
namespace W13
open DL
open L2 (atI atI_nat ixN)
theorem isi_bl (b : Bool) : gIsi [.bl b, .ty "bool"] = some (.bl true) := by
  unfold gIsi D.isA
  have : L2.kitB "bool" "bool" = some true := by decide +kernel
  simp only [this, Option.map_some]
theorem ne_bl (b : Bool) : D.ne (.bl b) (.bl b) = some (.bl false) := by
  unfold D.ne D.eqv
  cases b <;> simp [D.fit, D.toP, PySem.PyData.eqv]
theorem eqv_vars (l : List Nat) : PySem.PyData.eqv (varsD l).toP (varsD l).toP = true := by
  rw [vars_row, eqv_row]
  exact decide_eq_true rfl
theorem eqv_say (x : Say) : PySem.PyData.eqv (sayD x).toP (sayD x).toP = true := by
  unfold sayD
  simp only [D.toP, D.toPs, PySem.PyData.eqv, PySem.PyData.eqvAll, eqv_vars, Bool.and_self]
theorem eqv_says : ∀ l : List Say, PySem.PyData.eqvAll (D.toPs (l.map sayD)) (D.toPs (l.map sayD)) = true
  | [] => rfl
  | x :: l => by
    rw [List.map_cons]
    simp only [D.toPs, PySem.PyData.eqvAll, eqv_say, eqv_says l, Bool.and_self]
theorem fit_say (n : Nat) (x : Say) : (sayD x).fit (n + 2) = true := by
  unfold sayD
  simp only [D.fit, D.fits, fit_varsD (n + 1) (Nat.succ_pos n), Bool.and_self]
theorem fit_says (n : Nat) : ∀ l : List Say, D.fits (l.map sayD) (n + 2) = true
  | [] => by simp [D.fits]
  | x :: l => by
    rw [List.map_cons]
    simp only [D.fits, fit_say n x, fit_says n l, Bool.and_self]
theorem ne_says (l : List Say) : D.ne (.tup (l.map sayD)) (.tup (l.map sayD)) = some (.bl false) := by
  have f : (D.tup (l.map sayD)).fit 60 = true := by
    simp only [D.fit]
    exact fit_says 57 l
  unfold D.ne D.eqv
  rw [f]
  simp only [D.toP, PySem.PyData.eqv, eqv_says, Bool.and_self, if_true, Bool.not_true]
theorem f_len18 : (allL 2).length ≤ 18 ∧ (allL 3).length ≤ 18 := by decide +kernel
theorem f_pos : 0 < (allL 2).length ∧ 0 < (allL 3).length := by decide +kernel
theorem ok_vars {l : List Nat} {n w k : Nat} (h : ∀ v ∈ l, v < n) (hn : n ≤ 3) (hl : l.length ≤ w) : (varsD l).ok w (k + 1) = true := ok_tup.mpr ⟨by rw [List.length_map]; exact hl, fun d hd => by
  obtain ⟨v, hv, rfl⟩ := List.mem_map.mp hd
  have := h v hv
  simp only [D.ok, Bool.and_eq_true, decide_eq_true_eq]
  omega⟩
theorem ok_say {n : Nat} (hn : n = 2 ∨ n = 3) {x : Say} (hx : x ∈ allL n) : (sayD x).ok 18 2 = true := by
  obtain ⟨b, l1, l2, l3⟩ := bounds hn hx
  have h3 : n ≤ 3 := by omega
  refine ok_tup.mpr ⟨by show 3 ≤ 18; decide, fun d hd => ?_⟩
  simp only [List.mem_cons, List.not_mem_nil, or_false] at hd
  rcases hd with rfl | rfl | rfl
  · exact ok_vars b.a h3 (by omega)
  · exact ok_vars b.b h3 (by omega)
  · exact ok_vars b.c h3 (by omega)
theorem sMut_of {g : Cell → List D → Option (Cell × D)} {i : Nat} {fs : Ars} {ρ : Rho} {S S1 : Sto} {c c' : Cell} {ds : List D} {d : D} (h0 : ρ[i]? = some (.ow c)) (h1 : fs ρ S = some (ds, S1)) (h2 : g c ds = some (c', d)) : sMut g i fs ρ S = some (.nx (ρ.set i (.ow c')) S1) := by
  unfold sMut
  rw [h0]
  show (fs ρ S).bind _ = _
  rw [h1, Option.bind_some, h2]
  rfl
theorem bool_iff {a b : Bool} {P : Prop} (h1 : a = true ↔ P) (h2 : b = true ↔ P) : a = b := by
  rw [Bool.eq_iff_iff, h1, h2]
theorem row_ok3 {s : List Nat} (hs : SzK s) {r : List Int} (hr : r ∈ rowsM [[]] s) : RowS r := by
  obtain ⟨hl, ho⟩ := rows_mem.mp hr
  refine ⟨by have := hs.len; omega, fun x hx => ?_⟩
  obtain ⟨j, hj, e⟩ := List.getElem_of_mem hx
  have h := ho j hj
  have hv := hs.val (s.getD j 0) (by rw [List.getD_eq_getElem?_getD, List.getElem?_eq_getElem (by omega)]; exact List.getElem_mem _)
  rw [List.getD_eq_getElem?_getD, List.getElem?_eq_getElem hj] at h
  simp only [Option.getD_some] at h
  rw [e] at h
  omega
theorem fails_ok {s : List Nat} (hs : SzK s) {r : List Int} (hr : r ∈ rowsM [[]] s) : (D.tup [.str "fails", rowD r]).ok 6 3 = true := ok_tup.mpr ⟨by show 2 ≤ 6; decide, fun d hd => by
  simp only [List.mem_cons, List.not_mem_nil, or_false] at hd
  rcases hd with rfl | rfl
  · simp [D.ok, names]
  · exact ok_row (row_ok3 hs hr) (by decide)⟩
theorem hp_ok {s : List Nat} (hs : SzK s) (ws : List Int) (x : Say) : (hpD (ffB s ws x)).ok 6 3 = true := by
  cases e : ffB s ws x with
  | none => exact ok_tup.mpr ⟨by show 1 ≤ 6; decide, fun d hd => by rw [List.mem_singleton.mp hd]; simp [D.ok, names]⟩
  | some r => exact fails_ok hs (List.mem_of_find?_eq_some e)
theorem ff_any (s : List Nat) (ws : List Int) (x : Say) : (ffB s ws x).isNone = !((rowsM [[]] s).any (brk s ws x)) := by
  rw [Bool.eq_iff_iff, Option.isNone_iff_eq_none, Bool.not_eq_true']
  unfold ffB
  rw [List.find?_eq_none, List.any_eq_false]
theorem full_pos {s : List Nat} {ws : List Int} (w : Wo s ws) (h : (ws.all fun x => decide ((0 : Int) < (nf x ws.sum).1)) = true) : ∀ x ∈ ws, 0 < x := fun x hx => by
  have h1 := List.all_eq_true.mp h x hx
  rw [decide_eq_true_eq] at h1
  have h2 := w.nn x hx
  by_cases z : x = 0
  · rw [z, nf_zero w.pos] at h1
    exact absurd h1 (by decide)
  · omega
theorem two_three {s : List Nat} (hs : SzK s) (h2 : 2 ≤ s.length) : s.length = 2 ∨ s.length = 3 := by have := hs.len; omega
section
variable {ns : List Int} {s : List Nat} {ws : List Int} {m : Nat}
theorem sayings_of_s (w : Wo s ws) (hs : SzK s) (h2 : 2 ≤ s.length) (S : Sto) : F_sayings_of [worldD s ws] S = some (.tup ((foundL s ws).map sayD), S) := by
  have hn := two_three hs h2
  have a := all_sayings_s s.length (by have := hs.len; omega) S
  have sz : eBin D.ix (bVar 0) (eC (.int 0)) [.sh (worldD s ws), .un] S = some (szD s, S) := eBin_of (S1 := S) (S2 := S) (d1 := worldD s ws) (d2 := .int 0) rfl rfl (at0 _ _)
  have it : iSeq (eCall F_all_sayings (aCons (eCB gLen (aCons (eBin D.ix (bVar 0) (eC (.int 0))) aNil)) aNil)) [.sh (worldD s ws), .un] S = some ((sayL s.length).map sayD, S) := iSeq_of (eCall_of (aCons_of (eCB_of (aCons_of sz rfl) (by simp only [gLen, szD, List.length_map])) rfl) a) rfl
  have c := compF_map (g := gNm 1) (tt := tBl (eBin D.eq (eCall F_holding_paper (aCons (eVar 0) (aCons (eVar 1) aNil))) (eTup (aCons (eC (.str "holds")) aNil)))) (te := eVar 1) (ρ := [.sh (worldD s ws), .un]) (S := S) sayD (fun x => (ffB s ws x).isNone) sayD (sayL s.length) fun x hx =>
    ⟨[.sh (worldD s ws), .sh (sayD x)], rfl, tBl_of (eBin_of (S1 := S) (S2 := S) (eCall_of (ds := [worldD s ws, sayD x]) (S1 := S) rfl (holding_paper_s w (bounds hn (sayL_mem.mp hx)).1 S)) (tup1 (S1 := S) rfl) (eq_holds _)), fun _ => rfl⟩
  unfold F_sayings_of b_sayings_of
  exact fnD_rt (S' := S) (sRet_of (d := .tup ((foundL s ws).map sayD)) (eCB_of (aCons_of (eLc_of (vs := [1]) it c) rfl) rfl)) rfl
theorem found_shw (hs : SzK s) (h2 : 2 ≤ s.length) : Shw (.tup ((foundL s ws).map sayD)) (wtB 18 3) 4 := shw_ok (n := 3) (ok_tup.mpr ⟨by
  rw [List.length_map]
  have a : (foundL s ws).length ≤ (sayL s.length).length := List.length_filter_le _ _
  have b : (sayL s.length).length = (allL s.length).length := List.length_mergeSort _
  have c : (allL s.length).length ≤ 18 := by
    rcases two_three hs h2 with e | e
    · rw [e]; exact f_len18.1
    · rw [e]; exact f_len18.2
  omega, fun d hd => by
  obtain ⟨x, hx, rfl⟩ := List.mem_map.mp hd
  exact ok_say (two_three hs h2) (sayL_mem.mp (List.mem_filter.mp hx).1)⟩)
def q2 : Stm := (sAsg (eBin D.add (eC (.int 2)) (eCall F__law_take (aCons (eVar 1) (aCons (eC (.int 2)) aNil)))) (gNm 2))
theorem q2_s {S S1 : Sto} {r n : Nat} (t : F__law_take [.ref 0, .int 2] S = some (.int (r : Int), S1)) (e : n = r + 2) : q2 [.sh (.scr ns), .sh (.ref 0), .un, .un, .un, .un, .un, .un, .un, .un, .un, .un, .un, .un, .un, .un, .un, .un, .un] S = some (.nx [.sh (.scr ns), .sh (.ref 0), .sh (.int (n : Int)), .un, .un, .un, .un, .un, .un, .un, .un, .un, .un, .un, .un, .un, .un, .un, .un] S1) := by
  have e0 : D.add (.int 2) (.int (r : Int)) = some (.int (n : Int)) := by
    rw [i_add, show (2 : Int) + (r : Int) = (n : Int) by omega]
  exact sAsg_of (eBin_of (S1 := S) (S2 := S1) (d1 := .int 2) (d2 := .int (r : Int)) rfl (eCall_of (aCons_of (S1 := S) rfl (aCons_of (S1 := S) rfl rfl)) t) e0) rfl
def q3 : Stm := (sAsg (eCB gTuple (aCons (eLc (iRng (aCons (bVar 2) aNil)) (gNm 16) tYs (eBin D.ix (eLst (aCons (eC (.int 2)) (aCons (eC (.int 2)) (aCons (eC (.int 2)) (aCons (eC (.int 3)) aNil))))) (eCall F__law_take (aCons (eVar 1) (aCons (eC (.int 4)) aNil)))) [16]) aNil)) (gNm 3))
theorem q3_s {n : Nat} (h2 : 2 ≤ n) (h3 : n ≤ 3) {S : Sto} (hg : Good m S) (hm : m ≤ 1000) : ∃ (s : List Nat) (S' : Sto), q3 [.sh (.scr ns), .sh (.ref 0), .sh (.int (n : Int)), .un, .un, .un, .un, .un, .un, .un, .un, .un, .un, .un, .un, .un, .un, .un, .un] S = some (.nx [.sh (.scr ns), .sh (.ref 0), .sh (.int (n : Int)), .sh (szD s), .un, .un, .un, .un, .un, .un, .un, .un, .un, .un, .un, .un, .un, .un, .un] S') ∧ s.length = n ∧ SzK s ∧ Good (m + 3) S' := by
  have c := compF_st (g := gNm 16) (te := eBin D.ix (eLst (aCons (eC (.int 2)) (aCons (eC (.int 2)) (aCons (eC (.int 2)) (aCons (eC (.int 3)) aNil))))) (eCall F__law_take (aCons (eVar 1) (aCons (eC (.int 4)) aNil)))) (ρ := [.sh (.scr ns), .sh (.ref 0), .sh (.int (n : Int)), .un, .un, .un, .un, .un, .un, .un, .un, .un, .un, .un, .un, .un, .un, .un, .un]) (fun (i : Nat) => D.int (i : Int)) (fun (n : Nat) => D.int (n : Int)) (fun n => 2 ≤ n ∧ n ≤ 3) fun x m S hm hS => by
    obtain ⟨q, S', t, hq, g⟩ := take_s 4 hS (by omega) (by decide) (by decide)
    have l : eLst (aCons (eC (.int 2)) (aCons (eC (.int 2)) (aCons (eC (.int 2)) (aCons (eC (.int 3)) aNil)))) [.sh (.scr ns), .sh (.ref 0), .sh (.int (n : Int)), .un, .un, .un, .un, .un, .un, .un, .un, .un, .un, .un, .un, .un, .sh (.int (x : Int)), .un, .un] S = some (.lst [.int 2, .int 2, .int 2, .int 3], S) := eLst_of (S1 := S) rfl (by show 4 ≤ PySem.sizeLine; decide)
    have cs : ∃ b : Nat, D.ix (.lst [.int 2, .int 2, .int 2, .int 3]) (.int (q : Int)) = some (.int (b : Int)) ∧ 2 ≤ b ∧ b ≤ 3 := by
      have : q = 0 ∨ q = 1 ∨ q = 2 ∨ q = 3 := by omega
      rcases this with rfl | rfl | rfl | rfl
      · exact ⟨2, at0 _ _, by decide, by decide⟩
      · exact ⟨2, at1 _ _ _, by decide, by decide⟩
      · exact ⟨2, at2 _ _ _ _, by decide, by decide⟩
      · exact ⟨3, at3 _ _ _ _ _, by decide, by decide⟩
    obtain ⟨b, e, hb⟩ := cs
    exact ⟨[.sh (.scr ns), .sh (.ref 0), .sh (.int (n : Int)), .un, .un, .un, .un, .un, .un, .un, .un, .un, .un, .un, .un, .un, .sh (.int (x : Int)), .un, .un], b, S', rfl, eBin_of l (eCall_of (aCons_of (S1 := S) rfl (aCons_of (S1 := S) rfl rfl)) t) e, g, hb⟩
  obtain ⟨s, S2, e1, g2, sl, ok⟩ := c (List.range n) m S hg (by rw [List.length_range]; omega)
  rw [List.length_range] at g2 sl
  have rg : iRng (aCons (bVar 2) aNil) [.sh (.scr ns), .sh (.ref 0), .sh (.int (n : Int)), .un, .un, .un, .un, .un, .un, .un, .un, .un, .un, .un, .un, .un, .un, .un, .un] S = some ((List.range n).map fun (i : Nat) => D.int (i : Int), S) := iRng_of (ds := [.int (n : Int)]) (S1 := S) rfl (rangeOf_nat (by omega))
  exact ⟨s, S2, sAsg_of (d := szD s) (eCB_of (aCons_of (eLc_of (vs := [16]) rg e1) rfl) rfl) rfl, sl, ⟨by omega, by omega, ok⟩, g2.mono (by omega)⟩
def q4 : Stm := (sAsg (eIf (tBl (eBin D.gt (eCall F__law_take (aCons (eVar 1) (aCons (eC (.int 3)) aNil))) (eC (.int 0)))) (eCall F__law_times_worlds (aCons (eVar 1) (aCons (eVar 3) aNil))) (eCall F__law_world (aCons (eVar 1) (aCons (eVar 3) aNil)))) (gNm 4))
theorem q4_s (hs : SzK s) (h2 : 2 ≤ s.length) {S : Sto} (hg : Good m S) (hm : m ≤ 800) : ∃ (ws : List Int) (S' : Sto), q4 [.sh (.scr ns), .sh (.ref 0), .sh (.int (s.length : Int)), .sh (szD s), .un, .un, .un, .un, .un, .un, .un, .un, .un, .un, .un, .un, .un, .un, .un] S = some (.nx [.sh (.scr ns), .sh (.ref 0), .sh (.int (s.length : Int)), .sh (szD s), .sh (worldD s ws), .un, .un, .un, .un, .un, .un, .un, .un, .un, .un, .un, .un, .un, .un] S') ∧ Wo s ws ∧ Good (m + 60) S' := by
  obtain ⟨r, S1, t, hr, g1⟩ := take_s 3 hg (by omega) (by decide) (by decide)
  have c : tBl (eBin D.gt (eCall F__law_take (aCons (eVar 1) (aCons (eC (.int 3)) aNil))) (eC (.int 0))) [.sh (.scr ns), .sh (.ref 0), .sh (.int (s.length : Int)), .sh (szD s), .un, .un, .un, .un, .un, .un, .un, .un, .un, .un, .un, .un, .un, .un, .un] S = some (decide ((0 : Int) < (r : Int)), S1) := tBl_of (eBin_of (S1 := S1) (S2 := S1) (d1 := .int (r : Int)) (d2 := .int 0) (eCall_of (aCons_of (S1 := S) rfl (aCons_of (S1 := S) rfl rfl)) t) rfl rfl)
  by_cases r0 : (0 : Int) < (r : Int)
  · rw [decide_eq_true r0] at c
    obtain ⟨s1, k, rfl⟩ : ∃ s1 k, s = s1 ++ [k] := by
      have hne : s ≠ [] := fun z => by rw [z] at h2; simp at h2
      exact ⟨s.dropLast, s.getLast hne, (List.dropLast_concat_getLast hne).symm⟩
    obtain ⟨ws, S2, e, w, g2⟩ := times_worlds_s hs (by rw [List.length_append, List.length_singleton] at h2; omega) g1 (by omega)
    exact ⟨ws, S2, sAsg_of (eIf_t c (eCall_of (aCons_of (S1 := S1) rfl (aCons_of (S1 := S1) rfl rfl)) e)) rfl, w, g2.mono (by omega)⟩
  · rw [decide_eq_false r0] at c
    obtain ⟨ws, S2, e, l, o, p, g2⟩ := law_world_s hs g1 (by omega)
    have rl := hs.rows
    have l27 : 3 ^ s.length ≤ 27 := Nat.pow_le_pow_right (n := 3) (j := 3) (by decide) hs.len
    have wb := sum_le (k := 3) (by decide) fun w hw => (o w hw).2
    exact ⟨ws, S2, sAsg_of (eIf_f c (eCall_of (aCons_of (S1 := S1) rfl (aCons_of (S1 := S1) rfl rfl)) e)) rfl, ⟨hs.small, l, fun w hw => (o w hw).1, p, by omega⟩, g2.mono (by omega)⟩
def q5 : Stm := (sPar 5 6 (aCons (eCall F__law_values (aCons (eVar 3) aNil)) (aCons (eCall F_all_sayings (aCons (eVar 2) aNil)) aNil)))
theorem q5_s (hs : SzK s) (S : Sto) : q5 [.sh (.scr ns), .sh (.ref 0), .sh (.int (s.length : Int)), .sh (szD s), .sh (worldD s ws), .un, .un, .un, .un, .un, .un, .un, .un, .un, .un, .un, .un, .un, .un] S = some (.nx [.sh (.scr ns), .sh (.ref 0), .sh (.int (s.length : Int)), .sh (szD s), .sh (worldD s ws), .sh (.lst ((rowsM [[]] s).map rowD)), .sh (.tup ((sayL s.length).map sayD)), .un, .un, .un, .un, .un, .un, .un, .un, .un, .un, .un, .un] S) := sPar_of (aCons_of (eCall_of (ds := [szD s]) (S1 := S) rfl (law_values_s (szD s) s S rfl hs.small)) (aCons_of (eCall_of (ds := [.int (s.length : Int)]) (S1 := S) rfl (all_sayings_s s.length (by have := hs.len; omega) S)) rfl))
def q6 : Stm := (sOwn (eLst aNil) 7)
theorem q6_s (S : Sto) : q6 [.sh (.scr ns), .sh (.ref 0), .sh (.int (s.length : Int)), .sh (szD s), .sh (worldD s ws), .sh (.lst ((rowsM [[]] s).map rowD)), .sh (.tup ((sayL s.length).map sayD)), .un, .un, .un, .un, .un, .un, .un, .un, .un, .un, .un, .un] S = some (.nx [.sh (.scr ns), .sh (.ref 0), .sh (.int (s.length : Int)), .sh (szD s), .sh (worldD s ws), .sh (.lst ((rowsM [[]] s).map rowD)), .sh (.tup ((sayL s.length).map sayD)), .ow (.lst []), .un, .un, .un, .un, .un, .un, .un, .un, .un, .un, .un] S) := sOwn_of (i := 7) eLst_nil
def q7b : Stm := (sIf (tNo (tTru (eCB gAny (aCons (eLc (iSeq (bVar 5)) (gNm 17) tYs (eCall F__law_fails_at (aCons (eVar 4) (aCons (eVar 8) (aCons (eVar 17) aNil)))) [17]) aNil)))) (sMut gAppend 7 (aCons (eVar 8) aNil)) sNx)
theorem q7_loop (w : Wo s ws) (hn : s.length = 2 ∨ s.length = 3) (S : Sto) : ∀ (xs acc : List Say) (z8 : Sl), (∀ x ∈ xs, x ∈ allL s.length) → acc.length + xs.length ≤ 1000 →
    ∃ z8', forF (gNm 8) q7b (xs.map sayD) [.sh (.scr ns), .sh (.ref 0), .sh (.int (s.length : Int)), .sh (szD s), .sh (worldD s ws), .sh (.lst ((rowsM [[]] s).map rowD)), .sh (.tup ((sayL s.length).map sayD)), .ow (.lst ((acc).map sayD)), z8, .un, .un, .un, .un, .un, .un, .un, .un, .un, .un] S = some (.nx [.sh (.scr ns), .sh (.ref 0), .sh (.int (s.length : Int)), .sh (szD s), .sh (worldD s ws), .sh (.lst ((rowsM [[]] s).map rowD)), .sh (.tup ((sayL s.length).map sayD)), .ow (.lst ((acc ++ xs.filter fun x => (ffB s ws x).isNone).map sayD)), z8', .un, .un, .un, .un, .un, .un, .un, .un, .un, .un] S)
  | [], acc, z8, _, _ => ⟨z8, by rw [List.filter_nil, List.append_nil]; rfl⟩
  | x :: xs, acc, z8, hx, hl => by
    rw [List.length_cons] at hl
    have bd := (bounds hn (hx x (.head _))).1
    have an := any_s (ρ := [.sh (.scr ns), .sh (.ref 0), .sh (.int (s.length : Int)), .sh (szD s), .sh (worldD s ws), .sh (.lst ((rowsM [[]] s).map rowD)), .sh (.tup ((sayL s.length).map sayD)), .ow (.lst ((acc).map sayD)), .sh (sayD x), .un, .un, .un, .un, .un, .un, .un, .un, .un, .un]) (S := S) (g := gNm 17) (te := eCall F__law_fails_at (aCons (eVar 4) (aCons (eVar 8) (aCons (eVar 17) aNil)))) (w := [17]) rowD (brk s ws x) (rowsM [[]] s) (it := iSeq (bVar 5)) rfl fun r hr =>
      ⟨[.sh (.scr ns), .sh (.ref 0), .sh (.int (s.length : Int)), .sh (szD s), .sh (worldD s ws), .sh (.lst ((rowsM [[]] s).map rowD)), .sh (.tup ((sayL s.length).map sayD)), .ow (.lst ((acc).map sayD)), .sh (sayD x), .un, .un, .un, .un, .un, .un, .un, .un, .sh (rowD r), .un], rfl, eCall_of (ds := [worldD s ws, sayD x, rowD r]) (S1 := S) rfl (law_fails_at_s w bd (row_len hr) S)⟩
    have c := tNo_of (tru_bl an)
    rw [← ff_any] at c
    cases e : (ffB s ws x).isNone with
    | true =>
      rw [e] at c
      have st : q7b [.sh (.scr ns), .sh (.ref 0), .sh (.int (s.length : Int)), .sh (szD s), .sh (worldD s ws), .sh (.lst ((rowsM [[]] s).map rowD)), .sh (.tup ((sayL s.length).map sayD)), .ow (.lst ((acc).map sayD)), .sh (sayD x), .un, .un, .un, .un, .un, .un, .un, .un, .un, .un] S = some (.nx [.sh (.scr ns), .sh (.ref 0), .sh (.int (s.length : Int)), .sh (szD s), .sh (worldD s ws), .sh (.lst ((rowsM [[]] s).map rowD)), .sh (.tup ((sayL s.length).map sayD)), .ow (.lst ((acc ++ [x]).map sayD)), .sh (sayD x), .un, .un, .un, .un, .un, .un, .un, .un, .un, .un] S) := by
        refine sIf_t c ?_
        have m := sMut_of (g := gAppend) (i := 7) (fs := aCons (eVar 8) aNil) (ρ := [.sh (.scr ns), .sh (.ref 0), .sh (.int (s.length : Int)), .sh (szD s), .sh (worldD s ws), .sh (.lst ((rowsM [[]] s).map rowD)), .sh (.tup ((sayL s.length).map sayD)), .ow (.lst ((acc).map sayD)), .sh (sayD x), .un, .un, .un, .un, .un, .un, .un, .un, .un, .un]) (S := S) (S1 := S) (c := .lst (acc.map sayD)) (c' := .lst (acc.map sayD ++ [sayD x])) (ds := [sayD x]) (d := .non) rfl rfl (app_d (by rw [List.length_map]; omega))
        rw [List.map_append]
        exact m
      obtain ⟨z', i⟩ := q7_loop w hn S xs (acc ++ [x]) (.sh (sayD x)) (fun y hy => hx y (.tail _ hy)) (by rw [List.length_append, List.length_singleton]; omega)
      refine ⟨z', (forF_step (g := gNm 8) (x := sayD x) (ρ1 := [.sh (.scr ns), .sh (.ref 0), .sh (.int (s.length : Int)), .sh (szD s), .sh (worldD s ws), .sh (.lst ((rowsM [[]] s).map rowD)), .sh (.tup ((sayL s.length).map sayD)), .ow (.lst ((acc).map sayD)), .sh (sayD x), .un, .un, .un, .un, .un, .un, .un, .un, .un, .un]) rfl st).trans (i.trans ?_)⟩
      rw [List.filter_cons, e, if_pos rfl, List.append_assoc]
      rfl
    | false =>
      rw [e] at c
      have st : q7b [.sh (.scr ns), .sh (.ref 0), .sh (.int (s.length : Int)), .sh (szD s), .sh (worldD s ws), .sh (.lst ((rowsM [[]] s).map rowD)), .sh (.tup ((sayL s.length).map sayD)), .ow (.lst ((acc).map sayD)), .sh (sayD x), .un, .un, .un, .un, .un, .un, .un, .un, .un, .un] S = some (.nx [.sh (.scr ns), .sh (.ref 0), .sh (.int (s.length : Int)), .sh (szD s), .sh (worldD s ws), .sh (.lst ((rowsM [[]] s).map rowD)), .sh (.tup ((sayL s.length).map sayD)), .ow (.lst ((acc).map sayD)), .sh (sayD x), .un, .un, .un, .un, .un, .un, .un, .un, .un, .un] S) := cond_f c
      obtain ⟨z', i⟩ := q7_loop w hn S xs acc (.sh (sayD x)) (fun y hy => hx y (.tail _ hy)) (by omega)
      refine ⟨z', (forF_step (g := gNm 8) (x := sayD x) (ρ1 := [.sh (.scr ns), .sh (.ref 0), .sh (.int (s.length : Int)), .sh (szD s), .sh (worldD s ws), .sh (.lst ((rowsM [[]] s).map rowD)), .sh (.tup ((sayL s.length).map sayD)), .ow (.lst ((acc).map sayD)), .sh (sayD x), .un, .un, .un, .un, .un, .un, .un, .un, .un, .un]) rfl st).trans (i.trans ?_)⟩
      rw [List.filter_cons, e, if_neg Bool.false_ne_true]
def q9 : Stm := (sIf (tNo (tTru (eCall F__law_alike (aCons (eCall F_sayings_of (aCons (eVar 4) aNil)) (aCons (eCB gTuple (aCons (bVar 7) aNil)) aNil))))) (sRet (eC (.bl false))) sNx)
theorem q9_s (w : Wo s ws) (hs : SzK s) (h2 : 2 ≤ s.length) (z8 : Sl) (S : Sto) : q9 [.sh (.scr ns), .sh (.ref 0), .sh (.int (s.length : Int)), .sh (szD s), .sh (worldD s ws), .sh (.lst ((rowsM [[]] s).map rowD)), .sh (.tup ((sayL s.length).map sayD)), .sh (.lst ((foundL s ws).map sayD)), z8, .un, .un, .un, .un, .un, .un, .un, .un, .un, .un] S = some (.nx [.sh (.scr ns), .sh (.ref 0), .sh (.int (s.length : Int)), .sh (szD s), .sh (worldD s ws), .sh (.lst ((rowsM [[]] s).map rowD)), .sh (.tup ((sayL s.length).map sayD)), .sh (.lst ((foundL s ws).map sayD)), z8, .un, .un, .un, .un, .un, .un, .un, .un, .un, .un] S) :=
  cond_f (alike_not (S1 := S) (S2 := S) (d := .tup ((foundL s ws).map sayD)) (eCall_of (ds := [worldD s ws]) (S1 := S) rfl (sayings_of_s w hs h2 S)) (eCB_of (ds := [.lst ((foundL s ws).map sayD)]) (S1 := S) rfl rfl) (found_shw hs h2) (by decide) (by decide))
def q10 : Stm := (sAsg (eCB gAll (aCons (eLc (iSeq (eBin D.ix (bVar 4) (eC (.int 1)))) (gNm 18) tYs (eBin D.gt (eBin D.ix (bVar 18) (eC (.int 0))) (eC (.int 0))) [18]) aNil)) (gNm 9))
theorem q10_s (z8 : Sl) (S : Sto) : q10 [.sh (.scr ns), .sh (.ref 0), .sh (.int (s.length : Int)), .sh (szD s), .sh (worldD s ws), .sh (.lst ((rowsM [[]] s).map rowD)), .sh (.tup ((sayL s.length).map sayD)), .sh (.lst ((foundL s ws).map sayD)), z8, .un, .un, .un, .un, .un, .un, .un, .un, .un, .un] S = some (.nx [.sh (.scr ns), .sh (.ref 0), .sh (.int (s.length : Int)), .sh (szD s), .sh (worldD s ws), .sh (.lst ((rowsM [[]] s).map rowD)), .sh (.tup ((sayL s.length).map sayD)), .sh (.lst ((foundL s ws).map sayD)), z8, .sh (.bl (ws.all fun x => decide ((0 : Int) < (nf x ws.sum).1))), .un, .un, .un, .un, .un, .un, .un, .un, .un] S) := by
  have al := all_b (ρ := [.sh (.scr ns), .sh (.ref 0), .sh (.int (s.length : Int)), .sh (szD s), .sh (worldD s ws), .sh (.lst ((rowsM [[]] s).map rowD)), .sh (.tup ((sayL s.length).map sayD)), .sh (.lst ((foundL s ws).map sayD)), z8, .un, .un, .un, .un, .un, .un, .un, .un, .un, .un]) (S := S) (g := gNm 18) (te := eBin D.gt (eBin D.ix (bVar 18) (eC (.int 0))) (eC (.int 0))) (w := [18]) (fun x : Int => frD (nf x ws.sum)) (fun x => decide ((0 : Int) < (nf x ws.sum).1)) ws (it := iSeq (eBin D.ix (bVar 4) (eC (.int 1)))) (iSeq_of (eBin_of (S1 := S) (S2 := S) (d1 := worldD s ws) (d2 := .int 1) rfl rfl (at1 _ _ _)) rfl) fun x _ =>
    ⟨[.sh (.scr ns), .sh (.ref 0), .sh (.int (s.length : Int)), .sh (szD s), .sh (worldD s ws), .sh (.lst ((rowsM [[]] s).map rowD)), .sh (.tup ((sayL s.length).map sayD)), .sh (.lst ((foundL s ws).map sayD)), z8, .un, .un, .un, .un, .un, .un, .un, .un, .un, .sh (frD (nf x ws.sum))], rfl, eBin_of (S1 := S) (S2 := S) (d1 := .int (nf x ws.sum).1) (d2 := .int 0) (eBin_of (S1 := S) (S2 := S) (d1 := frD (nf x ws.sum)) (d2 := .int 0) rfl rfl (at0 _ _)) rfl rfl⟩
  exact sAsg_of al rfl
noncomputable def q11 : Stm := (sIf (tBl (eBin D.ne (eCall F_closed (aCons (eVar 2) (aCons (eCB gTuple (aCons (bVar 7) aNil)) (aCons (eIf (tTru (bVar 9)) (eC (.str "above")) (eC (.str "all"))) aNil)))) (eCB gTuple (aCons (bVar 7) aNil)))) (sRet (eC (.bl false))) sNx)
theorem q11_s (w : Wo s ws) (hs : SzK s) (h2 : 2 ≤ s.length) (z8 : Sl) (S : Sto) : q11 [.sh (.scr ns), .sh (.ref 0), .sh (.int (s.length : Int)), .sh (szD s), .sh (worldD s ws), .sh (.lst ((rowsM [[]] s).map rowD)), .sh (.tup ((sayL s.length).map sayD)), .sh (.lst ((foundL s ws).map sayD)), z8, .sh (.bl (ws.all fun x => decide ((0 : Int) < (nf x ws.sum).1))), .un, .un, .un, .un, .un, .un, .un, .un, .un] S = some (.nx [.sh (.scr ns), .sh (.ref 0), .sh (.int (s.length : Int)), .sh (szD s), .sh (worldD s ws), .sh (.lst ((rowsM [[]] s).map rowD)), .sh (.tup ((sayL s.length).map sayD)), .sh (.lst ((foundL s ws).map sayD)), z8, .sh (.bl (ws.all fun x => decide ((0 : Int) < (nf x ws.sum).1))), .un, .un, .un, .un, .un, .un, .un, .un, .un] S) := by
  have hn := two_three hs h2
  have tp : ∀ ρ : Rho, bVar 7 ρ S = some (.lst ((foundL s ws).map sayD), S) → eCB gTuple (aCons (bVar 7) aNil) ρ S = some (.tup ((foundL s ws).map sayD), S) := fun ρ e => eCB_of (aCons_of e rfl) rfl
  obtain ⟨way, e1, hw⟩ : ∃ way : PySem.Str, eIf (tTru (bVar 9)) (eC (.str "above")) (eC (.str "all")) [.sh (.scr ns), .sh (.ref 0), .sh (.int (s.length : Int)), .sh (szD s), .sh (worldD s ws), .sh (.lst ((rowsM [[]] s).map rowD)), .sh (.tup ((sayL s.length).map sayD)), .sh (.lst ((foundL s ws).map sayD)), z8, .sh (.bl (ws.all fun x => decide ((0 : Int) < (nf x ws.sum).1))), .un, .un, .un, .un, .un, .un, .un, .un, .un] S = some (.str way, S) ∧ (way = "above" → ∀ x ∈ ws, 0 < x) := by
    have tr : tTru (bVar 9) [.sh (.scr ns), .sh (.ref 0), .sh (.int (s.length : Int)), .sh (szD s), .sh (worldD s ws), .sh (.lst ((rowsM [[]] s).map rowD)), .sh (.tup ((sayL s.length).map sayD)), .sh (.lst ((foundL s ws).map sayD)), z8, .sh (.bl (ws.all fun x => decide ((0 : Int) < (nf x ws.sum).1))), .un, .un, .un, .un, .un, .un, .un, .un, .un] S = some ((ws.all fun x => decide ((0 : Int) < (nf x ws.sum).1)), S) := tru_bl rfl
    cases e : (ws.all fun x => decide ((0 : Int) < (nf x ws.sum).1)) with
    | true =>
      rw [e] at tr
      exact ⟨"above", eIf_t tr rfl, fun _ => full_pos w e⟩
    | false =>
      rw [e] at tr
      exact ⟨"all", eIf_f tr rfl, fun z => absurd z (by decide +kernel)⟩
  have cl := closed_found w hn (s.length : Int) way hw S
  exact cond_f (tBl_of (eBin_of (S1 := S) (S2 := S) (d1 := .tup ((foundL s ws).map sayD)) (d2 := .tup ((foundL s ws).map sayD)) (eCall_of (aCons_of (S1 := S) rfl (aCons_of (tp _ rfl) (aCons_of e1 rfl))) cl) (tp _ rfl) (ne_says _)))
def q12b : Stm := (sSeq (sAsg (eBin D.ix (bVar 6) (eCall F__law_take (aCons (eVar 1) (aCons (eCB gLen (aCons (bVar 6) aNil)) aNil)))) (gNm 8)) (sSeq (sAsg (eLc (iSeq (bVar 5)) (gNm 17) (tTru (eCall F__law_fails_at (aCons (eVar 4) (aCons (eVar 8) (aCons (eVar 17) aNil))))) (eVar 17) [17]) (gNm 11)) (sSeq (sAsg (eCall F_holding_paper (aCons (eVar 4) (aCons (eVar 8) aNil))) (gNm 12)) (sSeq (sIf (tNo (tTru (eCall F__law_alike (aCons (eVar 12) (aCons (eIf (tTru (bVar 11)) (eTup (aCons (eC (.str "fails")) (aCons (eBin D.ix (bVar 11) (eC (.int 0))) aNil))) (eTup (aCons (eC (.str "holds")) aNil))) aNil))))) (sRet (eC (.bl false))) sNx) (sFor (iRng (aCons (eC (.int 4)) aNil)) (gNm 13) (sSeq (sAsg (eCall F__law_bent (aCons (eVar 1) (aCons (eVar 12) (aCons (eVar 13) aNil)))) (gNm 14)) (sSeq (sIf (tBl (eBin D.eq (bVar 13) (eC (.int 3)))) (sAsg (eTup (aCons (eC (.str "fails")) (aCons (eBin D.ix (bVar 5) (eCall F__law_take (aCons (eVar 1) (aCons (eCB gLen (aCons (bVar 5) aNil)) aNil)))) aNil))) (gNm 14)) sNx) (sSeq (sAsg (eCall F_judge_holding (aCons (eVar 4) (aCons (eVar 8) (aCons (eVar 14) aNil)))) (gNm 15)) (sIf (DL.tOr (tNo (tTru (eCB gIsi (aCons (bVar 15) (aCons (eC (.ty "bool")) aNil))))) (tBl (eBin D.ne (bVar 15) (eCall F__law_is_paper (aCons (eVar 4) (aCons (eVar 8) (aCons (eVar 11) (aCons (eVar 14) aNil)))))))) (sRet (eC (.bl false))) sNx)))))))))
def q12i : Stm := (sSeq (sAsg (eCall F__law_bent (aCons (eVar 1) (aCons (eVar 12) (aCons (eVar 13) aNil)))) (gNm 14)) (sSeq (sIf (tBl (eBin D.eq (bVar 13) (eC (.int 3)))) (sAsg (eTup (aCons (eC (.str "fails")) (aCons (eBin D.ix (bVar 5) (eCall F__law_take (aCons (eVar 1) (aCons (eCB gLen (aCons (bVar 5) aNil)) aNil)))) aNil))) (gNm 14)) sNx) (sSeq (sAsg (eCall F_judge_holding (aCons (eVar 4) (aCons (eVar 8) (aCons (eVar 14) aNil)))) (gNm 15)) (sIf (DL.tOr (tNo (tTru (eCB gIsi (aCons (bVar 15) (aCons (eC (.ty "bool")) aNil))))) (tBl (eBin D.ne (bVar 15) (eCall F__law_is_paper (aCons (eVar 4) (aCons (eVar 8) (aCons (eVar 11) (aCons (eVar 14) aNil)))))))) (sRet (eC (.bl false))) sNx))))
theorem in_step (w : Wo s ws) (hs : SzK s) (h2 : 2 ≤ s.length) {x : Say} (hx : x ∈ allL s.length) {k : Nat} {S : Sto} (hg : Good k S) (hk : k ≤ 19000) (t : Nat) (z10 z14 z15 : Sl) : ∃ (w14 w15 : Sl) (S' : Sto), q12i [.sh (.scr ns), .sh (.ref 0), .sh (.int (s.length : Int)), .sh (szD s), .sh (worldD s ws), .sh (.lst ((rowsM [[]] s).map rowD)), .sh (.tup ((sayL s.length).map sayD)), .sh (.lst ((foundL s ws).map sayD)), .sh (sayD x), .sh (.bl (ws.all fun x => decide ((0 : Int) < (nf x ws.sum).1))), z10, .sh (.lst ((failL s ws x).map rowD)), .sh (hpD (ffB s ws x)), .sh (.int (t : Int)), z14, z15, .un, .un, .un] S = some (.nx [.sh (.scr ns), .sh (.ref 0), .sh (.int (s.length : Int)), .sh (szD s), .sh (worldD s ws), .sh (.lst ((rowsM [[]] s).map rowD)), .sh (.tup ((sayL s.length).map sayD)), .sh (.lst ((foundL s ws).map sayD)), .sh (sayD x), .sh (.bl (ws.all fun x => decide ((0 : Int) < (nf x ws.sum).1))), z10, .sh (.lst ((failL s ws x).map rowD)), .sh (hpD (ffB s ws x)), .sh (.int (t : Int)), w14, w15, .un, .un, .un] S') ∧ Good (k + 41) S' := by
  have bd := (bounds (two_three hs h2) hx).1
  obtain ⟨a, S1, e1, p1, g1⟩ := bent_s t (hp_ok hs ws x) hg (by omega)
  have st1 : (sAsg (eCall F__law_bent (aCons (eVar 1) (aCons (eVar 12) (aCons (eVar 13) aNil)))) (gNm 14)) [.sh (.scr ns), .sh (.ref 0), .sh (.int (s.length : Int)), .sh (szD s), .sh (worldD s ws), .sh (.lst ((rowsM [[]] s).map rowD)), .sh (.tup ((sayL s.length).map sayD)), .sh (.lst ((foundL s ws).map sayD)), .sh (sayD x), .sh (.bl (ws.all fun x => decide ((0 : Int) < (nf x ws.sum).1))), z10, .sh (.lst ((failL s ws x).map rowD)), .sh (hpD (ffB s ws x)), .sh (.int (t : Int)), z14, z15, .un, .un, .un] S = some (.nx [.sh (.scr ns), .sh (.ref 0), .sh (.int (s.length : Int)), .sh (szD s), .sh (worldD s ws), .sh (.lst ((rowsM [[]] s).map rowD)), .sh (.tup ((sayL s.length).map sayD)), .sh (.lst ((foundL s ws).map sayD)), .sh (sayD x), .sh (.bl (ws.all fun x => decide ((0 : Int) < (nf x ws.sum).1))), z10, .sh (.lst ((failL s ws x).map rowD)), .sh (hpD (ffB s ws x)), .sh (.int (t : Int)), .sh a, z15, .un, .un, .un] S1) := sAsg_of (eCall_of (ds := [.ref 0, hpD (ffB s ws x), .int (t : Int)]) (S1 := S) rfl e1) rfl
  have st2 : ∃ b S2, (sIf (tBl (eBin D.eq (bVar 13) (eC (.int 3)))) (sAsg (eTup (aCons (eC (.str "fails")) (aCons (eBin D.ix (bVar 5) (eCall F__law_take (aCons (eVar 1) (aCons (eCB gLen (aCons (bVar 5) aNil)) aNil)))) aNil))) (gNm 14)) sNx) [.sh (.scr ns), .sh (.ref 0), .sh (.int (s.length : Int)), .sh (szD s), .sh (worldD s ws), .sh (.lst ((rowsM [[]] s).map rowD)), .sh (.tup ((sayL s.length).map sayD)), .sh (.lst ((foundL s ws).map sayD)), .sh (sayD x), .sh (.bl (ws.all fun x => decide ((0 : Int) < (nf x ws.sum).1))), z10, .sh (.lst ((failL s ws x).map rowD)), .sh (hpD (ffB s ws x)), .sh (.int (t : Int)), .sh a, z15, .un, .un, .un] S1 = some (.nx [.sh (.scr ns), .sh (.ref 0), .sh (.int (s.length : Int)), .sh (szD s), .sh (worldD s ws), .sh (.lst ((rowsM [[]] s).map rowD)), .sh (.tup ((sayL s.length).map sayD)), .sh (.lst ((foundL s ws).map sayD)), .sh (sayD x), .sh (.bl (ws.all fun x => decide ((0 : Int) < (nf x ws.sum).1))), z10, .sh (.lst ((failL s ws x).map rowD)), .sh (hpD (ffB s ws x)), .sh (.int (t : Int)), .sh b, z15, .un, .un, .un] S2) ∧ Pap b ∧ Good (k + 41) S2 := by
    have c : tBl (eBin D.eq (bVar 13) (eC (.int 3))) [.sh (.scr ns), .sh (.ref 0), .sh (.int (s.length : Int)), .sh (szD s), .sh (worldD s ws), .sh (.lst ((rowsM [[]] s).map rowD)), .sh (.tup ((sayL s.length).map sayD)), .sh (.lst ((foundL s ws).map sayD)), .sh (sayD x), .sh (.bl (ws.all fun x => decide ((0 : Int) < (nf x ws.sum).1))), z10, .sh (.lst ((failL s ws x).map rowD)), .sh (hpD (ffB s ws x)), .sh (.int (t : Int)), .sh a, z15, .un, .un, .un] S1 = some (decide ((t : Int) = 3), S1) := tBl_of (eBin_of (S1 := S1) (S2 := S1) (d1 := .int (t : Int)) (d2 := .int 3) rfl rfl (eq_int _ _))
    by_cases t3 : (t : Int) = 3
    · rw [decide_eq_true t3] at c
      have rp := hs.ne
      have rl := rowsM_len hs.small
      obtain ⟨q, S2, tq, hq, g2⟩ := take_s ((rowsM [[]] s).length : Int) g1 (by omega) (by omega) (by omega)
      have hq' : q < (rowsM [[]] s).length := by omega
      have ix : D.ix (.lst ((rowsM [[]] s).map rowD)) (.int (q : Int)) = some (rowD ((rowsM [[]] s)[q]'hq')) := by
        rw [ix_lst (by rw [List.length_map]; exact hq'), List.getElem_map]
      refine ⟨.tup [.str "fails", rowD ((rowsM [[]] s)[q]'hq')], S2, sIf_t c (sAsg_of (pair_s (S1 := S1) (S2 := S2) (d1 := .str "fails") rfl (eBin_of (S1 := S1) (S2 := S2) (d1 := .lst ((rowsM [[]] s).map rowD)) (d2 := .int (q : Int)) rfl (eCall_of (aCons_of (S1 := S1) rfl (aCons_of (eCB_of (ds := [.lst ((rowsM [[]] s).map rowD)]) (S1 := S1) rfl (by simp only [gLen, List.length_map])) rfl)) tq) ix)) rfl), ok_mono (by decide) (fails_ok hs (List.getElem_mem hq')) (by decide), g2.mono (by omega)⟩
    · rw [decide_eq_false t3] at c
      exact ⟨a, S1, cond_f c, p1, g1.mono (by omega)⟩
  obtain ⟨b, S2, st2, pb, g2⟩ := st2
  obtain ⟨k1, f1, i1⟩ := judge_s w bd pb S2
  obtain ⟨k2, f2, i2⟩ := is_paper_s w (x := x) pb S2
  have e12 : k2 = k1 := bool_iff i2 i1
  rw [e12] at f2
  have st3 : (sAsg (eCall F_judge_holding (aCons (eVar 4) (aCons (eVar 8) (aCons (eVar 14) aNil)))) (gNm 15)) [.sh (.scr ns), .sh (.ref 0), .sh (.int (s.length : Int)), .sh (szD s), .sh (worldD s ws), .sh (.lst ((rowsM [[]] s).map rowD)), .sh (.tup ((sayL s.length).map sayD)), .sh (.lst ((foundL s ws).map sayD)), .sh (sayD x), .sh (.bl (ws.all fun x => decide ((0 : Int) < (nf x ws.sum).1))), z10, .sh (.lst ((failL s ws x).map rowD)), .sh (hpD (ffB s ws x)), .sh (.int (t : Int)), .sh b, z15, .un, .un, .un] S2 = some (.nx [.sh (.scr ns), .sh (.ref 0), .sh (.int (s.length : Int)), .sh (szD s), .sh (worldD s ws), .sh (.lst ((rowsM [[]] s).map rowD)), .sh (.tup ((sayL s.length).map sayD)), .sh (.lst ((foundL s ws).map sayD)), .sh (sayD x), .sh (.bl (ws.all fun x => decide ((0 : Int) < (nf x ws.sum).1))), z10, .sh (.lst ((failL s ws x).map rowD)), .sh (hpD (ffB s ws x)), .sh (.int (t : Int)), .sh b, .sh (.bl k1), .un, .un, .un] S2) := sAsg_of (eCall_of (ds := [worldD s ws, sayD x, b]) (S1 := S2) rfl f1) rfl
  refine ⟨.sh b, .sh (.bl k1), S2, ?_, g2⟩
  unfold q12i
  refine sSeq_of st1 ?_
  refine sSeq_of st2 ?_
  refine sSeq_of st3 ?_
  exact cond_f (tOr_f (tNo_of (tru_bl (isi_of (d := .bl k1) (S1 := S2) rfl (isi_bl k1)))) (tBl_of (eBin_of (S1 := S2) (S2 := S2) (d1 := .bl k1) (d2 := .bl k1) rfl (eCall_of (ds := [worldD s ws, sayD x, .lst ((failL s ws x).map rowD), b]) (S1 := S2) rfl f2) (ne_bl k1))))
theorem in_loop (w : Wo s ws) (hs : SzK s) (h2 : 2 ≤ s.length) {x : Say} (hx : x ∈ allL s.length) : ∀ (ts : List Nat) (k : Nat) (S : Sto) (z10 z13 z14 z15 : Sl), Good k S → k + 41 * ts.length ≤ 19000 → ∃ (w13 w14 w15 : Sl) (S' : Sto), forF (gNm 13) q12i (ts.map fun (t : Nat) => D.int (t : Int)) [.sh (.scr ns), .sh (.ref 0), .sh (.int (s.length : Int)), .sh (szD s), .sh (worldD s ws), .sh (.lst ((rowsM [[]] s).map rowD)), .sh (.tup ((sayL s.length).map sayD)), .sh (.lst ((foundL s ws).map sayD)), .sh (sayD x), .sh (.bl (ws.all fun x => decide ((0 : Int) < (nf x ws.sum).1))), z10, .sh (.lst ((failL s ws x).map rowD)), .sh (hpD (ffB s ws x)), z13, z14, z15, .un, .un, .un] S = some (.nx [.sh (.scr ns), .sh (.ref 0), .sh (.int (s.length : Int)), .sh (szD s), .sh (worldD s ws), .sh (.lst ((rowsM [[]] s).map rowD)), .sh (.tup ((sayL s.length).map sayD)), .sh (.lst ((foundL s ws).map sayD)), .sh (sayD x), .sh (.bl (ws.all fun x => decide ((0 : Int) < (nf x ws.sum).1))), z10, .sh (.lst ((failL s ws x).map rowD)), .sh (hpD (ffB s ws x)), w13, w14, w15, .un, .un, .un] S') ∧ Good (k + 41 * ts.length) S'
  | [], k, S, z10, z13, z14, z15, hg, _ => ⟨z13, z14, z15, S, rfl, hg⟩
  | t :: ts, k, S, z10, z13, z14, z15, hg, hk => by
    rw [List.length_cons] at hk
    obtain ⟨a, b, S1, e, g⟩ := in_step (ns := ns) w hs h2 hx hg (by omega) t z10 z14 z15
    obtain ⟨w13, w14, w15, S2, e2, g2⟩ := in_loop w hs h2 hx ts (k + 41) S1 z10 (.sh (.int (t : Int))) a b g (by omega)
    exact ⟨w13, w14, w15, S2, (forF_step rfl e).trans e2, by rw [List.length_cons, show k + 41 * (ts.length + 1) = k + 41 + 41 * ts.length by omega]; exact g2⟩
theorem out_step (w : Wo s ws) (hs : SzK s) (h2 : 2 ≤ s.length) {k : Nat} {S : Sto} (hg : Good k S) (hk : k ≤ 18000) (z8 z10 z11 z12 z13 z14 z15 : Sl) : ∃ (w8 w11 w12 w13 w14 w15 : Sl) (S' : Sto), q12b [.sh (.scr ns), .sh (.ref 0), .sh (.int (s.length : Int)), .sh (szD s), .sh (worldD s ws), .sh (.lst ((rowsM [[]] s).map rowD)), .sh (.tup ((sayL s.length).map sayD)), .sh (.lst ((foundL s ws).map sayD)), z8, .sh (.bl (ws.all fun x => decide ((0 : Int) < (nf x ws.sum).1))), z10, z11, z12, z13, z14, z15, .un, .un, .un] S = some (.nx [.sh (.scr ns), .sh (.ref 0), .sh (.int (s.length : Int)), .sh (szD s), .sh (worldD s ws), .sh (.lst ((rowsM [[]] s).map rowD)), .sh (.tup ((sayL s.length).map sayD)), .sh (.lst ((foundL s ws).map sayD)), w8, .sh (.bl (ws.all fun x => decide ((0 : Int) < (nf x ws.sum).1))), z10, w11, w12, w13, w14, w15, .un, .un, .un] S') ∧ Good (k + 170) S' := by
  have hn := two_three hs h2
  have ln : (sayL s.length).length = (allL s.length).length := List.length_mergeSort _
  have lb : 0 < (sayL s.length).length ∧ (sayL s.length).length ≤ 18 := by
    have a := f_len18
    have b := f_pos
    rw [ln]
    rcases hn with e | e <;> rw [e] <;> omega
  obtain ⟨q, S1, t1, hq, g1⟩ := take_s ((sayL s.length).length : Int) hg (by omega) (by omega) (by omega)
  have hq' : q < (sayL s.length).length := by omega
  obtain ⟨x, hx0⟩ : ∃ x, x = (sayL s.length)[q]'hq' := ⟨_, rfl⟩
  have hx : x ∈ allL s.length := by
    rw [hx0]
    exact sayL_mem.mp (List.getElem_mem hq')
  have bd := (bounds hn hx).1
  have ix : D.ix (.tup ((sayL s.length).map sayD)) (.int (q : Int)) = some (sayD x) := by
    rw [ix_tup (by rw [List.length_map]; exact hq'), List.getElem_map, hx0]
  have st1 : (sAsg (eBin D.ix (bVar 6) (eCall F__law_take (aCons (eVar 1) (aCons (eCB gLen (aCons (bVar 6) aNil)) aNil)))) (gNm 8)) [.sh (.scr ns), .sh (.ref 0), .sh (.int (s.length : Int)), .sh (szD s), .sh (worldD s ws), .sh (.lst ((rowsM [[]] s).map rowD)), .sh (.tup ((sayL s.length).map sayD)), .sh (.lst ((foundL s ws).map sayD)), z8, .sh (.bl (ws.all fun x => decide ((0 : Int) < (nf x ws.sum).1))), z10, z11, z12, z13, z14, z15, .un, .un, .un] S = some (.nx [.sh (.scr ns), .sh (.ref 0), .sh (.int (s.length : Int)), .sh (szD s), .sh (worldD s ws), .sh (.lst ((rowsM [[]] s).map rowD)), .sh (.tup ((sayL s.length).map sayD)), .sh (.lst ((foundL s ws).map sayD)), .sh (sayD x), .sh (.bl (ws.all fun x => decide ((0 : Int) < (nf x ws.sum).1))), z10, z11, z12, z13, z14, z15, .un, .un, .un] S1) := sAsg_of (eBin_of (S1 := S) (S2 := S1) (d1 := .tup ((sayL s.length).map sayD)) (d2 := .int (q : Int)) rfl (eCall_of (aCons_of (S1 := S) rfl (aCons_of (eCB_of (ds := [.tup ((sayL s.length).map sayD)]) (S1 := S) rfl (by simp only [gLen, List.length_map])) rfl)) t1) ix) rfl
  have c2 := compF_map (g := gNm 17) (tt := tTru (eCall F__law_fails_at (aCons (eVar 4) (aCons (eVar 8) (aCons (eVar 17) aNil))))) (te := eVar 17) (ρ := [.sh (.scr ns), .sh (.ref 0), .sh (.int (s.length : Int)), .sh (szD s), .sh (worldD s ws), .sh (.lst ((rowsM [[]] s).map rowD)), .sh (.tup ((sayL s.length).map sayD)), .sh (.lst ((foundL s ws).map sayD)), .sh (sayD x), .sh (.bl (ws.all fun x => decide ((0 : Int) < (nf x ws.sum).1))), z10, z11, z12, z13, z14, z15, .un, .un, .un]) (S := S1) rowD (brk s ws x) rowD (rowsM [[]] s) fun r hr =>
    ⟨[.sh (.scr ns), .sh (.ref 0), .sh (.int (s.length : Int)), .sh (szD s), .sh (worldD s ws), .sh (.lst ((rowsM [[]] s).map rowD)), .sh (.tup ((sayL s.length).map sayD)), .sh (.lst ((foundL s ws).map sayD)), .sh (sayD x), .sh (.bl (ws.all fun x => decide ((0 : Int) < (nf x ws.sum).1))), z10, z11, z12, z13, z14, z15, .un, .sh (rowD r), .un], rfl, tru_bl (eCall_of (ds := [worldD s ws, sayD x, rowD r]) (S1 := S1) rfl (law_fails_at_s w bd (row_len hr) S1)), fun _ => rfl⟩
  have l2 := eLc_of (vs := [17]) (it := iSeq (bVar 5)) (ρ := [.sh (.scr ns), .sh (.ref 0), .sh (.int (s.length : Int)), .sh (szD s), .sh (worldD s ws), .sh (.lst ((rowsM [[]] s).map rowD)), .sh (.tup ((sayL s.length).map sayD)), .sh (.lst ((foundL s ws).map sayD)), .sh (sayD x), .sh (.bl (ws.all fun x => decide ((0 : Int) < (nf x ws.sum).1))), z10, z11, z12, z13, z14, z15, .un, .un, .un]) (S := S1) rfl c2
  have st2 : (sAsg (eLc (iSeq (bVar 5)) (gNm 17) (tTru (eCall F__law_fails_at (aCons (eVar 4) (aCons (eVar 8) (aCons (eVar 17) aNil))))) (eVar 17) [17]) (gNm 11)) [.sh (.scr ns), .sh (.ref 0), .sh (.int (s.length : Int)), .sh (szD s), .sh (worldD s ws), .sh (.lst ((rowsM [[]] s).map rowD)), .sh (.tup ((sayL s.length).map sayD)), .sh (.lst ((foundL s ws).map sayD)), .sh (sayD x), .sh (.bl (ws.all fun x => decide ((0 : Int) < (nf x ws.sum).1))), z10, z11, z12, z13, z14, z15, .un, .un, .un] S1 = some (.nx [.sh (.scr ns), .sh (.ref 0), .sh (.int (s.length : Int)), .sh (szD s), .sh (worldD s ws), .sh (.lst ((rowsM [[]] s).map rowD)), .sh (.tup ((sayL s.length).map sayD)), .sh (.lst ((foundL s ws).map sayD)), .sh (sayD x), .sh (.bl (ws.all fun x => decide ((0 : Int) < (nf x ws.sum).1))), z10, .sh (.lst ((failL s ws x).map rowD)), z12, z13, z14, z15, .un, .un, .un] S1) := sAsg_of l2 rfl
  have st3 : (sAsg (eCall F_holding_paper (aCons (eVar 4) (aCons (eVar 8) aNil))) (gNm 12)) [.sh (.scr ns), .sh (.ref 0), .sh (.int (s.length : Int)), .sh (szD s), .sh (worldD s ws), .sh (.lst ((rowsM [[]] s).map rowD)), .sh (.tup ((sayL s.length).map sayD)), .sh (.lst ((foundL s ws).map sayD)), .sh (sayD x), .sh (.bl (ws.all fun x => decide ((0 : Int) < (nf x ws.sum).1))), z10, .sh (.lst ((failL s ws x).map rowD)), z12, z13, z14, z15, .un, .un, .un] S1 = some (.nx [.sh (.scr ns), .sh (.ref 0), .sh (.int (s.length : Int)), .sh (szD s), .sh (worldD s ws), .sh (.lst ((rowsM [[]] s).map rowD)), .sh (.tup ((sayL s.length).map sayD)), .sh (.lst ((foundL s ws).map sayD)), .sh (sayD x), .sh (.bl (ws.all fun x => decide ((0 : Int) < (nf x ws.sum).1))), z10, .sh (.lst ((failL s ws x).map rowD)), .sh (hpD (ffB s ws x)), z13, z14, z15, .un, .un, .un] S1) := sAsg_of (eCall_of (ds := [worldD s ws, sayD x]) (S1 := S1) rfl (holding_paper_s w bd S1)) rfl
  have due : eIf (tTru (bVar 11)) (eTup (aCons (eC (.str "fails")) (aCons (eBin D.ix (bVar 11) (eC (.int 0))) aNil))) (eTup (aCons (eC (.str "holds")) aNil)) [.sh (.scr ns), .sh (.ref 0), .sh (.int (s.length : Int)), .sh (szD s), .sh (worldD s ws), .sh (.lst ((rowsM [[]] s).map rowD)), .sh (.tup ((sayL s.length).map sayD)), .sh (.lst ((foundL s ws).map sayD)), .sh (sayD x), .sh (.bl (ws.all fun x => decide ((0 : Int) < (nf x ws.sum).1))), z10, .sh (.lst ((failL s ws x).map rowD)), .sh (hpD (ffB s ws x)), z13, z14, z15, .un, .un, .un] S1 = some (hpD (ffB s ws x), S1) := by
    have e : ffB s ws x = (failL s ws x).head? := by
      unfold ffB failL
      rw [List.head?_filter]
    rw [e]
    cases z : failL s ws x with
    | nil => exact eIf_f (tTru_of (S1 := S1) (d := .lst []) rfl rfl) (tup1 (S1 := S1) rfl)
    | cons a b => exact eIf_t (tTru_of (S1 := S1) (d := .lst (rowD a :: b.map rowD)) rfl rfl) (pair_s (S1 := S1) (S2 := S1) rfl (eBin_of (S1 := S1) (S2 := S1) (d1 := .lst (rowD a :: b.map rowD)) (d2 := .int 0) rfl rfl (at0 _ _)))
  have st4 : (sIf (tNo (tTru (eCall F__law_alike (aCons (eVar 12) (aCons (eIf (tTru (bVar 11)) (eTup (aCons (eC (.str "fails")) (aCons (eBin D.ix (bVar 11) (eC (.int 0))) aNil))) (eTup (aCons (eC (.str "holds")) aNil))) aNil))))) (sRet (eC (.bl false))) sNx) [.sh (.scr ns), .sh (.ref 0), .sh (.int (s.length : Int)), .sh (szD s), .sh (worldD s ws), .sh (.lst ((rowsM [[]] s).map rowD)), .sh (.tup ((sayL s.length).map sayD)), .sh (.lst ((foundL s ws).map sayD)), .sh (sayD x), .sh (.bl (ws.all fun x => decide ((0 : Int) < (nf x ws.sum).1))), z10, .sh (.lst ((failL s ws x).map rowD)), .sh (hpD (ffB s ws x)), z13, z14, z15, .un, .un, .un] S1 = some (.nx [.sh (.scr ns), .sh (.ref 0), .sh (.int (s.length : Int)), .sh (szD s), .sh (worldD s ws), .sh (.lst ((rowsM [[]] s).map rowD)), .sh (.tup ((sayL s.length).map sayD)), .sh (.lst ((foundL s ws).map sayD)), .sh (sayD x), .sh (.bl (ws.all fun x => decide ((0 : Int) < (nf x ws.sum).1))), z10, .sh (.lst ((failL s ws x).map rowD)), .sh (hpD (ffB s ws x)), z13, z14, z15, .un, .un, .un] S1) := cond_f (alike_not (S1 := S1) (S2 := S1) rfl due (shw_ok (hp_ok hs ws x)) (by decide) (by decide))
  obtain ⟨w13, w14, w15, S2, lp, g2⟩ := in_loop (ns := ns) w hs h2 hx (List.range 4) (k + 1) S1 z10 z13 z14 z15 g1 (by rw [List.length_range]; omega)
  have rg : iRng (aCons (eC (.int 4)) aNil) [.sh (.scr ns), .sh (.ref 0), .sh (.int (s.length : Int)), .sh (szD s), .sh (worldD s ws), .sh (.lst ((rowsM [[]] s).map rowD)), .sh (.tup ((sayL s.length).map sayD)), .sh (.lst ((foundL s ws).map sayD)), .sh (sayD x), .sh (.bl (ws.all fun x => decide ((0 : Int) < (nf x ws.sum).1))), z10, .sh (.lst ((failL s ws x).map rowD)), .sh (hpD (ffB s ws x)), z13, z14, z15, .un, .un, .un] S1 = some ((List.range 4).map fun (i : Nat) => D.int (i : Int), S1) := iRng_of (ds := [.int ((4 : Nat) : Int)]) (S1 := S1) rfl (rangeOf_nat (by decide))
  refine ⟨.sh (sayD x), .sh (.lst ((failL s ws x).map rowD)), .sh (hpD (ffB s ws x)), w13, w14, w15, S2, ?_, g2.mono (by rw [List.length_range]; omega)⟩
  unfold q12b
  refine sSeq_of st1 ?_
  refine sSeq_of st2 ?_
  refine sSeq_of st3 ?_
  refine sSeq_of st4 ?_
  exact sFor_of rg lp
theorem out_loop (w : Wo s ws) (hs : SzK s) (h2 : 2 ≤ s.length) : ∀ (ts : List Nat) (k : Nat) (S : Sto) (z8 z10 z11 z12 z13 z14 z15 : Sl), Good k S → k + 170 * ts.length ≤ 18000 → ∃ (w8 w10 w11 w12 w13 w14 w15 : Sl) (S' : Sto), forF (gNm 10) q12b (ts.map fun (t : Nat) => D.int (t : Int)) [.sh (.scr ns), .sh (.ref 0), .sh (.int (s.length : Int)), .sh (szD s), .sh (worldD s ws), .sh (.lst ((rowsM [[]] s).map rowD)), .sh (.tup ((sayL s.length).map sayD)), .sh (.lst ((foundL s ws).map sayD)), z8, .sh (.bl (ws.all fun x => decide ((0 : Int) < (nf x ws.sum).1))), z10, z11, z12, z13, z14, z15, .un, .un, .un] S = some (.nx [.sh (.scr ns), .sh (.ref 0), .sh (.int (s.length : Int)), .sh (szD s), .sh (worldD s ws), .sh (.lst ((rowsM [[]] s).map rowD)), .sh (.tup ((sayL s.length).map sayD)), .sh (.lst ((foundL s ws).map sayD)), w8, .sh (.bl (ws.all fun x => decide ((0 : Int) < (nf x ws.sum).1))), w10, w11, w12, w13, w14, w15, .un, .un, .un] S')
  | [], k, S, z8, z10, z11, z12, z13, z14, z15, hg, _ => ⟨z8, z10, z11, z12, z13, z14, z15, S, rfl⟩
  | t :: ts, k, S, z8, z10, z11, z12, z13, z14, z15, hg, hk => by
    rw [List.length_cons] at hk
    obtain ⟨a8, a11, a12, a13, a14, a15, S1, e, g⟩ := out_step (ns := ns) w hs h2 hg (by omega) z8 (.sh (.int (t : Int))) z11 z12 z13 z14 z15
    obtain ⟨w8, w10, w11, w12, w13, w14, w15, S2, e2⟩ := out_loop w hs h2 ts (k + 170) S1 a8 (.sh (.int (t : Int))) a11 a12 a13 a14 a15 g (by omega)
    exact ⟨w8, w10, w11, w12, w13, w14, w15, S2, (forF_step rfl e).trans e2⟩
end
end W13

set_option Elab.async false
set_option linter.all false
set_option maxRecDepth 100000
namespace W13
open DL
open L2 (atI atI_nat ixN)
theorem math (ns : List Int) (hns : ns.length ≤ 63) : ∃ S', b_law (rho0 19 [.scr ns]) [] = some (.rt (.bl true) S') := by
  obtain ⟨ns', hst⟩ := start_s ns []
  have g0 : Good 0 (cS (ns'.map D.int) 0 0 0) := ⟨ns', 0, 0, 0, rfl, by decide, by decide, by decide, by decide⟩
  obtain ⟨r, S1, t1, hr, g1⟩ := take_s 2 g0 (by decide) (by decide) (by decide)
  obtain ⟨s, S2, e3, sl, hs, g2⟩ := q3_s (ns := ns) (n := r + 2) (by omega) (by omega) g1 (by decide)
  have h2 : 2 ≤ s.length := by omega
  have hn := two_three hs h2
  obtain ⟨ws, S3, e4, w, g3⟩ := q4_s (ns := ns) hs h2 g2 (by decide)
  have ln : (sayL s.length).length = (allL s.length).length := List.length_mergeSort _
  have lb : (sayL s.length).length ≤ 18 := by
    have a := f_len18
    rw [ln]
    rcases hn with e | e <;> rw [e] <;> omega
  obtain ⟨z8, lp7⟩ := q7_loop (ns := ns) w hn S3 (sayL s.length) [] .un (fun x hx => sayL_mem.mp hx) (by rw [List.length_nil]; omega)
  rw [List.nil_append] at lp7
  obtain ⟨w8, w10, w11, w12, w13, w14, w15, S4, lp⟩ := out_loop (ns := ns) w hs h2 (List.range 3) _ S3 z8 .un .un .un .un .un .un g3 (by rw [List.length_range]; decide)
  have st1 : sOwn (eCall F__law_start (aCons (eVar 0) aNil)) 1 (rho0 19 [.scr ns]) [] = some (.nx [.sh (.scr ns), .ow (.lst [.lst (ns'.map D.int), .int 0, .int 0, .int 0, .int 20]), .un, .un, .un, .un, .un, .un, .un, .un, .un, .un, .un, .un, .un, .un, .un, .un, .un] []) := by
    unfold sOwn
    rw [eCall_of (S1 := []) rfl hst]
    rfl
  have rg : iRng (aCons (eC (.int 3)) aNil) [.sh (.scr ns), .sh (.ref 0), .sh (.int (s.length : Int)), .sh (szD s), .sh (worldD s ws), .sh (.lst ((rowsM [[]] s).map rowD)), .sh (.tup ((sayL s.length).map sayD)), .sh (.lst ((foundL s ws).map sayD)), z8, .sh (.bl (ws.all fun x => decide ((0 : Int) < (nf x ws.sum).1))), .un, .un, .un, .un, .un, .un, .un, .un, .un] S3 = some ((List.range 3).map fun (i : Nat) => D.int (i : Int), S3) := iRng_of (ds := [.int ((3 : Nat) : Int)]) (S1 := S3) rfl (rangeOf_nat (by decide))
  refine ⟨S4, ?_⟩
  unfold b_law
  refine sSeq_of st1 ?_
  refine sPub_of rfl ?_
  refine sSeq_of (q2_s t1 sl) ?_
  rw [← sl] at e3
  refine sSeq_of e3 ?_
  refine sSeq_of e4 ?_
  refine sSeq_of (q5_s hs _) ?_
  refine sSeq_of (q6_s _) ?_
  refine sSeq_of (sFor_of (iSeq_of (d := .tup ((sayL s.length).map sayD)) (S1 := S3) rfl rfl) lp7) ?_
  refine sFz_of rfl ?_
  refine sSeq_of (q9_s w hs h2 z8 _) ?_
  refine sSeq_of (q10_s z8 _) ?_
  refine sSeq_of (q11_s w hs h2 z8 _) ?_
  refine sSeq_of (sFor_of rg lp) ?_
  exact sRet_of rfl
end W13

set_option Elab.async false
set_option linter.all false
set_option maxRecDepth 100000
set_option maxHeartbeats 4000000
namespace W13
open PySem PySem.Spec PyProof.Rows L2 DL
theorem all_mk {l : PySem.W.OpenLaw} {w : World} {K : PySem.W.Frag} {h : Heap} {mg : Str → Option Value} {fa f1 f2 f3 f4 f5 f6 f7 f8 f9 f10 f11 f12 f13 f14 f15 f16 f17 f18 f19 f20 f21 f22 f23 f24 f25 f26 f27 f28 f29 f30 f31 f32 f33 f34 f35 f36 f37 f38 f39 f40 f41 f42 : Addr} (X : K.In h) (G : h.Ns mainGlobals mg) (hfa : mg "law" = some (.ref fa))
    {od1 od2 od3 od4 od5 od6 od7 od8 od9 od10 od11 od12 od13 od14 od15 od16 od17 od18 od19 od20 od21 od22 od23 od24 od25 od26 od27 od28 od29 od30 od31 od32 od33 od34 od35 od36 od37 od38 od39 od40 od41 od42 an1 an2 an3 an4 an5 an6 an7 an8 an9 an10 an11 an12 an13 an14 an15 an16 an17 an18 an19 an20 an21 an22 an23 an24 an25 an26 an27 an28 an29 an30 an31 an32 an33 an34 an35 an36 an37 an38 an39 an40 an41 an42 : Option Addr} {sl1 sl2 sl3 sl4 sl5 sl6 sl7 sl8 sl9 sl10 sl11 sl12 sl13 sl14 sl15 sl16 sl17 sl18 sl19 sl20 sl21 sl22 sl23 sl24 sl25 sl26 sl27 sl28 sl29 sl30 sl31 sl32 sl33 sl34 sl35 sl36 sl37 sl38 sl39 sl40 sl41 sl42 : Array (Option Value)} {oc1 oc2 oc3 oc4 oc5 oc6 oc7 oc8 oc9 oc10 oc11 oc12 oc13 oc14 oc15 oc16 oc17 oc18 oc19 oc20 oc21 oc22 oc23 oc24 oc25 oc26 oc27 oc28 oc29 oc30 oc31 oc32 oc33 oc34 oc35 oc36 oc37 oc38 oc39 oc40 oc41 oc42 kV1 kV2 kV3 kV4 kV5 kV6 kV7 kV8 kV9 kV10 kV11 kV12 kV13 kV14 kV15 kV16 kV17 kV18 kV19 kV20 kV21 kV22 kV23 kV24 kV25 kV26 kV27 kV28 kV29 kV30 kV31 kV32 kV33 kV34 kV35 kV36 kV37 kV38 kV39 kV40 kV41 kV42 dc1 dc2 dc3 dc4 dc5 dc6 dc7 dc8 dc9 dc10 dc11 dc12 dc13 dc14 dc15 dc16 dc17 dc18 dc19 dc20 dc21 dc22 dc23 dc24 dc25 dc26 dc27 dc28 dc29 dc30 dc31 dc32 dc33 dc34 dc35 dc36 dc37 dc38 dc39 dc40 dc41 dc42 pm1 pm2 pm3 pm4 pm5 pm6 pm7 pm8 pm9 pm10 pm11 pm12 pm13 pm14 pm15 pm16 pm17 pm18 pm19 pm20 pm21 pm22 pm23 pm24 pm25 pm26 pm27 pm28 pm29 pm30 pm31 pm32 pm33 pm34 pm35 pm36 pm37 pm38 pm39 pm40 pm41 pm42 cd1 cd2 cd3 cd4 cd5 cd6 cd7 cd8 cd9 cd10 cd11 cd12 cd13 cd14 cd15 cd16 cd17 cd18 cd19 cd20 cd21 cd22 cd23 cd24 cd25 cd26 cd27 cd28 cd29 cd30 cd31 cd32 cd33 cd34 cd35 cd36 cd37 cd38 cd39 cd40 cd41 cd42 ct1 ct2 ct3 ct4 ct5 ct6 ct7 ct8 ct9 ct10 ct11 ct12 ct13 ct14 ct15 ct16 ct17 ct18 ct19 ct20 ct21 ct22 ct23 ct24 ct25 ct26 ct27 ct28 ct29 ct30 ct31 ct32 ct33 ct34 ct35 ct36 ct37 ct38 ct39 ct40 ct41 ct42 : Value}
    (a1 : PySem.W.nsIn K mainGlobals "is_integer" = some (some (.ref f1))) (l1 : K.lookup f1 = some ⟨oc1, od1, .func (PySem.W.fnOf "is_integer" "is_integer" (defArgs s_is_integer) (defBody s_is_integer) (defScope s_is_integer) .none kV1 dc1 pm1 an1 cd1 ct1), sl1⟩) (c1 : PySem.W.codeIn K cd1 "is_integer" = true) (k1 : PySem.W.keepIn K (.ref f1) = true)
    (a2 : PySem.W.nsIn K mainGlobals "all_sayings" = some (some (.ref f2))) (l2 : K.lookup f2 = some ⟨oc2, od2, .func (PySem.W.fnOf "all_sayings" "all_sayings" (defArgs s_all_sayings) (defBody s_all_sayings) (defScope s_all_sayings) .none kV2 dc2 pm2 an2 cd2 ct2), sl2⟩) (c2 : PySem.W.codeIn K cd2 "all_sayings" = true) (k2 : PySem.W.keepIn K (.ref f2) = true)
    (a3 : PySem.W.nsIn K mainGlobals "parts_of" = some (some (.ref f3))) (l3 : K.lookup f3 = some ⟨oc3, od3, .func (PySem.W.fnOf "parts_of" "parts_of" (defArgs s_parts_of) (defBody s_parts_of) (defScope s_parts_of) .none kV3 dc3 pm3 an3 cd3 ct3), sl3⟩) (c3 : PySem.W.codeIn K cd3 "parts_of" = true) (k3 : PySem.W.keepIn K (.ref f3) = true)
    (a4 : PySem.W.nsIn K mainGlobals "together" = some (some (.ref f4))) (l4 : K.lookup f4 = some ⟨oc4, od4, .func (PySem.W.fnOf "together" "together" (defArgs s_together) (defBody s_together) (defScope s_together) .none kV4 dc4 pm4 an4 cd4 ct4), sl4⟩) (c4 : PySem.W.codeIn K cd4 "together" = true) (k4 : PySem.W.keepIn K (.ref f4) = true)
    (a5 : PySem.W.nsIn K mainGlobals "rest_of" = some (some (.ref f5))) (l5 : K.lookup f5 = some ⟨oc5, od5, .func (PySem.W.fnOf "rest_of" "rest_of" (defArgs s_rest_of) (defBody s_rest_of) (defScope s_rest_of) .none kV5 dc5 pm5 an5 cd5 ct5), sl5⟩) (c5 : PySem.W.codeIn K cd5 "rest_of" = true) (k5 : PySem.W.keepIn K (.ref f5) = true)
    (a6 : PySem.W.nsIn K mainGlobals "turned" = some (some (.ref f6))) (l6 : K.lookup f6 = some ⟨oc6, od6, .func (PySem.W.fnOf "turned" "turned" (defArgs s_turned) (defBody s_turned) (defScope s_turned) .none kV6 dc6 pm6 an6 cd6 ct6), sl6⟩) (c6 : PySem.W.codeIn K cd6 "turned" = true) (k6 : PySem.W.keepIn K (.ref f6) = true)
    (a7 : PySem.W.nsIn K mainGlobals "fraction" = some (some (.ref f7))) (l7 : K.lookup f7 = some ⟨oc7, od7, .func (PySem.W.fnOf "fraction" "fraction" (defArgs s_fraction) (defBody s_fraction) (defScope s_fraction) .none kV7 dc7 pm7 an7 cd7 ct7), sl7⟩) (c7 : PySem.W.codeIn K cd7 "fraction" = true) (k7 : PySem.W.keepIn K (.ref f7) = true)
    (a8 : PySem.W.nsIn K mainGlobals "rows_of" = some (some (.ref f8))) (l8 : K.lookup f8 = some ⟨oc8, od8, .func (PySem.W.fnOf "rows_of" "rows_of" (defArgs s_rows_of) (defBody s_rows_of) (defScope s_rows_of) .none kV8 dc8 pm8 an8 cd8 ct8), sl8⟩) (c8 : PySem.W.codeIn K cd8 "rows_of" = true) (k8 : PySem.W.keepIn K (.ref f8) = true)
    (a9 : PySem.W.nsIn K mainGlobals "fits" = some (some (.ref f9))) (l9 : K.lookup f9 = some ⟨oc9, od9, .func (PySem.W.fnOf "fits" "fits" (defArgs s_fits) (defBody s_fits) (defScope s_fits) .none kV9 dc9 pm9 an9 cd9 ct9), sl9⟩) (c9 : PySem.W.codeIn K cd9 "fits" = true) (k9 : PySem.W.keepIn K (.ref f9) = true)
    (a10 : PySem.W.nsIn K mainGlobals "event_of" = some (some (.ref f10))) (l10 : K.lookup f10 = some ⟨oc10, od10, .func (PySem.W.fnOf "event_of" "event_of" (defArgs s_event_of) (defBody s_event_of) (defScope s_event_of) .none kV10 dc10 pm10 an10 cd10 ct10), sl10⟩) (c10 : PySem.W.codeIn K cd10 "event_of" = true) (k10 : PySem.W.keepIn K (.ref f10) = true)
    (a11 : PySem.W.nsIn K mainGlobals "_law_start" = some (some (.ref f11))) (l11 : K.lookup f11 = some ⟨oc11, od11, .func (PySem.W.fnOf "_law_start" "_law_start" (defArgs s__law_start) (defBody s__law_start) (defScope s__law_start) .none kV11 dc11 pm11 an11 cd11 ct11), sl11⟩) (c11 : PySem.W.codeIn K cd11 "_law_start" = true) (k11 : PySem.W.keepIn K (.ref f11) = true)
    (a12 : PySem.W.nsIn K mainGlobals "_law_fill" = some (some (.ref f12))) (l12 : K.lookup f12 = some ⟨oc12, od12, .func (PySem.W.fnOf "_law_fill" "_law_fill" (defArgs s__law_fill) (defBody s__law_fill) (defScope s__law_fill) .none kV12 dc12 pm12 an12 cd12 ct12), sl12⟩) (c12 : PySem.W.codeIn K cd12 "_law_fill" = true) (k12 : PySem.W.keepIn K (.ref f12) = true)
    (a13 : PySem.W.nsIn K mainGlobals "_law_is_int" = some (some (.ref f13))) (l13 : K.lookup f13 = some ⟨oc13, od13, .func (PySem.W.fnOf "_law_is_int" "_law_is_int" (defArgs s__law_is_int) (defBody s__law_is_int) (defScope s__law_is_int) .none kV13 dc13 pm13 an13 cd13 ct13), sl13⟩) (c13 : PySem.W.codeIn K cd13 "_law_is_int" = true) (k13 : PySem.W.keepIn K (.ref f13) = true)
    (a14 : PySem.W.nsIn K mainGlobals "_law_alike" = some (some (.ref f14))) (l14 : K.lookup f14 = some ⟨oc14, od14, .func (PySem.W.fnOf "_law_alike" "_law_alike" (defArgs s__law_alike) (defBody s__law_alike) (defScope s__law_alike) .none kV14 dc14 pm14 an14 cd14 ct14), sl14⟩) (c14 : PySem.W.codeIn K cd14 "_law_alike" = true) (k14 : PySem.W.keepIn K (.ref f14) = true)
    (a15 : PySem.W.nsIn K mainGlobals "_law_divisor" = some (some (.ref f15))) (l15 : K.lookup f15 = some ⟨oc15, od15, .func (PySem.W.fnOf "_law_divisor" "_law_divisor" (defArgs s__law_divisor) (defBody s__law_divisor) (defScope s__law_divisor) .none kV15 dc15 pm15 an15 cd15 ct15), sl15⟩) (c15 : PySem.W.codeIn K cd15 "_law_divisor" = true) (k15 : PySem.W.keepIn K (.ref f15) = true)
    (a16 : PySem.W.nsIn K mainGlobals "_law_values" = some (some (.ref f16))) (l16 : K.lookup f16 = some ⟨oc16, od16, .func (PySem.W.fnOf "_law_values" "_law_values" (defArgs s__law_values) (defBody s__law_values) (defScope s__law_values) .none kV16 dc16 pm16 an16 cd16 ct16), sl16⟩) (c16 : PySem.W.codeIn K cd16 "_law_values" = true) (k16 : PySem.W.keepIn K (.ref f16) = true)
    (a17 : PySem.W.nsIn K mainGlobals "weak" = some (some (.ref f17))) (l17 : K.lookup f17 = some ⟨oc17, od17, .func (PySem.W.fnOf "weak" "weak" (defArgs s_weak) (defBody s_weak) (defScope s_weak) .none kV17 dc17 pm17 an17 cd17 ct17), sl17⟩) (c17 : PySem.W.codeIn K cd17 "weak" = true) (k17 : PySem.W.keepIn K (.ref f17) = true)
    (a18 : PySem.W.nsIn K mainGlobals "joined" = some (some (.ref f18))) (l18 : K.lookup f18 = some ⟨oc18, od18, .func (PySem.W.fnOf "joined" "joined" (defArgs s_joined) (defBody s_joined) (defScope s_joined) .none kV18 dc18 pm18 an18 cd18 ct18), sl18⟩) (c18 : PySem.W.codeIn K cd18 "joined" = true) (k18 : PySem.W.keepIn K (.ref f18) = true)
    (a19 : PySem.W.nsIn K mainGlobals "crossed" = some (some (.ref f19))) (l19 : K.lookup f19 = some ⟨oc19, od19, .func (PySem.W.fnOf "crossed" "crossed" (defArgs s_crossed) (defBody s_crossed) (defScope s_crossed) .none kV19 dc19 pm19 an19 cd19 ct19), sl19⟩) (c19 : PySem.W.codeIn K cd19 "crossed" = true) (k19 : PySem.W.keepIn K (.ref f19) = true)
    (a20 : PySem.W.nsIn K mainGlobals "plus" = some (some (.ref f20))) (l20 : K.lookup f20 = some ⟨oc20, od20, .func (PySem.W.fnOf "plus" "plus" (defArgs s_plus) (defBody s_plus) (defScope s_plus) .none kV20 dc20 pm20 an20 cd20 ct20), sl20⟩) (c20 : PySem.W.codeIn K cd20 "plus" = true) (k20 : PySem.W.keepIn K (.ref f20) = true)
    (a21 : PySem.W.nsIn K mainGlobals "times" = some (some (.ref f21))) (l21 : K.lookup f21 = some ⟨oc21, od21, .func (PySem.W.fnOf "times" "times" (defArgs s_times) (defBody s_times) (defScope s_times) .none kV21 dc21 pm21 an21 cd21 ct21), sl21⟩) (c21 : PySem.W.codeIn K cd21 "times" = true) (k21 : PySem.W.keepIn K (.ref f21) = true)
    (a22 : PySem.W.nsIn K mainGlobals "_law_take" = some (some (.ref f22))) (l22 : K.lookup f22 = some ⟨oc22, od22, .func (PySem.W.fnOf "_law_take" "_law_take" (defArgs s__law_take) (defBody s__law_take) (defScope s__law_take) .none kV22 dc22 pm22 an22 cd22 ct22), sl22⟩) (c22 : PySem.W.codeIn K cd22 "_law_take" = true) (k22 : PySem.W.keepIn K (.ref f22) = true)
    (a23 : PySem.W.nsIn K mainGlobals "_law_fraction" = some (some (.ref f23))) (l23 : K.lookup f23 = some ⟨oc23, od23, .func (PySem.W.fnOf "_law_fraction" "_law_fraction" (defArgs s__law_fraction) (defBody s__law_fraction) (defScope s__law_fraction) .none kV23 dc23 pm23 an23 cd23 ct23), sl23⟩) (c23 : PySem.W.codeIn K cd23 "_law_fraction" = true) (k23 : PySem.W.keepIn K (.ref f23) = true)
    (a24 : PySem.W.nsIn K mainGlobals "_law_is_paper" = some (some (.ref f24))) (l24 : K.lookup f24 = some ⟨oc24, od24, .func (PySem.W.fnOf "_law_is_paper" "_law_is_paper" (defArgs s__law_is_paper) (defBody s__law_is_paper) (defScope s__law_is_paper) .none kV24 dc24 pm24 an24 cd24 ct24), sl24⟩) (c24 : PySem.W.codeIn K cd24 "_law_is_paper" = true) (k24 : PySem.W.keepIn K (.ref f24) = true)
    (a25 : PySem.W.nsIn K mainGlobals "total" = some (some (.ref f25))) (l25 : K.lookup f25 = some ⟨oc25, od25, .func (PySem.W.fnOf "total" "total" (defArgs s_total) (defBody s_total) (defScope s_total) .none kV25 dc25 pm25 an25 cd25 ct25), sl25⟩) (c25 : PySem.W.codeIn K cd25 "total" = true) (k25 : PySem.W.keepIn K (.ref f25) = true)
    (a26 : PySem.W.nsIn K mainGlobals "_law_plus" = some (some (.ref f26))) (l26 : K.lookup f26 = some ⟨oc26, od26, .func (PySem.W.fnOf "_law_plus" "_law_plus" (defArgs s__law_plus) (defBody s__law_plus) (defScope s__law_plus) .none kV26 dc26 pm26 an26 cd26 ct26), sl26⟩) (c26 : PySem.W.codeIn K cd26 "_law_plus" = true) (k26 : PySem.W.keepIn K (.ref f26) = true)
    (a27 : PySem.W.nsIn K mainGlobals "_law_times" = some (some (.ref f27))) (l27 : K.lookup f27 = some ⟨oc27, od27, .func (PySem.W.fnOf "_law_times" "_law_times" (defArgs s__law_times) (defBody s__law_times) (defScope s__law_times) .none kV27 dc27 pm27 an27 cd27 ct27), sl27⟩) (c27 : PySem.W.codeIn K cd27 "_law_times" = true) (k27 : PySem.W.keepIn K (.ref f27) = true)
    (a28 : PySem.W.nsIn K mainGlobals "_law_world" = some (some (.ref f28))) (l28 : K.lookup f28 = some ⟨oc28, od28, .func (PySem.W.fnOf "_law_world" "_law_world" (defArgs s__law_world) (defBody s__law_world) (defScope s__law_world) .none kV28 dc28 pm28 an28 cd28 ct28), sl28⟩) (c28 : PySem.W.codeIn K cd28 "_law_world" = true) (k28 : PySem.W.keepIn K (.ref f28) = true)
    (a29 : PySem.W.nsIn K mainGlobals "chance" = some (some (.ref f29))) (l29 : K.lookup f29 = some ⟨oc29, od29, .func (PySem.W.fnOf "chance" "chance" (defArgs s_chance) (defBody s_chance) (defScope s_chance) .none kV29 dc29 pm29 an29 cd29 ct29), sl29⟩) (c29 : PySem.W.codeIn K cd29 "chance" = true) (k29 : PySem.W.keepIn K (.ref f29) = true)
    (a30 : PySem.W.nsIn K mainGlobals "_law_total" = some (some (.ref f30))) (l30 : K.lookup f30 = some ⟨oc30, od30, .func (PySem.W.fnOf "_law_total" "_law_total" (defArgs s__law_total) (defBody s__law_total) (defScope s__law_total) .none kV30 dc30 pm30 an30 cd30 ct30), sl30⟩) (c30 : PySem.W.codeIn K cd30 "_law_total" = true) (k30 : PySem.W.keepIn K (.ref f30) = true)
    (a31 : PySem.W.nsIn K mainGlobals "_law_times_worlds" = some (some (.ref f31))) (l31 : K.lookup f31 = some ⟨oc31, od31, .func (PySem.W.fnOf "_law_times_worlds" "_law_times_worlds" (defArgs s__law_times_worlds) (defBody s__law_times_worlds) (defScope s__law_times_worlds) .none kV31 dc31 pm31 an31 cd31 ct31), sl31⟩) (c31 : PySem.W.codeIn K cd31 "_law_times_worlds" = true) (k31 : PySem.W.keepIn K (.ref f31) = true)
    (a32 : PySem.W.nsIn K mainGlobals "closed" = some (some (.ref f32))) (l32 : K.lookup f32 = some ⟨oc32, od32, .func (PySem.W.fnOf "closed" "closed" (defArgs s_closed) (defBody s_closed) (defScope s_closed) .none kV32 dc32 pm32 an32 cd32 ct32), sl32⟩) (c32 : PySem.W.codeIn K cd32 "closed" = true) (k32 : PySem.W.keepIn K (.ref f32) = true)
    (a33 : PySem.W.nsIn K mainGlobals "is_broken" = some (some (.ref f33))) (l33 : K.lookup f33 = some ⟨oc33, od33, .func (PySem.W.fnOf "is_broken" "is_broken" (defArgs s_is_broken) (defBody s_is_broken) (defScope s_is_broken) .none kV33 dc33 pm33 an33 cd33 ct33), sl33⟩) (c33 : PySem.W.codeIn K cd33 "is_broken" = true) (k33 : PySem.W.keepIn K (.ref f33) = true)
    (a34 : PySem.W.nsIn K mainGlobals "_law_chance" = some (some (.ref f34))) (l34 : K.lookup f34 = some ⟨oc34, od34, .func (PySem.W.fnOf "_law_chance" "_law_chance" (defArgs s__law_chance) (defBody s__law_chance) (defScope s__law_chance) .none kV34 dc34 pm34 an34 cd34 ct34), sl34⟩) (c34 : PySem.W.codeIn K cd34 "_law_chance" = true) (k34 : PySem.W.keepIn K (.ref f34) = true)
    (a35 : PySem.W.nsIn K mainGlobals "holding_paper" = some (some (.ref f35))) (l35 : K.lookup f35 = some ⟨oc35, od35, .func (PySem.W.fnOf "holding_paper" "holding_paper" (defArgs s_holding_paper) (defBody s_holding_paper) (defScope s_holding_paper) .none kV35 dc35 pm35 an35 cd35 ct35), sl35⟩) (c35 : PySem.W.codeIn K cd35 "holding_paper" = true) (k35 : PySem.W.keepIn K (.ref f35) = true)
    (a36 : PySem.W.nsIn K mainGlobals "_law_at" = some (some (.ref f36))) (l36 : K.lookup f36 = some ⟨oc36, od36, .func (PySem.W.fnOf "_law_at" "_law_at" (defArgs s__law_at) (defBody s__law_at) (defScope s__law_at) .none kV36 dc36 pm36 an36 cd36 ct36), sl36⟩) (c36 : PySem.W.codeIn K cd36 "_law_at" = true) (k36 : PySem.W.keepIn K (.ref f36) = true)
    (a37 : PySem.W.nsIn K mainGlobals "judge_holding" = some (some (.ref f37))) (l37 : K.lookup f37 = some ⟨oc37, od37, .func (PySem.W.fnOf "judge_holding" "judge_holding" (defArgs s_judge_holding) (defBody s_judge_holding) (defScope s_judge_holding) .none kV37 dc37 pm37 an37 cd37 ct37), sl37⟩) (c37 : PySem.W.codeIn K cd37 "judge_holding" = true) (k37 : PySem.W.keepIn K (.ref f37) = true)
    (a38 : PySem.W.nsIn K mainGlobals "sayings_of" = some (some (.ref f38))) (l38 : K.lookup f38 = some ⟨oc38, od38, .func (PySem.W.fnOf "sayings_of" "sayings_of" (defArgs s_sayings_of) (defBody s_sayings_of) (defScope s_sayings_of) .none kV38 dc38 pm38 an38 cd38 ct38), sl38⟩) (c38 : PySem.W.codeIn K cd38 "sayings_of" = true) (k38 : PySem.W.keepIn K (.ref f38) = true)
    (a39 : PySem.W.nsIn K mainGlobals "_law_fails_at" = some (some (.ref f39))) (l39 : K.lookup f39 = some ⟨oc39, od39, .func (PySem.W.fnOf "_law_fails_at" "_law_fails_at" (defArgs s__law_fails_at) (defBody s__law_fails_at) (defScope s__law_fails_at) .none kV39 dc39 pm39 an39 cd39 ct39), sl39⟩) (c39 : PySem.W.codeIn K cd39 "_law_fails_at" = true) (k39 : PySem.W.keepIn K (.ref f39) = true)
    (a40 : PySem.W.nsIn K mainGlobals "_law_spoilt" = some (some (.ref f40))) (l40 : K.lookup f40 = some ⟨oc40, od40, .func (PySem.W.fnOf "_law_spoilt" "_law_spoilt" (defArgs s__law_spoilt) (defBody s__law_spoilt) (defScope s__law_spoilt) .none kV40 dc40 pm40 an40 cd40 ct40), sl40⟩) (c40 : PySem.W.codeIn K cd40 "_law_spoilt" = true) (k40 : PySem.W.keepIn K (.ref f40) = true)
    (a41 : PySem.W.nsIn K mainGlobals "_law_bent" = some (some (.ref f41))) (l41 : K.lookup f41 = some ⟨oc41, od41, .func (PySem.W.fnOf "_law_bent" "_law_bent" (defArgs s__law_bent) (defBody s__law_bent) (defScope s__law_bent) .none kV41 dc41 pm41 an41 cd41 ct41), sl41⟩) (c41 : PySem.W.codeIn K cd41 "_law_bent" = true) (k41 : PySem.W.keepIn K (.ref f41) = true)
    (a42 : PySem.W.nsIn K mainGlobals "law" = some (some (.ref f42))) (l42 : K.lookup f42 = some ⟨oc42, od42, .func (PySem.W.fnOf "law" "law" (defArgs s_law) (defBody s_law) (defScope s_law) .none kV42 dc42 pm42 an42 cd42 ct42), sl42⟩) (c42 : PySem.W.codeIn K cd42 "law" = true) (k42 : PySem.W.keepIn K (.ref f42) = true)
    {fC f_init f_add f_pair f_close : Addr} {od_init od_add od_pair od_close an_init an_add an_pair an_close : Option Addr} {sl_init sl_add sl_pair sl_close : Array (Option Value)} {oc_init oc_add oc_pair oc_close kV_init kV_add kV_pair kV_close dc_init dc_add dc_pair dc_close pm_init pm_add pm_pair pm_close cd_init cd_add cd_pair cd_close ct_init ct_add ct_pair ct_close : Value}
    (aC : PySem.W.nsIn K mainGlobals "Closing" = some (some (.ref fC)))
    (a_init : PySem.W.findIn K (.ref fC) "__init__" = some (some (.ref f_init))) (i_init : PySem.W.isFn K (.ref f_init) = true) (l_init : K.lookup f_init = some ⟨oc_init, od_init, .func (PySem.W.fnOf "__init__" "Closing.__init__" (defArgs s_C_init) (defBody s_C_init) (defScope s_C_init) .none kV_init dc_init pm_init an_init cd_init ct_init), sl_init⟩) (c_init : PySem.W.codeIn K cd_init "Closing.__init__" = true) (k_init : PySem.W.keepIn K (.ref f_init) = true)
    (a_add : PySem.W.findIn K (.ref fC) "add" = some (some (.ref f_add))) (i_add : PySem.W.isFn K (.ref f_add) = true) (l_add : K.lookup f_add = some ⟨oc_add, od_add, .func (PySem.W.fnOf "add" "Closing.add" (defArgs s_C_add) (defBody s_C_add) (defScope s_C_add) .none kV_add dc_add pm_add an_add cd_add ct_add), sl_add⟩) (c_add : PySem.W.codeIn K cd_add "Closing.add" = true) (k_add : PySem.W.keepIn K (.ref f_add) = true)
    (a_pair : PySem.W.findIn K (.ref fC) "pair" = some (some (.ref f_pair))) (i_pair : PySem.W.isFn K (.ref f_pair) = true) (l_pair : K.lookup f_pair = some ⟨oc_pair, od_pair, .func (PySem.W.fnOf "pair" "Closing.pair" (defArgs s_C_pair) (defBody s_C_pair) (defScope s_C_pair) .none kV_pair dc_pair pm_pair an_pair cd_pair ct_pair), sl_pair⟩) (c_pair : PySem.W.codeIn K cd_pair "Closing.pair" = true) (k_pair : PySem.W.keepIn K (.ref f_pair) = true)
    (a_close : PySem.W.findIn K (.ref fC) "close" = some (some (.ref f_close))) (i_close : PySem.W.isFn K (.ref f_close) = true) (l_close : K.lookup f_close = some ⟨oc_close, od_close, .func (PySem.W.fnOf "close" "Closing.close" (defArgs s_C_close) (defBody s_C_close) (defScope s_C_close) .none kV_close dc_close pm_close an_close cd_close ct_close), sl_close⟩) (c_close : PySem.W.codeIn K cd_close "Closing.close" = true) (k_close : PySem.W.keepIn K (.ref f_close) = true)
    (pgC : PySem.W.plainGet K fC Str.empty = true) (hdC : PySem.W.hasDictIn K fC = true) (poC : PySem.W.plainOver K fC = true) (saC : PySem.W.findIn K (.ref fC) "__setattr__" = some (some (.builtin "object.__setattr__"))) (mkC : PySem.W.makesIn K fC = true) (kcC : PySem.W.keepIn K (.ref fC) = true)
    (nW : PySem.W.findIn K (.ref fC) "way" = some none) (nS : PySem.W.findIn K (.ref fC) "steps" = some none) (nO : PySem.W.findIn K (.ref fC) "order" = some none)
    (z_abs : PySem.W.nsIn K mainGlobals "abs" = some none)
    (z_all : PySem.W.nsIn K mainGlobals "all" = some none)
    (z_any : PySem.W.nsIn K mainGlobals "any" = some none)
    (z_bool : PySem.W.nsIn K mainGlobals "bool" = some none)
    (z_enumerate : PySem.W.nsIn K mainGlobals "enumerate" = some none)
    (z_int : PySem.W.nsIn K mainGlobals "int" = some none)
    (z_isinstance : PySem.W.nsIn K mainGlobals "isinstance" = some none)
    (z_len : PySem.W.nsIn K mainGlobals "len" = some none)
    (z_list : PySem.W.nsIn K mainGlobals "list" = some none)
    (z_range : PySem.W.nsIn K mainGlobals "range" = some none)
    (z_repr : PySem.W.nsIn K mainGlobals "repr" = some none)
    (z_sorted : PySem.W.nsIn K mainGlobals "sorted" = some none)
    (z_str : PySem.W.nsIn K mainGlobals "str" = some none)
    (z_sum : PySem.W.nsIn K mainGlobals "sum" = some none)
    (z_tuple : PySem.W.nsIn K mainGlobals "tuple" = some none)
    (z_zip : PySem.W.nsIn K mainGlobals "zip" = some none)
    (g_gcd : PySem.W.nsIn K mainGlobals "gcd" = some (some (.builtin "math.gcd")))
    : ∃ fd : FuncData, (∀ (s : Shared) (v : Value), BindsTo s fd ⟨[v], []⟩ [("script", v)]) ∧ ∀ base : Heap, K.In base → base.Ns mainGlobals mg → FnG l.prog w K mg base 11 fa fd ["script"] (DL.spLaw K) := by
  have e := hfa.symm.trans (PySem.W.mg_of X G a42)
  cases e
  have D1 := defAt_mk (st := s_is_integer) (ps := ["value"]) X G a1 l1 c1 k1 fun _ _ _ _ _ _ us hl => match us, hl with | [_], _ => rfl
  have D2 := defAt_mk (st := s_all_sayings) (ps := ["n"]) X G a2 l2 c2 k2 fun _ _ _ _ _ _ us hl => match us, hl with | [_], _ => rfl
  have D3 := defAt_mk (st := s_parts_of) (ps := ["things"]) X G a3 l3 c3 k3 fun _ _ _ _ _ _ us hl => match us, hl with | [_], _ => rfl
  have D4 := defAt_mk (st := s_together) (ps := ["one", "two"]) X G a4 l4 c4 k4 fun _ _ _ _ _ _ us hl => match us, hl with | [_, _], _ => rfl
  have D5 := defAt_mk (st := s_rest_of) (ps := ["things", "part"]) X G a5 l5 c5 k5 fun _ _ _ _ _ _ us hl => match us, hl with | [_, _], _ => rfl
  have D6 := defAt_mk (st := s_turned) (ps := ["saying"]) X G a6 l6 c6 k6 fun _ _ _ _ _ _ us hl => match us, hl with | [_], _ => rfl
  have D7 := defAt_mk (st := s_fraction) (ps := ["above", "below"]) X G a7 l7 c7 k7 fun _ _ _ _ _ _ us hl => match us, hl with | [_, _], _ => rfl
  have D8 := defAt_mk (st := s_rows_of) (ps := ["sizes"]) X G a8 l8 c8 k8 fun _ _ _ _ _ _ us hl => match us, hl with | [_], _ => rfl
  have D9 := defAt_mk (st := s_fits) (ps := ["row", "event"]) X G a9 l9 c9 k9 fun _ _ _ _ _ _ us hl => match us, hl with | [_, _], _ => rfl
  have D10 := defAt_mk (st := s_event_of) (ps := ["row", "things"]) X G a10 l10 c10 k10 fun _ _ _ _ _ _ us hl => match us, hl with | [_, _], _ => rfl
  have D11 := defAt_mk (st := s__law_start) (ps := ["script"]) X G a11 l11 c11 k11 fun _ _ _ _ _ _ us hl => match us, hl with | [_], _ => rfl
  have D12 := defAt_mk (st := s__law_fill) (ps := ["c"]) X G a12 l12 c12 k12 fun _ _ _ _ _ _ us hl => match us, hl with | [_], _ => rfl
  have D13 := defAt_mk (st := s__law_is_int) (ps := ["value"]) X G a13 l13 c13 k13 fun _ _ _ _ _ _ us hl => match us, hl with | [_], _ => rfl
  have D14 := defAt_mk (st := s__law_alike) (ps := ["value", "due"]) X G a14 l14 c14 k14 fun _ _ _ _ _ _ us hl => match us, hl with | [_, _], _ => rfl
  have D15 := defAt_mk (st := s__law_divisor) (ps := ["a", "b"]) X G a15 l15 c15 k15 fun _ _ _ _ _ _ us hl => match us, hl with | [_, _], _ => rfl
  have D16 := defAt_mk (st := s__law_values) (ps := ["sizes"]) X G a16 l16 c16 k16 fun _ _ _ _ _ _ us hl => match us, hl with | [_], _ => rfl
  have D17 := defAt_mk (st := s_weak) (ps := ["saying", "part"]) X G a17 l17 c17 k17 fun _ _ _ _ _ _ us hl => match us, hl with | [_, _], _ => rfl
  have D18 := defAt_mk (st := s_joined) (ps := ["one", "two"]) X G a18 l18 c18 k18 fun _ _ _ _ _ _ us hl => match us, hl with | [_, _], _ => rfl
  have D19 := defAt_mk (st := s_crossed) (ps := ["one", "two"]) X G a19 l19 c19 k19 fun _ _ _ _ _ _ us hl => match us, hl with | [_, _], _ => rfl
  have D20 := defAt_mk (st := s_plus) (ps := ["a", "b"]) X G a20 l20 c20 k20 fun _ _ _ _ _ _ us hl => match us, hl with | [_, _], _ => rfl
  have D21 := defAt_mk (st := s_times) (ps := ["a", "b"]) X G a21 l21 c21 k21 fun _ _ _ _ _ _ us hl => match us, hl with | [_, _], _ => rfl
  have D22 := defAt_mk (st := s__law_take) (ps := ["c", "many"]) X G a22 l22 c22 k22 fun _ _ _ _ _ _ us hl => match us, hl with | [_, _], _ => rfl
  have D23 := defAt_mk (st := s__law_fraction) (ps := ["n", "d"]) X G a23 l23 c23 k23 fun _ _ _ _ _ _ us hl => match us, hl with | [_, _], _ => rfl
  have D24 := defAt_mk (st := s__law_is_paper) (ps := ["world", "saying", "fails", "value"]) X G a24 l24 c24 k24 fun _ _ _ _ _ _ us hl => match us, hl with | [_, _, _, _], _ => rfl
  have D25 := defAt_mk (st := s_total) (ps := ["fractions"]) X G a25 l25 c25 k25 fun _ _ _ _ _ _ us hl => match us, hl with | [_], _ => rfl
  have D26 := defAt_mk (st := s__law_plus) (ps := ["a", "b"]) X G a26 l26 c26 k26 fun _ _ _ _ _ _ us hl => match us, hl with | [_, _], _ => rfl
  have D27 := defAt_mk (st := s__law_times) (ps := ["a", "b"]) X G a27 l27 c27 k27 fun _ _ _ _ _ _ us hl => match us, hl with | [_, _], _ => rfl
  have D28 := defAt_mk (st := s__law_world) (ps := ["c", "sizes"]) X G a28 l28 c28 k28 fun _ _ _ _ _ _ us hl => match us, hl with | [_, _], _ => rfl
  have D29 := defAt_mk (st := s_chance) (ps := ["world", "event"]) X G a29 l29 c29 k29 fun _ _ _ _ _ _ us hl => match us, hl with | [_, _], _ => rfl
  have D30 := defAt_mk (st := s__law_total) (ps := ["row"]) X G a30 l30 c30 k30 fun _ _ _ _ _ _ us hl => match us, hl with | [_], _ => rfl
  have D31 := defAt_mk (st := s__law_times_worlds) (ps := ["c", "sizes"]) X G a31 l31 c31 k31 fun _ _ _ _ _ _ us hl => match us, hl with | [_, _], _ => rfl
  have D32 := defAt_mk (st := s_closed) (ps := ["n", "given", "way"]) X G a32 l32 c32 k32 fun _ _ _ _ _ _ us hl => match us, hl with | [_, _, _], _ => rfl
  have D33 := defAt_mk (st := s_is_broken) (ps := ["world", "saying", "row"]) X G a33 l33 c33 k33 fun _ _ _ _ _ _ us hl => match us, hl with | [_, _, _], _ => rfl
  have D34 := defAt_mk (st := s__law_chance) (ps := ["world", "event"]) X G a34 l34 c34 k34 fun _ _ _ _ _ _ us hl => match us, hl with | [_, _], _ => rfl
  have D35 := defAt_mk (st := s_holding_paper) (ps := ["world", "saying"]) X G a35 l35 c35 k35 fun _ _ _ _ _ _ us hl => match us, hl with | [_, _], _ => rfl
  have D36 := defAt_mk (st := s__law_at) (ps := ["world", "variables", "row"]) X G a36 l36 c36 k36 fun _ _ _ _ _ _ us hl => match us, hl with | [_, _, _], _ => rfl
  have D37 := defAt_mk (st := s_judge_holding) (ps := ["world", "saying", "value"]) X G a37 l37 c37 k37 fun _ _ _ _ _ _ us hl => match us, hl with | [_, _, _], _ => rfl
  have D38 := defAt_mk (st := s_sayings_of) (ps := ["world"]) X G a38 l38 c38 k38 fun _ _ _ _ _ _ us hl => match us, hl with | [_], _ => rfl
  have D39 := defAt_mk (st := s__law_fails_at) (ps := ["world", "saying", "row"]) X G a39 l39 c39 k39 fun _ _ _ _ _ _ us hl => match us, hl with | [_, _, _], _ => rfl
  have D40 := defAt_mk (st := s__law_spoilt) (ps := ["c", "value"]) X G a40 l40 c40 k40 fun _ _ _ _ _ _ us hl => match us, hl with | [_, _], _ => rfl
  have D41 := defAt_mk (st := s__law_bent) (ps := ["c", "value", "turn"]) X G a41 l41 c41 k41 fun _ _ _ _ _ _ us hl => match us, hl with | [_, _, _], _ => rfl
  have D42 := defAt_mk (st := s_law) (ps := ["script"]) X G a42 l42 c42 k42 fun _ _ _ _ _ _ us hl => match us, hl with | [_], _ => rfl
  have F_init := fun_mk (st := s_C_init) l_init c_init k_init
  have b_init := F_init.binds (ps := ["self", "given", "way"]) fun _ _ _ _ _ _ us hl => match us, hl with | [_, _, _], _ => rfl
  have F_add := fun_mk (st := s_C_add) l_add c_add k_add
  have b_add := F_add.binds (ps := ["self", "saying", "step"]) fun _ _ _ _ _ _ us hl => match us, hl with | [_, _, _], _ => rfl
  have F_pair := fun_mk (st := s_C_pair) l_pair c_pair k_pair
  have b_pair := F_pair.binds (ps := ["self", "one", "two"]) fun _ _ _ _ _ _ us hl => match us, hl with | [_, _, _], _ => rfl
  have F_close := fun_mk (st := s_C_close) l_close c_close k_close
  have b_close := F_close.binds (ps := ["self"]) fun _ _ _ _ _ _ us hl => match us, hl with | [_], _ => rfl
  let T : Top K w l.prog mg := {
    D_is_integer := ⟨_, _, D1.2.1, D1.1, k1, D1.2.2⟩,
    D_all_sayings := ⟨_, _, D2.2.1, D2.1, k2, D2.2.2⟩,
    D_parts_of := ⟨_, _, D3.2.1, D3.1, k3, D3.2.2⟩,
    D_together := ⟨_, _, D4.2.1, D4.1, k4, D4.2.2⟩,
    D_rest_of := ⟨_, _, D5.2.1, D5.1, k5, D5.2.2⟩,
    D_turned := ⟨_, _, D6.2.1, D6.1, k6, D6.2.2⟩,
    D_fraction := ⟨_, _, D7.2.1, D7.1, k7, D7.2.2⟩,
    D_rows_of := ⟨_, _, D8.2.1, D8.1, k8, D8.2.2⟩,
    D_fits := ⟨_, _, D9.2.1, D9.1, k9, D9.2.2⟩,
    D_event_of := ⟨_, _, D10.2.1, D10.1, k10, D10.2.2⟩,
    D__law_start := ⟨_, _, D11.2.1, D11.1, k11, D11.2.2⟩,
    D__law_fill := ⟨_, _, D12.2.1, D12.1, k12, D12.2.2⟩,
    D__law_is_int := ⟨_, _, D13.2.1, D13.1, k13, D13.2.2⟩,
    D__law_alike := ⟨_, _, D14.2.1, D14.1, k14, D14.2.2⟩,
    D__law_divisor := ⟨_, _, D15.2.1, D15.1, k15, D15.2.2⟩,
    D__law_values := ⟨_, _, D16.2.1, D16.1, k16, D16.2.2⟩,
    D_weak := ⟨_, _, D17.2.1, D17.1, k17, D17.2.2⟩,
    D_joined := ⟨_, _, D18.2.1, D18.1, k18, D18.2.2⟩,
    D_crossed := ⟨_, _, D19.2.1, D19.1, k19, D19.2.2⟩,
    D_plus := ⟨_, _, D20.2.1, D20.1, k20, D20.2.2⟩,
    D_times := ⟨_, _, D21.2.1, D21.1, k21, D21.2.2⟩,
    D__law_take := ⟨_, _, D22.2.1, D22.1, k22, D22.2.2⟩,
    D__law_fraction := ⟨_, _, D23.2.1, D23.1, k23, D23.2.2⟩,
    D__law_is_paper := ⟨_, _, D24.2.1, D24.1, k24, D24.2.2⟩,
    D_total := ⟨_, _, D25.2.1, D25.1, k25, D25.2.2⟩,
    D__law_plus := ⟨_, _, D26.2.1, D26.1, k26, D26.2.2⟩,
    D__law_times := ⟨_, _, D27.2.1, D27.1, k27, D27.2.2⟩,
    D__law_world := ⟨_, _, D28.2.1, D28.1, k28, D28.2.2⟩,
    D_chance := ⟨_, _, D29.2.1, D29.1, k29, D29.2.2⟩,
    D__law_total := ⟨_, _, D30.2.1, D30.1, k30, D30.2.2⟩,
    D__law_times_worlds := ⟨_, _, D31.2.1, D31.1, k31, D31.2.2⟩,
    D_closed := ⟨_, _, D32.2.1, D32.1, k32, D32.2.2⟩,
    D_is_broken := ⟨_, _, D33.2.1, D33.1, k33, D33.2.2⟩,
    D__law_chance := ⟨_, _, D34.2.1, D34.1, k34, D34.2.2⟩,
    D_holding_paper := ⟨_, _, D35.2.1, D35.1, k35, D35.2.2⟩,
    D__law_at := ⟨_, _, D36.2.1, D36.1, k36, D36.2.2⟩,
    D_judge_holding := ⟨_, _, D37.2.1, D37.1, k37, D37.2.2⟩,
    D_sayings_of := ⟨_, _, D38.2.1, D38.1, k38, D38.2.2⟩,
    D__law_fails_at := ⟨_, _, D39.2.1, D39.1, k39, D39.2.2⟩,
    D__law_spoilt := ⟨_, _, D40.2.1, D40.1, k40, D40.2.2⟩,
    D__law_bent := ⟨_, _, D41.2.1, D41.1, k41, D41.2.2⟩,
    D_law := ⟨_, _, D42.2.1, D42.1, k42, D42.2.2⟩,
    cl := { C := fC, cl := ⟨pgC, hdC, poC, saC⟩, mC := PySem.W.mg_of X G aC, nW := nW, nS := nS, nO := nO, init := ⟨f_init, _, F_init, ⟨a_init, i_init, k_init⟩, b_init⟩, add := ⟨f_add, _, F_add, ⟨a_add, i_add, k_add⟩, b_add⟩, pair := ⟨f_pair, _, F_pair, ⟨a_pair, i_pair, k_pair⟩, b_pair⟩, close := ⟨f_close, _, F_close, ⟨a_close, i_close, k_close⟩, b_close⟩, M := ⟨mkC, a_init, i_init, kcC⟩ },
    z_abs := PySem.W.mg_none_of X G z_abs,
    z_all := PySem.W.mg_none_of X G z_all,
    z_any := PySem.W.mg_none_of X G z_any,
    z_bool := PySem.W.mg_none_of X G z_bool,
    z_enumerate := PySem.W.mg_none_of X G z_enumerate,
    z_int := PySem.W.mg_none_of X G z_int,
    z_isinstance := PySem.W.mg_none_of X G z_isinstance,
    z_len := PySem.W.mg_none_of X G z_len,
    z_list := PySem.W.mg_none_of X G z_list,
    z_range := PySem.W.mg_none_of X G z_range,
    z_repr := PySem.W.mg_none_of X G z_repr,
    z_sorted := PySem.W.mg_none_of X G z_sorted,
    z_str := PySem.W.mg_none_of X G z_str,
    z_sum := PySem.W.mg_none_of X G z_sum,
    z_tuple := PySem.W.mg_none_of X G z_tuple,
    z_zip := PySem.W.mg_none_of X G z_zip,
    g_gcd := PySem.W.mg_of X G g_gcd }
  exact ⟨_, fun s v => .of_eq rfl, fun base _ _ => ok_law T math⟩
end W13
open PySem PySem.W PyProof.Rows
set_option maxRecDepth 100000 in
set_option maxHeartbeats 0 in
theorem PySem.Challenge.cw_causeworth_k13_sayings_that_hold_holds : PySem.Challenge.rw_causeworth_k13_sayings_that_hold.Holds := by
  w_on; o_law; k_head; (case hw => w_witness2)
  k_fill
  refine DL.walkG (l := PySem.Challenge.rw_causeworth_k13_sayings_that_hold) (k := 11) ⟨rfl, by decide, by decide⟩ rfl rfl (fun w h Y => PySem.W.kIn_of Y) ?F
  case F =>
    intro w mg fa h KX G hmg
    refine' W13.all_mk KX G hmg ?a1 ?l1 ?c1 ?k1 ?a2 ?l2 ?c2 ?k2 ?a3 ?l3 ?c3 ?k3 ?a4 ?l4 ?c4 ?k4 ?a5 ?l5 ?c5 ?k5 ?a6 ?l6 ?c6 ?k6 ?a7 ?l7 ?c7 ?k7 ?a8 ?l8 ?c8 ?k8 ?a9 ?l9 ?c9 ?k9 ?a10 ?l10 ?c10 ?k10 ?a11 ?l11 ?c11 ?k11 ?a12 ?l12 ?c12 ?k12 ?a13 ?l13 ?c13 ?k13 ?a14 ?l14 ?c14 ?k14 ?a15 ?l15 ?c15 ?k15 ?a16 ?l16 ?c16 ?k16 ?a17 ?l17 ?c17 ?k17 ?a18 ?l18 ?c18 ?k18 ?a19 ?l19 ?c19 ?k19 ?a20 ?l20 ?c20 ?k20 ?a21 ?l21 ?c21 ?k21 ?a22 ?l22 ?c22 ?k22 ?a23 ?l23 ?c23 ?k23 ?a24 ?l24 ?c24 ?k24 ?a25 ?l25 ?c25 ?k25 ?a26 ?l26 ?c26 ?k26 ?a27 ?l27 ?c27 ?k27 ?a28 ?l28 ?c28 ?k28 ?a29 ?l29 ?c29 ?k29 ?a30 ?l30 ?c30 ?k30 ?a31 ?l31 ?c31 ?k31 ?a32 ?l32 ?c32 ?k32 ?a33 ?l33 ?c33 ?k33 ?a34 ?l34 ?c34 ?k34 ?a35 ?l35 ?c35 ?k35 ?a36 ?l36 ?c36 ?k36 ?a37 ?l37 ?c37 ?k37 ?a38 ?l38 ?c38 ?k38 ?a39 ?l39 ?c39 ?k39 ?a40 ?l40 ?c40 ?k40 ?a41 ?l41 ?c41 ?k41 ?a42 ?l42 ?c42 ?k42 ?aC ?a_init ?i_init ?l_init ?c_init ?k_init ?a_add ?i_add ?l_add ?c_add ?k_add ?a_pair ?i_pair ?l_pair ?c_pair ?k_pair ?a_close ?i_close ?l_close ?c_close ?k_close ?pgC ?hdC ?poC ?saC ?mkC ?kcC ?nW ?nS ?nO ?z_abs ?z_all ?z_any ?z_bool ?z_enumerate ?z_int ?z_isinstance ?z_len ?z_list ?z_range ?z_repr ?z_sorted ?z_str ?z_sum ?z_tuple ?z_zip ?g_gcd
    (case a1 => k_is)
    (case l1 => k_is)
    (case c1 => k_is)
    (case k1 => k_is)
    (case a2 => k_is)
    (case l2 => k_is)
    (case c2 => k_is)
    (case k2 => k_is)
    (case a3 => k_is)
    (case l3 => k_is)
    (case c3 => k_is)
    (case k3 => k_is)
    (case a4 => k_is)
    (case l4 => k_is)
    (case c4 => k_is)
    (case k4 => k_is)
    (case a5 => k_is)
    (case l5 => k_is)
    (case c5 => k_is)
    (case k5 => k_is)
    (case a6 => k_is)
    (case l6 => k_is)
    (case c6 => k_is)
    (case k6 => k_is)
    (case a7 => k_is)
    (case l7 => k_is)
    (case c7 => k_is)
    (case k7 => k_is)
    (case a8 => k_is)
    (case l8 => k_is)
    (case c8 => k_is)
    (case k8 => k_is)
    (case a9 => k_is)
    (case l9 => k_is)
    (case c9 => k_is)
    (case k9 => k_is)
    (case a10 => k_is)
    (case l10 => k_is)
    (case c10 => k_is)
    (case k10 => k_is)
    (case a11 => k_is)
    (case l11 => k_is)
    (case c11 => k_is)
    (case k11 => k_is)
    (case a12 => k_is)
    (case l12 => k_is)
    (case c12 => k_is)
    (case k12 => k_is)
    (case a13 => k_is)
    (case l13 => k_is)
    (case c13 => k_is)
    (case k13 => k_is)
    (case a14 => k_is)
    (case l14 => k_is)
    (case c14 => k_is)
    (case k14 => k_is)
    (case a15 => k_is)
    (case l15 => k_is)
    (case c15 => k_is)
    (case k15 => k_is)
    (case a16 => k_is)
    (case l16 => k_is)
    (case c16 => k_is)
    (case k16 => k_is)
    (case a17 => k_is)
    (case l17 => k_is)
    (case c17 => k_is)
    (case k17 => k_is)
    (case a18 => k_is)
    (case l18 => k_is)
    (case c18 => k_is)
    (case k18 => k_is)
    (case a19 => k_is)
    (case l19 => k_is)
    (case c19 => k_is)
    (case k19 => k_is)
    (case a20 => k_is)
    (case l20 => k_is)
    (case c20 => k_is)
    (case k20 => k_is)
    (case a21 => k_is)
    (case l21 => k_is)
    (case c21 => k_is)
    (case k21 => k_is)
    (case a22 => k_is)
    (case l22 => k_is)
    (case c22 => k_is)
    (case k22 => k_is)
    (case a23 => k_is)
    (case l23 => k_is)
    (case c23 => k_is)
    (case k23 => k_is)
    (case a24 => k_is)
    (case l24 => k_is)
    (case c24 => k_is)
    (case k24 => k_is)
    (case a25 => k_is)
    (case l25 => k_is)
    (case c25 => k_is)
    (case k25 => k_is)
    (case a26 => k_is)
    (case l26 => k_is)
    (case c26 => k_is)
    (case k26 => k_is)
    (case a27 => k_is)
    (case l27 => k_is)
    (case c27 => k_is)
    (case k27 => k_is)
    (case a28 => k_is)
    (case l28 => k_is)
    (case c28 => k_is)
    (case k28 => k_is)
    (case a29 => k_is)
    (case l29 => k_is)
    (case c29 => k_is)
    (case k29 => k_is)
    (case a30 => k_is)
    (case l30 => k_is)
    (case c30 => k_is)
    (case k30 => k_is)
    (case a31 => k_is)
    (case l31 => k_is)
    (case c31 => k_is)
    (case k31 => k_is)
    (case a32 => k_is)
    (case l32 => k_is)
    (case c32 => k_is)
    (case k32 => k_is)
    (case a33 => k_is)
    (case l33 => k_is)
    (case c33 => k_is)
    (case k33 => k_is)
    (case a34 => k_is)
    (case l34 => k_is)
    (case c34 => k_is)
    (case k34 => k_is)
    (case a35 => k_is)
    (case l35 => k_is)
    (case c35 => k_is)
    (case k35 => k_is)
    (case a36 => k_is)
    (case l36 => k_is)
    (case c36 => k_is)
    (case k36 => k_is)
    (case a37 => k_is)
    (case l37 => k_is)
    (case c37 => k_is)
    (case k37 => k_is)
    (case a38 => k_is)
    (case l38 => k_is)
    (case c38 => k_is)
    (case k38 => k_is)
    (case a39 => k_is)
    (case l39 => k_is)
    (case c39 => k_is)
    (case k39 => k_is)
    (case a40 => k_is)
    (case l40 => k_is)
    (case c40 => k_is)
    (case k40 => k_is)
    (case a41 => k_is)
    (case l41 => k_is)
    (case c41 => k_is)
    (case k41 => k_is)
    (case a42 => k_is)
    (case l42 => k_is)
    (case c42 => k_is)
    (case k42 => k_is)
    (case aC => k_is)
    (case a_init => k_is)
    (case i_init => k_is)
    (case l_init => k_is)
    (case c_init => k_is)
    (case k_init => k_is)
    (case a_add => k_is)
    (case i_add => k_is)
    (case l_add => k_is)
    (case c_add => k_is)
    (case k_add => k_is)
    (case a_pair => k_is)
    (case i_pair => k_is)
    (case l_pair => k_is)
    (case c_pair => k_is)
    (case k_pair => k_is)
    (case a_close => k_is)
    (case i_close => k_is)
    (case l_close => k_is)
    (case c_close => k_is)
    (case k_close => k_is)
    (case pgC => k_is)
    (case hdC => k_is)
    (case poC => k_is)
    (case saC => k_is)
    (case mkC => k_is)
    (case kcC => k_is)
    (case nW => k_is)
    (case nS => k_is)
    (case nO => k_is)
    (case z_abs => k_is)
    (case z_all => k_is)
    (case z_any => k_is)
    (case z_bool => k_is)
    (case z_enumerate => k_is)
    (case z_int => k_is)
    (case z_isinstance => k_is)
    (case z_len => k_is)
    (case z_list => k_is)
    (case z_range => k_is)
    (case z_repr => k_is)
    (case z_sorted => k_is)
    (case z_str => k_is)
    (case z_sum => k_is)
    (case z_tuple => k_is)
    (case z_zip => k_is)
    (case g_gcd => k_is)
