import PyProof.Rows.All
import Wide.All
import OpenK.AllK
import Wide.FinOn
import HandS.ForMost
import HandS.Zip
import KE.GoesEnum
import HandS.Gcd
import HandS.IsInst
import HandS.Wide
import HandS.TupAny
import HandS.SortRule
import HandS.SortInts
import HandS.Style
import HandS.Flow
import KE.KDictKeyed
import KE.KeyNested
import KE.DataEq
import KE.SortData
import KE.DataMinMax
import HandS.Conv
import KE.KDictZip
import HandS.MapObj
import HandS.More
import PyProof.ReprRoads
import PyProof.Draws
import PyProof.EnumMake
import KE.KDictWalk
import KE.KDictCopyH
import PyProof.SumWalkG
import HandS.TupLe
import PySem.Challenge.RW_causeworth_k17_lots_and_what_would_have
import PyProof.ReprLen
set_option Elab.async false
set_option linter.all false
set_option maxRecDepth 100000
/-! ## what is gone through: a list or a tuple; zip and enumerate over them, the pairs known to have no dict -/
namespace DL
open PySem PySem.Spec PyProof.Rows L2
inductive Kd where
  | l
  | t
namespace Kd
def Sq (K : PySem.W.Frag) : Kd → Hp → Addr → List V → Prop
  | .l => SqL K
  | .t => SqT K
/-- its walker w stands at the place i -/
def Wk : Kd → Heap → Addr → Addr → Nat → Prop
  | .l => fun h w a i => h.IsListIter w a i
  | .t => fun h w a i => h.IsTupleIter w a i
def Has : Kd → Heap → Addr → Array Value → Prop
  | .l => fun h a vs => h.IsList a vs
  | .t => fun h a vs => h.IsTuple a vs
/-- the walker's object when it begins -/
def obj0 (a : Addr) : Kd → Obj
  | .l => { cls := .type "list_iterator", data := .fields #[.ref a, .int 0 0] }
  | .t => { cls := .type "tuple_iterator", data := .fields #[.ref a, .int 0 0] }
theorem begins (k : Kd) (a : Addr) (vs : Array Value) : Begins (.ref a) (k.obj0 a) fun h => k.Has h a vs := match k with
  | .l => begins_list a vs
  | .t => begins_tuple a vs
theorem wk0 (k : Kd) {h : Heap} {w a : Addr} (e : h.get? w = some (k.obj0 a)) : k.Wk h w a 0 := match k, e with
  | .l, e => ⟨_, e, rfl, rfl⟩
  | .t, e => ⟨_, e, rfl, rfl⟩
theorem wk_at (k : Kd) {h h' : Heap} {w a : Addr} {i : Nat} (x : k.Wk h w a i) (m : ∀ o, h.get? w = some o → h'.get? w = some o) : k.Wk h' w a i := match k, x with
  | .l, ⟨o, e, r⟩ => ⟨o, m o e, r⟩
  | .t, ⟨o, e, r⟩ => ⟨o, m o e, r⟩
theorem wk_obj (k : Kd) {h : Heap} {w a : Addr} {i : Nat} (x : k.Wk h w a i) : ∃ o, h.get? w = some o ∧ ∀ v, o.data ≠ .cell v := match k, x with
  | .l, ⟨o, e, _, d⟩ => ⟨o, e, fun v z => by rw [d] at z; cases z⟩
  | .t, ⟨o, e, _, d⟩ => ⟨o, e, fun v z => by rw [d] at z; cases z⟩
theorem has_at (k : Kd) {h h' : Heap} {a : Addr} {vs : Array Value} (x : k.Has h a vs) (m : ∀ o, h.get? a = some o → h'.get? a = some o) : k.Has h' a vs := match k, x with
  | .l, ⟨o, e, r⟩ => ⟨o, m o e, r⟩
  | .t, ⟨o, e, r⟩ => ⟨o, m o e, r⟩
theorem has_lt (k : Kd) {h : Heap} {a : Addr} {vs : Array Value} (x : k.Has h a vs) : a < h.objs.size := match k, x with
  | .l, ⟨_, e, _⟩ => Heap.lt_size e
  | .t, ⟨_, e, _⟩ => Heap.lt_size e
/-- what the walker draws from the place m on -/
theorem draws (k : Kd) {P : Program} {w : World} {A : Around} (hh : A.handled = none) {it a : Addr} (ne : a ≠ it) (vs : Array Value) (m : Nat) :
    Draws P w A it [it, a] (max m vs.size) (fun i x => vs[i]? = some x) (fun i h => m ≤ i ∧ k.Wk h it a i ∧ k.Has h a vs) where
  live := fun i h st => (k.wk_obj st.2.1).imp fun o z => z.1
  frame := fun i h h' st mv => ⟨st.1, k.wk_at st.2.1 (mv it (by simp)), k.has_at st.2.2 (mv a (by simp))⟩
  item := fun i s Q E hi st next => by
    have hlt : i < vs.size := by have := st.1; omega
    have here : vs[i]? = some vs[i] := Array.getElem?_eq_getElem hlt
    cases k with
    | l => exact wpAny_nextOf_list_item st.2.1 st.2.2 here fun h' walker same => next vs[i] h' s.toks here ⟨Nat.le_succ_of_le st.1, walker, st.2.2.extBut same.extBut ne⟩ same
    | t => exact wpAny_nextOf_tuple_item st.2.1 st.2.2 here fun h' walker same => next vs[i] h' s.toks here ⟨Nat.le_succ_of_le st.1, walker, st.2.2.extBut same.extBut ne⟩ same
  done := fun s Q E st stop => by
    have gone : vs[max m vs.size]? = none := Array.getElem?_eq_none (Nat.le_max_right _ _)
    cases k with
    | l => exact wpAny_nextOf_list_end hh st.2.1 st.2.2 gone stop
    | t => exact wpAny_nextOf_tuple_end hh st.2.1 st.2.2 gone stop
section
variable {X : Cx} {pins : List (Addr × Obj)} {σ : L2.St} {H : Hp} {s : Shared} {a : Addr} {xs ys : List V}
theorem told (k : Kd) (I : Inv X pins σ H s) (q : k.Sq X.K H a xs) : ∃ us : List Value, Vals xs us ∧ k.Has s.heap a us.toArray := match k, q with
  | .l, q => let ⟨us, r, p, _⟩ := I.list q; ⟨us, r, p.isList⟩
  | .t, q => let ⟨us, r, p, _⟩ := I.tuple q; ⟨us, r, p⟩
theorem same (k : Kd) (I : Inv X pins σ H s) (q : k.Sq X.K H a xs) (q' : k.Sq X.K H a ys) : xs = ys := match k, q, q' with
  | .l, q, q' => I.list_inj q q'
  | .t, q, q' => I.tuple_inj q q'
end
end Kd
/-- a walker is not what it goes through: their classes differ -/
theorem k1_apart (k : Kd) {h : Heap} {it a : Addr} {i : Nat} {vs : Array Value} (p : k.Has h a vs) (x : k.Wk h it a i) : a ≠ it := by
  rintro rfl
  cases k with
  | l =>
    obtain ⟨o, e, c, _⟩ := p
    obtain ⟨o', e', c', _⟩ := x
    cases e.symm.trans e'
    exact absurd (c.symm.trans c') (by decide)
  | t =>
    obtain ⟨o, e, c, _⟩ := p
    obtain ⟨o', e', c', _⟩ := x
    cases e.symm.trans e'
    exact absurd (c.symm.trans c') (by decide)
abbrev pairObj (u v : Value) : Obj := { cls := .type "tuple", data := .seq #[u, v] }
section
variable {X : Cx} {pins : List (Addr × Obj)} {σ : L2.St} {H : Hp} {s : Shared}
/-- a turn has laid a new pair behind the heap's end -/
theorem pair_new {ch : List Addr} {h' : Heap} {tk : Nat} {x y : V} {u v : Value} (I : Inv X pins σ H s) (out : ∀ b ∈ ch, FpOk X pins H b) (mv : ∀ b o, b ∉ ch → s.heap.get? b = some o → h'.get? b = some o)
    (e : h'.get? s.heap.objs.size = some (pairObj u v)) (rx : RelV x u) (ry : RelV y v) : Inv X pins σ (upd H s.heap.objs.size (.frz (pairObj u v) (.tup [x, y]))) { s with heap := h', toks := tk } :=
  I.turnedNew mv out (Nat.le_refl _) ⟨e, (by decide : 2 ≤ sizeLine), [u, v], .cons rx (.cons ry .nil), pairObj u v, e, rfl, _, rfl⟩
theorem cells_none {ch : List Addr} {u : HO} (out : ∀ b ∈ ch, FpOk X pins H b) (there : ∀ b ∈ ch, ∃ o, s.heap.get? b = some o) (b : Addr) (hb : b ∈ ch) : upd H s.heap.objs.size u b = none := by
  obtain ⟨o, e⟩ := there b hb
  rw [upd_ne (Nat.ne_of_lt (Heap.lt_size e))]
  exact (out b hb).1
end
theorem refs2 {x y : V} {us : List Value} (r : Vals [x, y] us) : ∃ u v, us = [u, v] ∧ RelV x u ∧ RelV y v := match r with
  | .cons p (.cons q .nil) => ⟨_, _, rfl, p, q⟩
def ItzK (k1 k2 : Kd) (K : PySem.W.Frag) (a b : Addr) : It where
  go i H := ∃ (xs ys : List V) (x y : V), k1.Sq K H a xs ∧ k2.Sq K H b ys ∧ xs[i]? = some x ∧ ys[i]? = some y
  yld i H v H' := ∃ T o x y, v = .ref T ∧ H T = none ∧ o.dict = none ∧ H' = upd H T (.frz o (.tup [x, y])) ∧ (∀ xs, k1.Sq K H a xs → xs[i]? = some x) ∧ ∀ ys, k2.Sq K H b ys → ys[i]? = some y
  stop i H := ∃ xs ys : List V, k1.Sq K H a xs ∧ k2.Sq K H b ys ∧ (xs.length ≤ i ∨ ys.length ≤ i)
theorem vals_arr {xs : List V} {us : List Value} {i : Nat} {x : V} {u : Value} (r : Vals xs us) (hx : xs[i]? = some x) (hu : us.toArray[i]? = some u) : RelV x u := by
  obtain ⟨u', e, rl⟩ := r.get hx
  rw [List.getElem?_toArray, e] at hu
  cases hu
  exact rl
theorem vals_lt {xs : List V} {us : List Value} {i : Nat} {x : V} (r : Vals xs us) (hx : xs[i]? = some x) : i < us.toArray.size := by
  rw [List.size_toArray, ← r.length]
  exact (List.getElem?_eq_some_iff.mp hx).1
/-- what stands in the five cells of a zip ahead of the turn i -/
def ZipAt (k1 k2 : Kd) (z TI TO i1 i2 a b : Addr) (i : Nat) (h : Heap) : Prop :=
  IsZip h z TI TO .none ∧ IsTupOf2 h TI (.ref i1) (.ref i2) ∧ (∃ u v, IsTupOf2 h TO u v) ∧ k1.Wk h i1 a i ∧ k2.Wk h i2 b i
theorem ZipAt.there {k1 k2 : Kd} {z TI TO i1 i2 a b : Addr} {i : Nat} {h : Heap} (st : ZipAt k1 k2 z TI TO i1 i2 a b i h) (c : Addr) (hc : c ∈ [z, TI, TO, i1, i2]) : ∃ o, h.get? c = some o ∧ ∀ v, o.data ≠ .cell v := by
  obtain ⟨s1, s2, ⟨_, _, s3⟩, s4, s5⟩ := st
  simp only [List.mem_cons, List.not_mem_nil, or_false] at hc
  rcases hc with rfl | rfl | rfl | rfl | rfl
  · exact ⟨_, s1, nofun⟩
  · exact ⟨_, s2, nofun⟩
  · exact ⟨_, s3, nofun⟩
  · exact k1.wk_obj s4
  · exact k2.wk_obj s5
theorem turn_zipK (k1 k2 : Kd) {P : Program} {w : World} {K : PySem.W.Frag} {elts : List Expr} {kk : Nat} {tpos : Pos} {z TI TO i1 i2 a b : Addr} (S : ZipSep2 z TI TO i1 i2 [i1, a] [i2, b]) :
    Turn P w K (.Tuple elts kk tpos) (ItzK k1 k2 K a b) [z, TI, TO, i1, i2] z (ZipAt k1 k2 z TI TO i1 i2 a b) where
  mem := List.mem_cons_self
  obj := fun i h st => st.there
  keep := fun i h h' ⟨s1, s2, ⟨u, v, s3⟩, s4, s5⟩ mv => ⟨mv z (by simp) _ s1, mv TI (by simp) _ s2, ⟨u, v, mv TO (by simp) _ s3⟩, k1.wk_at s4 (mv i1 (by simp)), k2.wk_at s5 (mv i2 (by simp))⟩
  item := by
    rintro X rfl rfl rfl calm i pins s σ H E I out st ⟨xs, ys, x, y, qx, qy, hx, hy⟩
    have there := fun c hc => (st.there c hc).imp fun o z => z.1
    obtain ⟨s1, s2, ⟨u0, v0, s3⟩, s4, s5⟩ := st
    obtain ⟨us, rx, px⟩ := k1.told I qx
    obtain ⟨vs, ry, py⟩ := k2.told I qy
    have D1 := k1.draws (P := X.prog) (w := X.w) (A := X.A.in1) (I.ok.hd calm) (k1_apart k1 px s4) us.toArray i
    have D2 := k2.draws (P := X.prog) (w := X.w) (A := X.A.in1) (I.ok.hd calm) (k1_apart k2 py s5) vs.toArray i
    refine wpAny_pyNext_zipD2_item S D1 D2 s1 s2 s3 ⟨Nat.le_refl _, s4, px⟩ ⟨Nat.le_refl _, s5, py⟩
      (Nat.lt_of_lt_of_le (vals_lt rx hx) (Nat.le_max_right _ _)) (Nat.lt_of_lt_of_le (vals_lt ry hy) (Nat.le_max_right _ _)) ?_
    intro u v h1 tk hu hv z1 o1 w1 w2 pair _ mv
    refine ⟨_, rfl, wpAny_letOwnedTupleGo_zip (s := { s with heap := h1, toks := tk }) z1 fun h2 z2 only => ?_⟩
    have zlt : z < s.heap.objs.size := Heap.lt_size s1
    have back : ∀ c o, c ≠ z → h1.get? c = some o → h2.get? c = some o := fun c o n e => (only.2 c n).trans e
    have mv' : ∀ c o, c ∉ [z, TI, TO, i1, i2] → s.heap.get? c = some o → h2.get? c = some o := fun c o n e => by
      simp only [List.mem_cons, List.not_mem_nil, or_false, not_or] at n
      exact back c o n.1 (mv c o n.1 n.2.2.1 n.2.2.2.1 n.2.2.2.2 e)
    have TIold := mv TI _ S.TIz S.TITO S.TIi1 S.TIi2 s2
    exact ⟨.ref s.heap.objs.size, _, pair_new (s := s) I out mv' (back _ _ (Nat.ne_of_gt zlt) pair) (vals_arr rx hx hu) (vals_arr ry hy hv), rfl,
      ⟨_, _, x, y, rfl, I.hok.fresh (Nat.le_refl _), rfl, rfl, fun l q => (k1.same I q qx) ▸ hx, fun l q => (k2.same I q qy) ▸ hy⟩,
      ⟨z2, back _ _ S.TIz TIold, ⟨u, v, back _ _ S.TOz o1⟩, k1.wk_at w1.2.1 fun o => back i1 o S.zi1.symm, k2.wk_at w2.2.1 fun o => back i2 o S.zi2.symm⟩,
      cells_none (s := s) out there⟩
  done := by
    rintro X rfl rfl rfl calm i pins s σ H E I out ⟨s1, s2, ⟨u0, v0, s3⟩, s4, s5⟩ ⟨xs, ys, qx, qy, short⟩
    obtain ⟨us, rx, px⟩ := k1.told I qx
    obtain ⟨vs, ry, py⟩ := k2.told I qy
    have lx : us.toArray.size = xs.length := by rw [List.size_toArray, rx.length]
    have ly : vs.toArray.size = ys.length := by rw [List.size_toArray, ry.length]
    have D1 := k1.draws (P := X.prog) (w := X.w) (A := X.A.in1) (I.ok.hd calm) (k1_apart k1 px s4) us.toArray i
    have D2 := k2.draws (P := X.prog) (w := X.w) (A := X.A.in1) (I.ok.hd calm) (k1_apart k2 py s5) vs.toArray i
    refine wpAny_pyNext_zipD2_end S D1 D2 s1 s2 s3 ⟨Nat.le_refl _, s4, px⟩ ⟨Nat.le_refl _, s5, py⟩
      (Nat.le_max_left _ _) (Nat.le_max_left _ _) (by omega) fun h1 tk mv => ⟨rfl, I.turnedL (fun c o n e => ?_) out⟩
    simp only [List.mem_cons, List.not_mem_nil, or_false, not_or] at n
    exact mv c o n.1 n.2.2.1 n.2.2.2.1 n.2.2.2.2 e
  self := fun A i s Q E st => wpAny_pyIter_zip st.1
def IteK (k : Kd) (K : PySem.W.Frag) (a : Addr) : It where
  go i H := ∃ (xs : List V) (x : V), k.Sq K H a xs ∧ xs[i]? = some x
  yld i H v H' := ∃ T o x, v = .ref T ∧ H T = none ∧ o.dict = none ∧ H' = upd H T (.frz o (.tup [.int (i : Nat), x])) ∧ ∀ xs, k.Sq K H a xs → xs[i]? = some x
  stop i H := ∃ xs : List V, k.Sq K H a xs ∧ xs.length ≤ i
def EnumAt (k : Kd) (e it a : Addr) (i : Nat) (h : Heap) : Prop := (∃ old, IsEnum h e it ((i : Nat) : Int) old) ∧ k.Wk h it a i
theorem EnumAt.there {k : Kd} {e it a : Addr} {i : Nat} {h : Heap} (st : EnumAt k e it a i h) (c : Addr) (hc : c ∈ [e, it]) : ∃ o, h.get? c = some o ∧ ∀ v, o.data ≠ .cell v := by
  obtain ⟨⟨_, s1⟩, s2⟩ := st
  simp only [List.mem_cons, List.not_mem_nil, or_false] at hc
  rcases hc with rfl | rfl
  · exact ⟨_, s1, nofun⟩
  · exact k.wk_obj s2
theorem turn_enumK (k : Kd) {P : Program} {w : World} {K : PySem.W.Frag} {elts : List Expr} {kk : Nat} {tpos : Pos} {e it a : Addr} (ne : e ≠ it) (na : e ≠ a) :
    Turn P w K (.Tuple elts kk tpos) (IteK k K a) [e, it] e (EnumAt k e it a) where
  mem := List.mem_cons_self
  obj := fun i h st => st.there
  keep := fun i h h' ⟨⟨u, s1⟩, s2⟩ mv => ⟨⟨u, mv e (by simp) _ s1⟩, k.wk_at s2 (mv it (by simp))⟩
  item := by
    rintro X rfl rfl rfl calm i pins s σ H E I out st ⟨xs, x, qx, hx⟩
    have there := fun c hc => (st.there c hc).imp fun o z => z.1
    obtain ⟨⟨u0, s1⟩, s2⟩ := st
    obtain ⟨us, rx, px⟩ := k.told I qx
    have D1 := k.draws (P := X.prog) (w := X.w) (A := X.A.in1) (I.ok.hd calm) (k1_apart k px s2) us.toArray i
    refine wpAny_pyNext_enum_itemC D1 s1 ⟨Nat.le_refl _, s2, px⟩ (Nat.lt_of_lt_of_le (vals_lt rx hx) (Nat.le_max_right _ _)) ne (by simp [ne, na]) ?_
    intro u h1 tk hu e1 w1 pair _ mv
    refine ⟨_, rfl, wpAny_letOwnedTupleGo_enum (s := { s with heap := h1, toks := tk + 1 }) e1 fun h2 e2 only => ?_⟩
    have back : ∀ c o, c ≠ e → h1.get? c = some o → h2.get? c = some o := fun c o n z => (only.2 c n).trans z
    have mv' : ∀ c o, c ∉ [e, it] → s.heap.get? c = some o → h2.get? c = some o := fun c o n z => by
      simp only [List.mem_cons, List.not_mem_nil, or_false, not_or] at n
      exact back c o n.1 (mv c o n.1 n.2 z)
    exact ⟨.ref s.heap.objs.size, _, pair_new (s := s) I out mv' (back _ _ (Nat.ne_of_gt (Heap.lt_size s1)) pair) (x := .int (i : Nat)) ⟨tk, rfl⟩ (vals_arr rx hx hu), rfl,
      ⟨_, _, x, rfl, I.hok.fresh (Nat.le_refl _), rfl, rfl, fun l q => (k.same I q qx) ▸ hx⟩, ⟨⟨u, by rw [Int.natCast_add]; exact e2⟩, k.wk_at w1.2.1 fun o => back it o ne.symm⟩, cells_none (s := s) out there⟩
  done := by
    rintro X rfl rfl rfl calm i pins s σ H E I out ⟨⟨u0, s1⟩, s2⟩ ⟨xs, qx, short⟩
    obtain ⟨us, rx, px⟩ := k.told I qx
    have D1 := k.draws (P := X.prog) (w := X.w) (A := X.A.in1) (I.ok.hd calm) (k1_apart k px s2) us.toArray i
    have all : max i us.toArray.size = i := by
      rw [List.size_toArray, ← rx.length]
      omega
    rw [all] at D1
    exact wpAny_pyNext_enum_endD D1 s1 ⟨Nat.le_refl _, s2, px⟩ fun h1 only => ⟨rfl, I.turnedL (t' := s.toks) (fun c o n z => only c o (fun q => n (by simp [q])) z) out⟩
  self := fun A i s Q E st => wpAny_pyIter_enum st.1.choose_spec
section
variable {X : Cx} {pins : List (Addr × Obj)} {σ : L2.St} {H : Hp} {s : Shared} {a b : Addr} {xs ys : List V} {elts : List Expr} {kk : Nat} {tpos : Pos}
/-- enumerate(..) begun -/
theorem enum_begun (k : Kd) {R : It → Hp → Prop} {h' : Heap} {N : Nat} (I : Inv X pins σ H s) (old : ∀ b o, s.heap.get? b = some o → h'.get? b = some o) (up : s.heap.objs.size ≤ N) (low : a < N) (en : IsEnum h' (N + 1) N 0 .none) (wk : k.Wk h' N a 0) (hR : R (IteK k X.K a) H) :
    PIE X pins σ (.Tuple elts kk tpos) R (.ref (N + 1)) { s with heap := h' } := by
  refine ⟨_, [N + 1, N], _, _, H, rfl, I.kept (t' := s.toks) old, turn_enumK k (Nat.succ_ne_self N) (Nat.ne_of_gt (Nat.lt_succ_of_lt low)), ⟨⟨_, en⟩, wk⟩, fun c hc => ?_, hR⟩
  have le : s.heap.objs.size ≤ c := by
    simp only [List.mem_cons, List.not_mem_nil, or_false] at hc
    rcases hc with rfl | rfl
    · exact Nat.le_succ_of_le up
    · exact up
  exact I.fpOk le (I.hok.fresh le)
/-- zip(..) made and begun -/
theorem zip_made (k1 k2 : Kd) {R : It → Hp → Prop} (I : Inv X pins σ H s) (qx : k1.Sq X.K H a xs) (qy : k2.Sq X.K H b ys) (hR : R (ItzK k1 k2 X.K a b) H) :
    wpAny (model X.prog X.w) X.A (call (.type "zip") [.ref a, .ref b]) (fun v s1 => wpAny (model X.prog X.w) X.A (pyIter v) (PIE X pins σ (.Tuple elts kk tpos) R) X.xe s1) X.xe s := by
  obtain ⟨us, rx, px⟩ := k1.told I qx
  obtain ⟨vs, ry, py⟩ := k2.told I qy
  refine zip_begins2 (k1.begins a us.toArray) (k2.begins b vs.toArray) px py fun h' z p o w1 w2 _ old => wpAny_pyIter_zip z ?_
  refine ⟨_, [s.heap.objs.size + 4, s.heap.objs.size + 2, s.heap.objs.size + 3, s.heap.objs.size, s.heap.objs.size + 1], _, _, H, rfl, I.kept (t' := s.toks) old,
    turn_zipK k1 k2 (zip_sep2 (N := s.heap.objs.size) (fp1 := [a]) (fp2 := [b]) (fun c hc => ?_) (fun c hc => ?_)), ⟨z, p, ⟨_, _, o⟩, k1.wk0 w1, k2.wk0 w2⟩, fun c hc => ?_, hR⟩
  · rw [List.mem_singleton.mp hc]; exact k1.has_lt px
  · rw [List.mem_singleton.mp hc]; exact k2.has_lt py
  · have up : s.heap.objs.size ≤ c := by
      simp only [List.mem_cons, List.not_mem_nil, or_false] at hc
      rcases hc with rfl | rfl | rfl | rfl | rfl <;> first | exact Nat.le_add_right _ _ | exact Nat.le_refl _
    exact I.fpOk up (I.hok.fresh up)
end
end DL

set_option Elab.async false
set_option linter.all false
set_option maxRecDepth 100000
/-! New tuples are laid as objects that are known to have no dict of their own (frz): dict(t) asks that. -/
namespace DL
open PySem PySem.Spec PyProof.Rows L2
section
variable {X : Cx} {pos : Pos} {es : List Expr} {t : TA}
theorem frz_new {P : Program} {w : World} {H : Hp} {h : Heap} {p : Addr} {vs : List Value} {xs : List V} (e : h.get? p = some { cls := .type "tuple", data := .seq vs.toArray }) (z : xs.length ≤ sizeLine) (r : Vals xs vs) :
    ObjOk P w H h p (.frz { cls := .type "tuple", data := .seq vs.toArray } (.tup xs)) := ⟨e, z, vs, r, ⟨_, e, rfl, _, rfl⟩⟩
/-- THE END of every rule that lays a new tuple -/
theorem tup_end {pins : List (Addr × Obj)} {σ : L2.St} {H : Hp} {s : Shared} {xs : List V} {us : List Value} {Q : VK} (I : Inv X pins σ H s) (r : Vals xs us) (z : xs.length ≤ sizeLine)
    (q : ∀ (p : Addr) (o : Obj), H p = none → o.dict = none → Q (.ref p) (upd H p (.frz o (.tup xs)))) : EP X pins σ Q (.ref s.heap.objs.size) { s with heap := s.heap.push { cls := .type "tuple", data := .seq us.toArray } } :=
  ⟨.ref s.heap.objs.size, _, I.laid (t' := s.toks) (fun _ _ => Heap.get?_push_of_some _) (Nat.le_refl _) (frz_new (Heap.get?_push_size _ rfl) z r), rfl, q _ _ (I.hok.fresh (Nat.le_refl _)) rfl⟩
def tTupZ (t : TA) : TE := fun σ H Q => t σ H fun xs H1 => xs.length ≤ sizeLine ∧ ∀ (p : Addr) (o : Obj), H1 p = none → o.dict = none → Q (.ref p) (upd H1 p (.frz o (.tup xs)))
theorem pe_tupZ {x1} (h : PA X es t) : PE X (.Tuple es x1 pos) (tTupZ t) where
  run pins s σ H Q I w := wpAny_Tuple_spliced (thn (h.run pos pins s σ H _ I w) fun _ _ ⟨_, _, J, r, z, q⟩ => ⟨r.length ▸ z, tup_end J r z q⟩)
def rCatZ (K : PySem.W.Frag) : R2 := fun x y H Q => ∃ a b xs ys, x = .ref a ∧ y = .ref b ∧ SqT K H a xs ∧ SqT K H b ys ∧ xs.length + ys.length ≤ sizeLine ∧
  (xs = [] → Q (.ref b) H) ∧ (xs ≠ [] → ys = [] → Q (.ref a) H) ∧ (xs ≠ [] → ys ≠ [] → ∀ (p : Addr) (o : Obj), H p = none → o.dict = none → Q (.ref p) (upd H p (.frz o (.tup (xs ++ ys)))))
theorem op_catZ : OpR X (binaryOp .Add) (rCatZ X.K) := by
  rintro pins s σ H _ _ _ _ Q I e1 e2 ⟨a, b, xs, ys, rfl, rfl, ta, tb, z, q0, q1, q2⟩
  cases e1
  cases e2
  obtain ⟨us, ru, pu, _⟩ := I.tuple ta
  obtain ⟨ws, rw', pw, _⟩ := I.tuple tb
  by_cases n : us = []
  · subst n
    exact cat_tup0 pu pw ⟨.ref b, H, I, rfl, q0 (ru.nil_iff.mp rfl)⟩
  · exact HT.cat_tup pu pw n (fun e => ⟨.ref a, H, I, rfl, q1 (n ∘ ru.nil_iff.mpr) (rw'.nil_iff.mp e)⟩)
      (fun m => tup_end I (ru.append rw') (by rwa [List.length_append]) (q2 (n ∘ ru.nil_iff.mpr) (m ∘ rw'.nil_iff.mpr))) (by rwa [← ru.length, ← rw'.length])
def rSlZ (K : PySem.W.Frag) : V → Option Int → Option Int → Hp → VK → Prop := fun x lo hi H Q => ∃ a xs, x = .ref a ∧ SqT K H a xs ∧
  (HT.sIx xs.length 0 lo = 0 ∧ HT.sIx xs.length xs.length hi = xs.length → Q (.ref a) H) ∧ (¬ (HT.sIx xs.length 0 lo = 0 ∧ HT.sIx xs.length xs.length hi = xs.length) → ∀ (p : Addr) (o : Obj), H p = none → o.dict = none → Q (.ref p) (upd H p (.frz o (.tup (cutV xs lo hi)))))
theorem sl_tupZ : SlR X (rSlZ X.K) := by
  rintro pins s σ H _ _ vl vu lo hi sl Q I e isl pl pu ⟨a, xs, rfl, ta, q1, q2⟩
  cases e
  obtain ⟨us, r, p, z⟩ := I.tuple ta
  have n : us.toArray.size = xs.length := List.size_toArray.trans r.length.symm
  refine ⟨"tuple", _, PyProof.Rows.slot_tuple_getitem.lookup, p.typeIs, ?_⟩
  by_cases c : HT.sIx xs.length 0 lo = 0 ∧ HT.sIx xs.length xs.length hi = xs.length
  · exact getItem_tuple_whole p isl pl pu (n ▸ c) ⟨.ref a, H, I, rfl, q1 c⟩
  · refine HT.getItem_tuple_cut p isl pl pu (n ▸ c) ?_ (n ▸ z)
    rw [n]
    exact tup_end I ((r.drop _).take _) (Nat.le_trans (cutV_length xs lo hi) z) (q2 c)
def rTupleZ (K : PySem.W.Frag) : List V → Hp → VK → Prop := fun xs H Q => ∃ p ys, xs = [.ref p] ∧ ((SqL K H p ys ∧ ∀ (l : Addr) (o : Obj), H l = none → o.dict = none → Q (.ref l) (upd H l (.frz o (.tup ys)))) ∨ (SqT K H p ys ∧ Q (.ref p) H))
theorem call_tupleZ : CallR X (.type "tuple") (rTupleZ X.K) := by
  rintro pins s σ H _ us Q I r ⟨p, ys, rfl, w⟩
  obtain ⟨_, rfl, e⟩ := vals1 r
  cases e
  rcases w with ⟨c, q⟩ | ⟨c, q⟩
  · obtain ⟨its, ri, pl, z⟩ := I.list c
    exact call_tuple_list pl.isList (fun h' old => tup_end (I.kept (t' := s.toks) old) ri z q) (by rw [List.size_toArray, ← ri.length]; exact z)
  · obtain ⟨_, _, pt, _⟩ := I.tuple c
    exact call_tuple_same pt ⟨.ref p, H, I, rfl, q⟩
/-! zip, enumerate: DL1 -/
abbrev ItzTZ (K : PySem.W.Frag) (a b : Addr) : It := ItzK .t .t K a b
abbrev ItzLZ (K : PySem.W.Frag) (a b : Addr) : It := ItzK .l .l K a b
abbrev IteZ (K : PySem.W.Frag) (a : Addr) : It := IteK .l K a
end
def iZipZ (K : PySem.W.Frag) (ta : TA) : TI := fun σ H R => ta σ H fun vs H1 => ∃ a b xs ys, vs = [.ref a, .ref b] ∧ ((SqL K H1 a xs ∧ SqL K H1 b ys ∧ R (ItzLZ K a b) H1) ∨ (SqT K H1 a xs ∧ SqT K H1 b ys ∧ R (ItzTZ K a b) H1))
theorem pi_zipZ {X : Cx} {e e2 : Expr} {ta : TA} {p pos tpos : Pos} {elts : List Expr} {kk : Nat} (hg : Gl X "zip") (hm : X.mg "zip" = none) (ha : PA X [e, e2] ta)
    (hs : starEach [e, e2] X.env = (false, eval e X.env) :: starEach [e2] X.env := by rfl) (hpl : (backTo pos (starEach [e2] X.env)).any (·.1) = false := by rfl) :
    PI X (.Tuple elts kk tpos) (.Call (.Name "zip" p) [e, e2] [] pos) (iZipZ X.K ta) := by
  refine ⟨fun pins s σ H R I w => Call_ (ld_blt I hg hm PyProof.Rows.boot_zip (PyProof.Rows.callWith_type1 (thn (ha.run pos pins s σ H _ I w) ?_) hs hpl))⟩
  rintro us s1 ⟨_, H1, J, r, a, b, xs, ys, rfl, which⟩
  obtain ⟨_, _, rfl, e1, e2⟩ := refs2 r
  cases e1
  cases e2
  rcases which with ⟨qx, qy, q⟩ | ⟨qx, qy, q⟩
  · exact zip_made .l .l J qx qy q
  · exact zip_made .t .t J qx qy q
def iEnumZ (K : PySem.W.Frag) (ta : TA) : TI := fun σ H R => ta σ H fun vs H1 => ∃ a xs, vs = [.ref a] ∧ SqL K H1 a xs ∧ R (IteZ K a) H1
theorem pi_enumZ {X : Cx} {e : Expr} {ta : TA} {p pos tpos : Pos} {elts : List Expr} {kk : Nat} (hg : Gl X "enumerate") (hm : X.mg "enumerate" = none) (ha : PA X [e] ta) (hs : starEach [e] X.env = [(false, eval e X.env)] := by rfl) :
    PI X (.Tuple elts kk tpos) (.Call (.Name "enumerate" p) [e] [] pos) (iEnumZ X.K ta) := by
  refine ⟨fun pins s σ H R I w => Call_ (ld_blt I hg hm boot_enumerate (PyProof.Rows.callWith_type1 (thn (ha.run pos pins s σ H _ I w) ?_) hs rfl))⟩
  rintro us s1 ⟨_, H1, J, r, a, xs, rfl, qx, q⟩
  obtain ⟨_, rfl, e⟩ := vals1 r
  cases e
  obtain ⟨its, _, p, _⟩ := J.list qx
  exact call_enumerate_list p.isList fun h' en wk _ old => wpAny_pyIter_enum en (enum_begun .l J old (Nat.le_refl _) p.lt en wk q)
end DL

set_option Elab.async false
set_option linter.all false
set_option maxRecDepth 100000
set_option maxHeartbeats 1000000
namespace DL
open PySem PySem.Spec PyProof.Rows L2
/-! ## 33. a dict keyed by nested tuples, as an object of the abstract heap -/
abbrev DnX := List (NestedKey × Addr × V)
def RD : DnX → List (NestedKey × Addr × Value) → Prop := Paired fun p q => p.1 = q.1 ∧ p.2.1 = q.2.1 ∧ RelV p.2.2 q.2.2
def DnP (P : Program) (w : World) (a : Addr) (xs : DnX) (o : Obj) (h : Heap) : Prop :=
  (a == sysModules) = false ∧ xs.length ≤ sizeLine ∧ h.get? a = some o ∧ ∃ ys, RD xs ys ∧ ∃ es ep, o.ExactDict ∧ o.data = .dict es ep ∧ es.toList = ys.map (entryOfKey (nestedKind P w)) ∧ (ys.map (·.1)).Nodup
def DnAt (P : Program) (w : World) (a : Addr) (xs : DnX) (o : Obj) : HO := .ext (DnP P w a xs o)
theorem dn_ok {P : Program} {w : World} {H : Hp} {h : Heap} {a : Addr} {xs : DnX} {o : Obj} (p : DnP P w a xs o h) : ObjOk P w H h a (DnAt P w a xs o) := by
  refine ⟨p, ?_, fun h1 h2 p1 k => ?_⟩
  · exact ⟨o, p.2.2.1⟩
  · obtain ⟨p1, p2, ho, r⟩ := p1
    exact ⟨p1, p2, k o ho, r⟩
/-- a dict keyed by ints and texts, told with its object -/
def DiP (P : Program) (w : World) (a : Addr) (kvs : List (Key × V)) (o : Obj) (h : Heap) : Prop :=
  (a == sysModules) = false ∧ kvs.length ≤ sizeLine ∧ h.get? a = some o ∧ ∃ vs, KV kvs vs ∧ ∃ es ep, o.ExactDict ∧ o.data = .dict es ep ∧ KeysOf (mixKind P w) es ∧ Pairs (mixKind P w) es.toList vs ∧ (vs.map (·.1)).Nodup
def DiAt (P : Program) (w : World) (a : Addr) (kvs : List (Key × V)) (o : Obj) : HO := .ext (DiP P w a kvs o)
theorem di_ok {P : Program} {w : World} {H : Hp} {h : Heap} {a : Addr} {xs : List (Key × V)} {o : Obj} (p : DiP P w a xs o h) : ObjOk P w H h a (DiAt P w a xs o) := by
  refine ⟨p, ?_, fun h1 h2 p1 k => ?_⟩
  · exact ⟨o, p.2.2.1⟩
  · obtain ⟨p1, p2, ho, r⟩ := p1
    exact ⟨p1, p2, k o ho, r⟩
def findN (xs : DnX) (k : NestedKey) : Option V := (xs.find? fun x => decide (x.1 = k)).map (·.2.2)
def putN (xs : DnX) (k : NestedKey) (b : Addr) (v : V) : DnX := if (findN xs k).isSome = true then xs.map (fun x => if x.1 = k then (x.1, x.2.1, v) else x) else xs ++ [(k, b, v)]
theorem rd_find {k : NestedKey} : ∀ {xs : DnX} {ys : List (NestedKey × Addr × Value)}, RD xs ys → (findN xs k = none ∧ atKey ys k = none) ∨ ∃ v p, findN xs k = some v ∧ atKey ys k = some p ∧ RelV v p.2
  | _, _, .nil => .inl ⟨rfl, rfl⟩
  | _, _, .cons (a := x) (b := y) a b => by
    by_cases e : y.1 = k
    · exact .inr ⟨x.2.2, y.2, by simp [findN, a.1, e], by simp [atKey, e], a.2.2⟩
    · rcases rd_find (k := k) b with ⟨h1, h2⟩ | ⟨v, p, h1, h2, h3⟩
      · exact .inl ⟨by simpa [findN, a.1, e] using h1, by simpa [atKey, e] using h2⟩
      · exact .inr ⟨v, p, by simpa [findN, a.1, e] using h1, by simpa [atKey, e] using h2, h3⟩
theorem rd_map {k : NestedKey} {v : V} {u : Value} (r : RelV v u) : ∀ {xs : DnX} {ys : List (NestedKey × Addr × Value)}, RD xs ys → RD (xs.map fun x => if x.1 = k then (x.1, x.2.1, v) else x) (ys.map (putAt k u))
  | _, _, .nil => .nil
  | _, _, .cons (a := x) (b := y) a b => by
    refine .cons ?_ (rd_map r b)
    by_cases e : y.1 = k
    · have e' : x.1 = k := a.1.trans e
      simp only [putAt, if_pos e, if_pos e']; exact ⟨a.1, a.2.1, r⟩
    · have e' : ¬ x.1 = k := fun z => e (a.1.symm.trans z)
      simp only [putAt, if_neg e, if_neg e']; exact a
theorem rd_snoc {x : NestedKey × Addr × V} {y : NestedKey × Addr × Value} (h : x.1 = y.1 ∧ x.2.1 = y.2.1 ∧ RelV x.2.2 y.2.2) : ∀ {xs : DnX} {ys : List (NestedKey × Addr × Value)}, RD xs ys → RD (xs ++ [x]) (ys ++ [y])
  | _, _, .nil => .cons h .nil
  | _, _, .cons a b => .cons a (rd_snoc h b)
theorem rd_put {xs : DnX} {ys : List (NestedKey × Addr × Value)} (rd : RD xs ys) (k : NestedKey) (b : Addr) {v : V} {u : Value} (r : RelV v u) : RD (putN xs k b v) (storedH ys k b u) := by
  rcases rd_find (k := k) rd with ⟨h1, h2⟩ | ⟨v', p, h1, h2, h3⟩
  · rw [putN, storedH, h1, h2]; exact rd_snoc ⟨rfl, rfl, r⟩ rd
  · rw [putN, storedH, h1, h2]; exact rd_map r rd
theorem rd_len : ∀ {xs : DnX} {ys : List (NestedKey × Addr × Value)}, RD xs ys → xs.length = ys.length
  | _, _, .nil => rfl
  | _, _, .cons _ b => congrArg (· + 1) (rd_len b)
theorem rd_mem {y : NestedKey × Addr × Value} : ∀ {xs : DnX} {ys : List (NestedKey × Addr × Value)}, RD xs ys → y ∈ ys → ∃ x ∈ xs, x.1 = y.1 ∧ x.2.1 = y.2.1
  | _, _, .nil, h => by cases h
  | _, _, .cons a b, h => by
    cases h with
    | head => exact ⟨_, .head _, a.1, a.2.1⟩
    | tail _ h => obtain ⟨x, h1, h2⟩ := rd_mem b h; exact ⟨x, .tail _ h1, h2⟩
theorem putN_len {xs : DnX} {k : NestedKey} {b : Addr} {v : V} : (putN xs k b v).length ≤ xs.length + 1 := by
  unfold putN
  split
  · simp
  · simp
section
variable {X : Cx} {A : Around} {E : Value → Shared → Prop} {pins : List (Addr × Obj)} {σ : L2.St} {H : Hp} {s : Shared} {a b : Addr} {xs : DnX} {k : NestedKey}
/-- each key stands where the dict says -/
def KeysAt (h : Heap) (xs : DnX) : Prop := ∀ x ∈ xs, NestedIs h x.1 (.ref x.2.1) ∧ x.1.depth ≤ 8
theorem dn_of {o : Obj} (I : Inv X pins σ H s) (e : H a = some (DnAt X.prog X.w a xs o)) (ky : KeysAt s.heap xs) :
    (a == sysModules) = false ∧ xs.length ≤ sizeLine ∧ ∃ ys, RD xs ys ∧ s.heap.DictOfH (nestedKind X.prog X.w) a ys := by
  obtain ⟨⟨p1, p2, h1, ys, p3, es, ep, h2, h3, h4, h5⟩, _, _⟩ := (I.hok a _ e : ObjOk X.prog X.w H s.heap a (.ext (DnP X.prog X.w a xs o)))
  refine ⟨p1, p2, ys, p3, o, es, ep, h1, h2, h3, h4, fun y hy => ?_, h5⟩
  obtain ⟨x, hx, e1, e2⟩ := rd_mem p3 hy
  rw [← e1, ← e2]
  exact ky x hx
theorem dn_get2 {Q : Value → Shared → Prop} {d : V} {r : Value} {o : Obj} (hu : A.units + 16 < cLine) (I : Inv X pins σ H s) (e : H a = some (DnAt X.prog X.w a xs o)) (ky : KeysAt s.heap xs) (hk : NestedIs s.heap k (.ref b) ∧ k.depth ≤ 8) (rd : RelV d r)
    (h : ∀ w' s', Inv X pins σ H s' → RelV ((findN xs k).getD d) w' → Q w' s') : wpAny (model X.prog X.w) A (call (.builtin "dict.get") [.ref a, .ref b, r]) Q E s := by
  obtain ⟨hd, z, ys, p3, dd⟩ := dn_of I e ky
  refine call_meetsIn PySem.F.slot_dict_get dd.typeIs PySem.F.entry_dict_get (PySem.F.args_dict_get_3 _ _ _) (meetsH_dict_get_default (nestedKind X.prog X.w) a b hd r) ⟨?_, k, ys, hk, dd, h _ _ (I.tok _) ?_⟩
  · show A.units + 1 + 8 < cLine
    omega
  · rcases rd_find (k := k) p3 with ⟨h1, h2⟩ | ⟨v', p, h1, h2, h3⟩
    · rw [h1, h2]; exact rd
    · rw [h1, h2]; exact h3
theorem dn_set {Q : Unit → Shared → Prop} {v : V} {r : Value} {o : Obj} (hu : A.units + 16 < cLine) (I : Inv X pins σ H s) (e : H a = some (DnAt X.prog X.w a xs o)) (ky : KeysAt s.heap xs) (hk : NestedIs s.heap k (.ref b) ∧ k.depth ≤ 8) (rv : RelV v r) (hz : xs.length < sizeLine)
    (h : ∀ s' o', Inv X pins σ (upd H a (DnAt X.prog X.w a (putN xs k b v) o')) s' → Q () s') : wpAny (model X.prog X.w) A (setItem (.ref a) (.ref b) r) Q E s := by
  obtain ⟨hd, z, ys, p3, dd⟩ := dn_of I e ky
  refine wpAny_setItem_heap (hsz := by rw [← rd_len p3]; exact z) (k := k) ?_ hk dd fun h' dd' hs => ?_
  · show A.units + 1 + 8 < cLine
    omega
  · obtain ⟨q, es, ep, hq, h2, h3, h4, _, h5⟩ := dd'
    exact h _ q (d_write I (by rw [e]; exact True.intro) hs ⟨q, hq⟩ (dn_ok ⟨hd, Nat.le_trans putN_len hz, hq, _, rd_put p3 k b rv, es, ep, h2, h3, h4, h5⟩))
abbrev dictNew : Obj := { cls := .type "dict", data := .dict #[] }
theorem dn_empty {P : Program} {w : World} {H : Hp} (h : Heap) (hb : sysModules < h.objs.size) : ObjOk P w H (h.push dictNew) h.objs.size (DnAt P w h.objs.size [] dictNew) :=
  dn_ok ⟨beq_eq_false_iff_ne.mpr (Ne.symm (Nat.ne_of_lt hb)), Nat.zero_le _, Heap.get?_push_size _ rfl, [], .nil, #[], 0, ⟨rfl, rfl, rfl⟩, rfl, rfl, List.nodup_nil⟩
theorem di_of {o : Obj} {kvs : List (Key × V)} (I : Inv X pins σ H s) (e : H a = some (DiAt X.prog X.w a kvs o)) :
    (a == sysModules) = false ∧ kvs.length ≤ sizeLine ∧ ∃ vs, KV kvs vs ∧ s.heap.DictOf (mixKind X.prog X.w) a vs := by
  obtain ⟨⟨p1, p2, h1, vs, p3, es, ep, h2, h3, h4, h5, h6⟩, _, _⟩ := (I.hok a _ e : ObjOk X.prog X.w H s.heap a (.ext (DiP X.prog X.w a kvs o)))
  exact ⟨p1, p2, vs, p3, o, es, ep, h1, h2, h3, h4, h5, h6⟩
theorem di_set {Q : Unit → Shared → Prop} {v : V} {u r : Value} {o : Obj} {kvs : List (Key × V)} {j : Key} (I : Inv X pins σ H s) (e : H a = some (DiAt X.prog X.w a kvs o)) (ru : RelV (kV j) u) (rv : RelV v r) (hz : kvs.length < sizeLine)
    (h : ∀ s' o', Inv X pins σ (upd H a (DiAt X.prog X.w a (putK kvs j v) o')) s' → Q () s') : wpAny (model X.prog X.w) A (setItem (.ref a) u r) Q E s := by
  obtain ⟨hd, z, vs, p3, dd⟩ := di_of I e
  have hl : (putK kvs j v).length ≤ sizeLine := by have := length_putK kvs j v; omega
  refine wpAny_setItem_pairs (hsz := by rw [← p3.length]; exact z) (kV_is ru) dd fun h' dd' hs => ?_
  obtain ⟨q, es, ep, hq, h2, h3, h4, h5, h6⟩ := dd'
  exact h _ q (d_write I (by rw [e]; exact True.intro) hs ⟨q, hq⟩ (di_ok ⟨hd, hl, hq, _, p3.put j rv, es, ep, h2, h3, h4, h5, h6⟩))
theorem di_item {Q : Value → Shared → Prop} {v : V} {u : Value} {o : Obj} {kvs : List (Key × V)} {j : Key} (I : Inv X pins σ H s) (e : H a = some (DiAt X.prog X.w a kvs o)) (ru : RelV (kV j) u) (l : valV kvs j = some v)
    (h : ∀ w' s', Inv X pins σ H s' → RelV v w' → Q w' s') : wpAny (model X.prog X.w) A (getItem (.ref a) u) Q E s := by
  obtain ⟨hd, z, vs, rel, dd⟩ := di_of I e
  obtain ⟨w', hw, rw'⟩ := RelO.some_of (v := v) (o := valueAt vs j) (by rw [← l]; exact rel.val j)
  exact wpAny_getItem_of (kV_is ru) dd.mapOf hw (h w' _ (I.tok _) rw')
theorem di_empty {P : Program} {w : World} {H : Hp} (h : Heap) (hb : sysModules < h.objs.size) : ObjOk P w H (h.push dictNew) h.objs.size (DiAt P w h.objs.size [] dictNew) := by
  obtain ⟨o, es, ep, ho, hx, hd, hk, hp, hn⟩ := Heap.DictOf.new (knd := mixKind P w) h
  have e : dictNew = o := by
    have q : (h.push dictNew).get? h.objs.size = some dictNew := Heap.get?_push_size _ rfl
    rw [q] at ho
    exact Option.some.inj ho
  subst e
  exact di_ok ⟨beq_eq_false_iff_ne.mpr (Ne.symm (Nat.ne_of_lt hb)), Nat.zero_le _, Heap.get?_push_size _ rfl, [], .nil, es, ep, hx, hd, hk, hp, hn⟩
end
end DL

set_option Elab.async false
set_option linter.all false
set_option maxRecDepth 100000
namespace DL
open PySem PySem.Spec PyProof.Rows L2

/-! ## 1. data -/
/-- pure data: what a value is, whatever the heap -/
inductive D where
  | non | bl (b : Bool) | int (i : Int) | str (x : Str) | ty (n : String)
  | tup (xs : List D) | lst (xs : List D)
  /-- a shared mutable object: its place in the store -/
  | ref (l : Nat)
  /-- the script -/
  | scr (ns : List Int)
  /-- a dict that nobody changes any more -/
  | dct (ks : List Key) (ds : List D)
mutual
def D.nk : D → Option NestedKey
  | .non => some .none
  | .bl b => some (.num (if b = true then 1 else 0))
  | .int i => some (.num i)
  | .str x => some (.text x)
  | .tup xs => (D.nks xs).map .tup
  | .lst _ => none
  | .ty _ => none
  | .ref _ => none
  | .scr _ => none
  | .dct _ _ => none
def D.nks : List D → Option (List NestedKey)
  | [] => some []
  | x :: xs => x.nk.bind fun k => (D.nks xs).map (k :: ·)
end
def keyD : Key → D := Sum.elim .int .str
/-- what a mutable object holds -/
inductive Cell where
  | lst (xs : List D)
  | dct (ks : List Key) (ds : List D)
  /-- a dict keyed by nested tuples (b) or by ints and texts -/
  | dn (b : Bool) (ks : List D) (ds : List D)
/-- a slot of a frame -/
inductive Sl where
  | un
  | sh (d : D)
  /-- a mutable object of this frame alone -/
  | ow (c : Cell)
abbrev Rho := List Sl
abbrev Sto := List Cell
/-- the ghost world: where the store's objects stand; the callers' mutable objects; the frame's own ones by slot -/
structure Wd where
  θ : List Addr
  M0 : Addr → Prop
  α : Nat → Option Addr
/-- the module's own objects and the world -/
structure Fw where
  fr : PySem.W.Frag
  wd : World
  pg : Program
instance : CoeOut Fw PySem.W.Frag := ⟨Fw.fr⟩
abbrev FX (X : Cx) : Fw := ⟨X.K, X.w, X.prog⟩
/-- what this frame may change -/
def Mt (W : Wd) (a : Addr) : Prop := a ∈ W.θ ∨ ∃ i, W.α i = some a
/-- what is mutable at all -/
def Mu (W : Wd) (a : Addr) : Prop := W.M0 a ∨ Mt W a
/-- the script is read -/
def ScrAt (K : PySem.W.Frag) (H : Hp) (a : Addr) (ns : List Int) : Prop :=
  (∃ o, H a = some (.frz o (.lst (ns.map V.int)))) ∨
    ∃ (o : Obj) (its : Array Value) (n : Nat), K.lookup a = some o ∧ o.cls = .type "list" ∧ o.dict = none ∧ o.data = .seq its n ∧ its.size ≤ sizeLine ∧ Vals (ns.map V.int) its.toList

/-- a tuple is read; it has no dict of its own -/
def TupAt (K : PySem.W.Frag) (H : Hp) (a : Addr) (vs : List V) : Prop :=
  (∃ o, H a = some (.frz o (.tup vs)) ∧ o.dict = none) ∨
    ∃ (o : Obj) (its : Array Value) (n : Nat), K.lookup a = some o ∧ o.cls = .type "tuple" ∧ o.dict = none ∧ o.data = .seq its n ∧ its.size ≤ sizeLine ∧ Vals vs its.toList
theorem TupAt.sqt {K : PySem.W.Frag} {H : Hp} {a : Addr} {vs : List V} (h : TupAt K H a vs) : SqT K H a vs := by
  rcases h with ⟨o, h, _⟩ | ⟨o, its, n, h1, h2, _, h3, h4, h5⟩
  · exact .inl (.inr ⟨o, h⟩)
  · exact .inr ⟨o, its, n, h1, h2, h3, h4, h5⟩
theorem TupAt.step {K : PySem.W.Frag} {H H' : Hp} {a : Addr} {vs : List V} (f : ∀ b o u, H b = some (.frz o u) → H' b = some (.frz o u)) (h : TupAt K H a vs) : TupAt K H' a vs := by
  rcases h with ⟨o, h, d⟩ | h
  · exact .inl ⟨o, f _ _ _ h, d⟩
  · exact .inr h
theorem TupAt.new {K : PySem.W.Frag} {H : Hp} {a : Addr} {vs : List V} {o : Obj} (d : o.dict = none) : TupAt K (upd H a (.frz o (.tup vs))) a vs := .inl ⟨o, upd_same, d⟩

section
variable (K : Fw) (W : Wd) (H : Hp)
mutual
/-- the value v stands for the data d -/
inductive Rp : V → D → Prop
  | non : Rp .non .non
  | bl (b : Bool) : Rp (.bl b) (.bl b)
  | int (i : Int) : Rp (.int i) (.int i)
  | str (x : Str) : Rp (.str x) (.str x)
  | ty (n : String) : Rp (.ty n) (.ty n)
  | tup {a : Addr} {vs : List V} {ds : List D} : TupAt K H a vs → vs.length ≤ sizeLine → Rps vs ds → Rp (.ref a) (.tup ds)
  | lst {a : Addr} {vs : List V} {ds : List D} : ¬ Mu W a → H a = some (.lst vs) → vs.length ≤ sizeLine → Rps vs ds → Rp (.ref a) (.lst ds)
  | ref {a : Addr} {l : Nat} : W.θ[l]? = some a → Rp (.ref a) (.ref l)
  | scr {a : Addr} {ns : List Int} : ns.length ≤ sizeLine → ScrAt K H a ns → Rp (.ref a) (.scr ns)
  | dct {a : Addr} {ks : List Key} {vs : List V} {ds : List D} : ¬ Mu W a → H a = some (.dK (ks.zip vs)) → ks.length = vs.length → Rps vs ds → Rp (.ref a) (.dct ks ds)
inductive Rps : List V → List D → Prop
  | nil : Rps [] []
  | cons {v : V} {d : D} {vs : List V} {ds : List D} : Rp v d → Rps vs ds → Rps (v :: vs) (d :: ds)
end
/-- a mutable object's content -/
def CellOk (a : Addr) : Cell → Prop
  | .lst xs => ∃ vs, H a = some (.lst vs) ∧ vs.length ≤ sizeLine ∧ Rps K W H vs xs
  | .dct ks ds => ∃ vs, H a = some (.dK (ks.zip vs)) ∧ ks.length = vs.length ∧ Rps K W H vs ds
  | .dn true ks ds => ∃ (xs : DnX) (o : Obj), H a = some (DnAt K.pg K.wd a xs o) ∧ Rps K W H (xs.map fun x => V.ref x.2.1) ks ∧ Rps K W H (xs.map (·.2.2)) ds ∧ ks.map D.nk = xs.map (fun x => some x.1) ∧ ∀ x ∈ xs, x.1.depth ≤ 8
  | .dn false ks ds => ∃ (kvs : List (Key × V)) (o : Obj), H a = some (DiAt K.pg K.wd a kvs o) ∧ Rps K W H (kvs.map (·.2)) ds ∧ ks = kvs.map fun kv => keyD kv.1
/-- read, perhaps from an object of the frame's own -/
inductive Rq : V → D → Prop
  | of {v : V} {d : D} : Rp K W H v d → Rq v d
  | lst {a : Addr} {vs : List V} {ds : List D} : a ∉ W.θ ∧ ¬ W.M0 a → H a = some (.lst vs) → vs.length ≤ sizeLine → Rps K W H vs ds → Rq (.ref a) (.lst ds)
  | dct {a : Addr} {ks : List Key} {vs : List V} {ds : List D} : a ∉ W.θ ∧ ¬ W.M0 a → H a = some (.dK (ks.zip vs)) → ks.length = vs.length → Rps K W H vs ds → Rq (.ref a) (.dct ks ds)
/-- the store -/
def StOk (S : Sto) : Prop := W.θ.length = S.length ∧ ∀ (l : Nat) (a : Addr) (c : Cell), W.θ[l]? = some a → S[l]? = some c → CellOk K W H a c
structure WfW : Prop where
  nd : W.θ.Nodup
  inj : ∀ i j a, W.α i = some a → W.α j = some a → i = j
  dis : ∀ i a, W.α i = some a → a ∉ W.θ ∧ ¬ W.M0 a
  dom : ∀ a, Mu W a → ∃ o, H a = some o
def SlOk (σ : L2.St) (i : Nat) : Sl → Prop
  | .un => True
  | .sh d => ∃ v, σ[i]? = some (some v) ∧ Rp K W H v d
  | .ow c => ∃ a, σ[i]? = some (some (.ref a)) ∧ W.α i = some a ∧ CellOk K W H a c
structure Rel (σ : L2.St) (ρ : Rho) (S : Sto) : Prop where
  len : σ.length = ρ.length
  sl : ∀ (i : Nat) (s : Sl), ρ[i]? = some s → SlOk K W H σ i s
  st : StOk K W H S
  wf : WfW W H
end

/-- the heap grew -/
structure StepE (θ : List Addr) (H H' : Hp) : Prop where
  keep : ∀ b o, H b = some o → b ∉ θ → H' b = some o
  tups : ∀ b xs, H b = some (.tup xs) → H' b = some (.tup xs)
  frzs : ∀ b o u, H b = some (.frz o u) → H' b = some (.frz o u)
  dom : ∀ b o, H b = some o → ∃ o', H' b = some o'
/-- the frame went on -/
structure StepS (W : Wd) (H : Hp) (W' : Wd) (H' : Hp) : Prop where
  m0 : W'.M0 = W.M0
  th : ∃ r, W'.θ = W.θ ++ r
  thn : ∀ b, b ∈ W'.θ → b ∉ W.θ → (∃ i, W.α i = some b) ∨ H b = none
  keep : ∀ b o, H b = some o → ¬ Mt W b → H' b = some o ∧ ¬ Mt W' b
  tups : ∀ b xs, H b = some (.tup xs) → H' b = some (.tup xs)
  frzs : ∀ b o u, H b = some (.frz o u) → H' b = some (.frz o u)
  dom : ∀ b o, H b = some o → ∃ o', H' b = some o'

theorem StepE.refl (θ : List Addr) (H : Hp) : StepE θ H H := ⟨fun _ _ h _ => h, fun _ _ h => h, fun _ _ _ h => h, fun _ o h => ⟨o, h⟩⟩
theorem StepE.trans {θ : List Addr} {H H1 H2 : Hp} (a : StepE θ H H1) (b : StepE θ H1 H2) : StepE θ H H2 :=
  ⟨fun c o h n => b.keep c o (a.keep c o h n) n, fun c xs h => b.tups c xs (a.tups c xs h), fun c o u h => b.frzs c o u (a.frzs c o u h),
    fun c o h => by obtain ⟨o1, h1⟩ := a.dom c o h; exact b.dom c o1 h1⟩
theorem StepE.same {θ : List Addr} {H H' : Hp} (s : Same H H') : StepE θ H H' :=
  ⟨fun b o h _ => s b o h, fun b xs h => s b _ h, fun b o u h => s b _ h, fun b o h => ⟨o, s b o h⟩⟩
theorem StepS.refl (W : Wd) (H : Hp) : StepS W H W H := ⟨rfl, ⟨[], by simp⟩, fun b h n => absurd h n, fun _ _ h n => ⟨h, n⟩, fun _ _ h => h, fun _ _ _ h => h, fun _ o h => ⟨o, h⟩⟩
theorem StepS.trans {W W1 W2 : Wd} {H H1 H2 : Hp} (a : StepS W H W1 H1) (b : StepS W1 H1 W2 H2) : StepS W H W2 H2 where
  m0 := b.m0.trans a.m0
  th := by
    obtain ⟨r, e⟩ := a.th
    obtain ⟨r', e'⟩ := b.th
    exact ⟨r ++ r', by rw [e', e, List.append_assoc]⟩
  thn := fun c h n => by
    by_cases h1 : c ∈ W1.θ
    · exact a.thn c h1 n
    · cases hh : H c with
      | none => exact .inr rfl
      | some o =>
        by_cases hm : Mt W c
        · rcases hm with hm | hm
          · exact absurd hm n
          · exact .inl hm
        · obtain ⟨k1, k2⟩ := a.keep c o hh hm
          rcases b.thn c h h1 with ⟨i, z⟩ | z
          · exact absurd (.inr ⟨i, z⟩) k2
          · rw [k1] at z; cases z
  keep := fun c o h n => by
    obtain ⟨k1, k2⟩ := a.keep c o h n
    exact b.keep c o k1 k2
  tups := fun c xs h => b.tups c xs (a.tups c xs h)
  frzs := fun c o u h => b.frzs c o u (a.frzs c o u h)
  dom := fun c o h => by obtain ⟨o1, h1⟩ := a.dom c o h; exact b.dom c o1 h1
theorem StepE.toS {W : Wd} {H H' : Hp} (s : StepE W.θ H H') : StepS W H W H' :=
  ⟨rfl, ⟨[], by simp⟩, fun b h n => absurd h n, fun b o h n => ⟨s.keep b o h fun z => n (.inl z), n⟩, s.tups, s.frzs, s.dom⟩

section
variable {K : Fw} {W W' : Wd} {H H' : Hp}
theorem SqT.step {K : PySem.W.Frag} {a : Addr} {vs : List V} (t : ∀ b xs, H b = some (.tup xs) → H' b = some (.tup xs)) (f : ∀ b o u, H b = some (.frz o u) → H' b = some (.frz o u)) (h : SqT K H a vs) : SqT K H' a vs := by
  rcases h with (h | ⟨o, h⟩) | h
  · exact .inl (.inl (t _ _ h))
  · exact .inl (.inr ⟨o, f _ _ _ h⟩)
  · exact .inr h
theorem ScrAt.step {K : PySem.W.Frag} {a : Addr} {ns : List Int} (f : ∀ b o u, H b = some (.frz o u) → H' b = some (.frz o u)) (h : ScrAt K H a ns) : ScrAt K H' a ns := by
  rcases h with ⟨o, h⟩ | h
  · exact .inl ⟨o, f _ _ _ h⟩
  · exact .inr h
/-- what a step must keep, for data to stay -/
structure Kps (K : Fw) (W : Wd) (H : Hp) (W' : Wd) (H' : Hp) : Prop where
  th : ∀ (l : Nat) (a : Addr), W.θ[l]? = some a → W'.θ[l]? = some a
  keep : ∀ b o, H b = some o → ¬ Mu W b → H' b = some o ∧ ¬ Mu W' b
  tups : ∀ b xs, H b = some (.tup xs) → H' b = some (.tup xs)
  frzs : ∀ b o u, H b = some (.frz o u) → H' b = some (.frz o u)
mutual
theorem Rp.keeps (k : Kps K W H W' H') {v : V} {d : D} : Rp K W H v d → Rp K W' H' v d
  | .non => .non
  | .bl b => .bl b
  | .int i => .int i
  | .str x => .str x
  | .ty x => .ty x
  | .tup h z r => .tup (TupAt.step k.frzs h) z (Rps.keeps k r)
  | .lst n h z r => .lst (k.keep _ _ h n).2 (k.keep _ _ h n).1 z (Rps.keeps k r)
  | .ref h => .ref (k.th _ _ h)
  | .scr z h => .scr z (ScrAt.step k.frzs h)
  | .dct n h e r => .dct (k.keep _ _ h n).2 (k.keep _ _ h n).1 e (Rps.keeps k r)
theorem Rps.keeps (k : Kps K W H W' H') {vs : List V} {ds : List D} : Rps K W H vs ds → Rps K W' H' vs ds
  | .nil => .nil
  | .cons a b => .cons (Rp.keeps k a) (Rps.keeps k b)
end
theorem StepS.keeps (s : StepS W H W' H') : Kps K W H W' H' where
  th := fun l a h => by
    obtain ⟨r, e⟩ := s.th
    rw [e, List.getElem?_append_left (List.getElem?_eq_some_iff.mp h).1]
    exact h
  keep := fun b o h n => by
    obtain ⟨k1, k2⟩ := s.keep b o h fun z => n (.inr z)
    refine ⟨k1, fun z => ?_⟩
    rcases z with z | z
    · rw [s.m0] at z; exact n (.inl z)
    · exact k2 z
  tups := s.tups
  frzs := s.frzs
theorem StepE.keeps (s : StepE W.θ H H') : Kps K W H W H' := s.toS.keeps
theorem Rp.step (s : StepS W H W' H') {v : V} {d : D} (h : Rp K W H v d) : Rp K W' H' v d := h.keeps s.keeps
theorem Rps.step (s : StepS W H W' H') {v : List V} {d : List D} (h : Rps K W H v d) : Rps K W' H' v d := h.keeps s.keeps
theorem Rp.stepE (s : StepE W.θ H H') {v : V} {d : D} (h : Rp K W H v d) : Rp K W H' v d := h.keeps s.keeps
theorem Rps.stepE (s : StepE W.θ H H') {v : List V} {d : List D} (h : Rps K W H v d) : Rps K W H' v d := h.keeps s.keeps
theorem Rps.length : ∀ {vs : List V} {ds : List D}, Rps K W H vs ds → vs.length = ds.length
  | _, _, .nil => rfl
  | _, _, .cons _ b => by simp [Rps.length b]
theorem Rps.get : ∀ {vs : List V} {ds : List D} {i : Nat} {d : D}, Rps K W H vs ds → ds[i]? = some d → ∃ v, vs[i]? = some v ∧ Rp K W H v d
  | _, _, _, _, .nil, e => by simp at e
  | _, _, 0, _, .cons a _, e => by simp at e; subst e; exact ⟨_, rfl, a⟩
  | _, _, i + 1, d, .cons _ b, e => by
    obtain ⟨v, h1, h2⟩ := Rps.get (i := i) (d := d) b (by simpa using e)
    exact ⟨v, by simpa using h1, h2⟩
theorem Rps.get' : ∀ {vs : List V} {ds : List D} {i : Nat} {v : V}, Rps K W H vs ds → vs[i]? = some v → ∃ d, ds[i]? = some d ∧ Rp K W H v d
  | _, _, _, _, .nil, e => by simp at e
  | _, _, 0, _, .cons a _, e => by simp at e; subst e; exact ⟨_, rfl, a⟩
  | _, _, i + 1, v, .cons _ b, e => by
    obtain ⟨d, h1, h2⟩ := Rps.get' (i := i) (v := v) b (by simpa using e)
    exact ⟨d, by simpa using h1, h2⟩
theorem Rps.append : ∀ {vs : List V} {ds : List D} {vs' : List V} {ds' : List D}, Rps K W H vs ds → Rps K W H vs' ds' → Rps K W H (vs ++ vs') (ds ++ ds')
  | _, _, _, _, .nil, h => h
  | _, _, _, _, .cons a b, h => .cons a (Rps.append b h)
theorem Rps.set : ∀ {vs : List V} {ds : List D} (i : Nat) {v : V} {d : D}, Rps K W H vs ds → Rp K W H v d → Rps K W H (vs.set i v) (ds.set i d)
  | _, _, _, _, _, .nil, _ => .nil
  | _, _, 0, _, _, .cons _ b, r => .cons r b
  | _, _, i + 1, _, _, .cons a b, r => .cons a (Rps.set i b r)
theorem Rps.take : ∀ {vs : List V} {ds : List D} (n : Nat), Rps K W H vs ds → Rps K W H (vs.take n) (ds.take n)
  | _, _, 0, _ => .nil
  | _, _, _ + 1, .nil => .nil
  | _, _, n + 1, .cons a b => .cons a (Rps.take n b)
theorem Rps.drop : ∀ {vs : List V} {ds : List D} (n : Nat), Rps K W H vs ds → Rps K W H (vs.drop n) (ds.drop n)
  | _, _, 0, h => h
  | _, _, _ + 1, .nil => .nil
  | _, _, n + 1, .cons _ b => Rps.drop n b
theorem Rps.reverse {vs : List V} {ds : List D} (h : Rps K W H vs ds) : Rps K W H vs.reverse ds.reverse := by
  induction vs generalizing ds with
  | nil => cases h; exact .nil
  | cons v vs ih =>
    cases h with
    | cons a b =>
      rw [List.reverse_cons, List.reverse_cons]
      exact (ih b).append (.cons a .nil)
theorem Rps.insert : ∀ {vs : List V} {ds : List D} (i : Nat) {v : V} {d : D}, Rps K W H vs ds → Rp K W H v d → Rps K W H (vs.insertIdx i v) (ds.insertIdx i d)
  | _, _, 0, _, _, h, r => by simpa [List.insertIdx] using Rps.cons r h
  | _, _, i + 1, _, _, .nil, r => by simpa [List.insertIdx] using Rps.nil
  | _, _, i + 1, _, _, .cons a b, r => by
    rw [List.insertIdx_succ_cons, List.insertIdx_succ_cons]
    exact .cons a (Rps.insert i b r)
theorem CellOk.keeps (k : Kps K W H W' H') {a : Addr} {c : Cell} (e : H' a = H a) (h : CellOk K W H a c) : CellOk K W' H' a c := by
  cases c with
  | lst xs => obtain ⟨vs, h1, hz, h2⟩ := h; exact ⟨vs, e.trans h1, hz, h2.keeps k⟩
  | dct ks ds => obtain ⟨vs, h1, h2, h3⟩ := h; exact ⟨vs, e.trans h1, h2, h3.keeps k⟩
  | dn b ks ds =>
    cases b with
    | true => obtain ⟨xs, o, h1, h2, h3, h4⟩ := h; exact ⟨xs, o, e.trans h1, h2.keeps k, h3.keeps k, h4⟩
    | false => obtain ⟨xs, o, h1, h2, h3⟩ := h; exact ⟨xs, o, e.trans h1, h2.keeps k, h3⟩
theorem CellOk.some {a : Addr} {c : Cell} (h : CellOk K W H a c) : ∃ o, H a = some o := by
  cases c with
  | lst xs => obtain ⟨vs, h1, h2⟩ := h; exact ⟨_, h1⟩
  | dct ks ds => obtain ⟨vs, h1, h2, h3⟩ := h; exact ⟨_, h1⟩
  | dn b ks ds =>
    cases b with
    | true => obtain ⟨xs, o, h1, _⟩ := h; exact ⟨_, h1⟩
    | false => obtain ⟨xs, o, h1, _⟩ := h; exact ⟨_, h1⟩
theorem WfW.stepE (w : WfW W H) (s : StepE W.θ H H') : WfW W H' :=
  ⟨w.nd, w.inj, w.dis, fun a m => by obtain ⟨o, e⟩ := w.dom a m; exact s.dom a o e⟩
theorem Rel.stepE {σ : L2.St} {ρ : Rho} {S S' : Sto} (r : Rel K W H σ ρ S) (s : StepE W.θ H H') (st : StOk K W H' S') : Rel K W H' σ ρ S' := by
  refine ⟨r.len, fun i x e => ?_, st, r.wf.stepE s⟩
  have q := r.sl i x e
  cases x with
  | un => trivial
  | sh d => obtain ⟨v, h1, h2⟩ := q; exact ⟨v, h1, h2.stepE s⟩
  | ow c =>
    obtain ⟨a, h1, h2, h3⟩ := q
    obtain ⟨o, ho⟩ := h3.some
    refine ⟨a, h1, h2, h3.keeps s.keeps ?_⟩
    rw [ho]
    exact s.keep a o ho (r.wf.dis i a h2).1
/-- the store stays where nothing of the heap changes -/
theorem StOk.same {S : Sto} (h : StOk K W H S) (s : Same H H') : StOk K W H' S := by
  refine ⟨h.1, fun l a c e1 e2 => ?_⟩
  have q := h.2 l a c e1 e2
  obtain ⟨o, ho⟩ := q.some
  refine q.keeps (StepE.same s).keeps ?_
  rw [ho]
  exact s _ _ ho
theorem Rel.same {σ : L2.St} {ρ : Rho} {S : Sto} (r : Rel K W H σ ρ S) (s : Same H H') : Rel K W H' σ ρ S := r.stepE (.same s) (r.st.same s)
theorem Rq.stepE (s : StepE W.θ H H') {v : V} {d : D} (h : Rq K W H v d) : Rq K W H' v d := by
  have k : Kps K W H W H' := s.keeps
  cases h with
  | of h => exact .of (h.keeps k)
  | lst n h z r => exact .lst n (s.keep _ _ h n.1) z (r.keeps k)
  | dct n h e r => exact .dct n (s.keep _ _ h n.1) e (r.keeps k)
theorem Rq.same (s : Same H H') {v : V} {d : D} (h : Rq K W H v d) : Rq K W H' v d := h.stepE (.same s)
/-- a is a mutable object, too -/
def Wd.plus (W : Wd) (a : Addr) : Wd := { W with M0 := fun b => W.M0 b ∨ b = a }
theorem mu_plus {a b : Addr} : Mu (W.plus a) b ↔ Mu W b ∨ b = a := by
  unfold Mu Mt Wd.plus
  constructor
  · rintro ((h | h) | h)
    · exact .inl (.inl h)
    · exact .inr h
    · exact .inl (.inr h)
  · rintro ((h | h) | h)
    · exact .inl (.inl h)
    · exact .inr h
    · exact .inl (.inr h)
theorem Kps.trans {W1 W2 : Wd} {H1 H2 : Hp} (a : Kps K W H W1 H1) (b : Kps K W1 H1 W2 H2) : Kps K W H W2 H2 where
  th := fun l c h => b.th l c (a.th l c h)
  keep := fun c o h n => by obtain ⟨k1, k2⟩ := a.keep c o h n; exact b.keep c o k1 k2
  tups := fun c o h => b.tups c o (a.tups c o h)
  frzs := fun c o u h => b.frzs c o u (a.frzs c o u h)
/-- a new object, that nothing knows -/
theorem Kps.new {a : Addr} {o : HO} (n : H a = none) : Kps K W H (W.plus a) (upd H a o) where
  th := fun _ _ h => h
  keep := fun b u h m => ⟨by rw [upd_ne (ne_of_none h n)]; exact h, fun z => (mu_plus.mp z).elim m fun e => by rw [e] at h; rw [n] at h; cases h⟩
  tups := fun b xs h => by rw [upd_ne (ne_of_none h n)]; exact h
  frzs := fun b o u h => by rw [upd_ne (ne_of_none h n)]; exact h
/-- fewer mutable objects -/
theorem Kps.less (t : W'.θ = W.θ) (m : ∀ b, Mu W' b → Mu W b) : Kps K W H W' H where
  th := fun _ _ h => by rw [t]; exact h
  keep := fun b u h n => ⟨h, fun z => n (m b z)⟩
  tups := fun _ _ h => h
  frzs := fun _ _ _ h => h
theorem Kps.minus {a : Addr} : Kps K (W.plus a) H W H := Kps.less rfl fun b h => mu_plus.mpr (.inl h)
/-- an object that nothing knows is changed -/
theorem Kps.put {a : Addr} {o : HO} (m : Mu W a) (nt : ∀ xs, H a ≠ some (.tup xs)) (nf : ∀ o u, H a ≠ some (.frz o u)) : Kps K W H W (upd H a o) where
  th := fun _ _ h => h
  keep := fun b u h n => ⟨by
    have e : b ≠ a := fun e => n (by rw [e]; exact m)
    rw [upd_ne e]; exact h, n⟩
  tups := fun b xs h => by
    have e : b ≠ a := fun e => nt xs (by rw [← e]; exact h)
    rw [upd_ne e]; exact h
  frzs := fun b o u h => by
    have e : b ≠ a := fun e => nf o u (by rw [← e]; exact h)
    rw [upd_ne e]; exact h
/-- the store by new words -/
theorem StOk.keeps {S : Sto} (h : StOk K W H S) (t : W'.θ = W.θ) (k : Kps K W H W' H') (s : ∀ a ∈ W.θ, H' a = H a) : StOk K W' H' S := by
  refine ⟨by rw [t]; exact h.1, fun l a c e1 e2 => ?_⟩
  rw [t] at e1
  exact (h.2 l a c e1 e2).keeps k (s a (List.mem_of_getElem? e1))
theorem WfW.tdom (w : WfW W H) {a : Addr} (h : a ∈ W.θ) : ∃ o, H a = some o := w.dom a (.inr (.inl h))
end
end DL

set_option Elab.async false
set_option linter.all false
set_option maxRecDepth 100000
namespace DL
open PySem PySem.Spec PyProof.Rows L2

/-! ## 2. judgements -/
abbrev Ex := Rho → Sto → Option (D × Sto)
abbrev Ars := Rho → Sto → Option (List D × Sto)
abbrev Tx := Rho → Sto → Option (Bool × Sto)
section
variable (K : Fw)
/-- made anew: nothing else knows it -/
inductive Rf (W : Wd) (H H' : Hp) (S : Sto) : V → D → Prop
  | lst {a : Addr} {vs : List V} {ds : List D} : H a = none → H' a = some (.lst vs) → vs.length ≤ sizeLine → StOk K (W.plus a) H' S → Rps K (W.plus a) H' vs ds → Rf W H H' S (.ref a) (.lst ds)
  | dct {a : Addr} {ks : List Key} {vs : List V} {ds : List D} : H a = none → H' a = some (.dK (ks.zip vs)) → ks.length = vs.length → StOk K (W.plus a) H' S → Rps K (W.plus a) H' vs ds → Rf W H H' S (.ref a) (.dct ks ds)
abbrev Rqs (W : Wd) (H : Hp) : List V → List D → Prop := Paired (Rq K W H)
def tD (f : Ex) : TE := fun σ H Q => ∃ (W : Wd) (ρ : Rho) (S : Sto) (d : D) (S' : Sto), Rel K W H σ ρ S ∧ f ρ S = some (d, S') ∧ ∀ v H', StepE W.θ H H' → StOk K W H' S' → Rp K W H' v d → Q v H'
def tQ (f : Ex) : TE := fun σ H Q => ∃ (W : Wd) (ρ : Rho) (S : Sto) (d : D) (S' : Sto), Rel K W H σ ρ S ∧ f ρ S = some (d, S') ∧ ∀ v H', StepE W.θ H H' → StOk K W H' S' → Rq K W H' v d → Q v H'
def tF (f : Ex) : TE := fun σ H Q => ∃ (W : Wd) (ρ : Rho) (S : Sto) (d : D) (S' : Sto), Rel K W H σ ρ S ∧ f ρ S = some (d, S') ∧ ∀ v H', StepE W.θ H H' → Rf K W H H' S' v d → Q v H'
def tA (f : Ars) : TA := fun σ H Q => ∃ (W : Wd) (ρ : Rho) (S : Sto) (d : List D) (S' : Sto), Rel K W H σ ρ S ∧ f ρ S = some (d, S') ∧ ∀ v H', StepE W.θ H H' → StOk K W H' S' → Rps K W H' v d → Q v H'
def tAQ (f : Ars) : TA := fun σ H Q => ∃ (W : Wd) (ρ : Rho) (S : Sto) (d : List D) (S' : Sto), Rel K W H σ ρ S ∧ f ρ S = some (d, S') ∧ ∀ v H', StepE W.θ H H' → StOk K W H' S' → Rqs K W H' v d → Q v H'
def tT (f : Tx) : TT := fun σ H Q => ∃ (W : Wd) (ρ : Rho) (S : Sto) (d : Bool) (S' : Sto), Rel K W H σ ρ S ∧ f ρ S = some (d, S') ∧ ∀ H', StepE W.θ H H' → StOk K W H' S' → Q d H'
end
/-- an expression gives data; perhaps data of the frame's own; a new list or dict -/
abbrev E (X : Cx) (e : Expr) (f : Ex) : Prop := PE X e (tD (FX X) f)
abbrev B (X : Cx) (e : Expr) (f : Ex) : Prop := PE X e (tQ (FX X) f)
abbrev N (X : Cx) (e : Expr) (f : Ex) : Prop := PE X e (tF (FX X) f)
abbrev A (X : Cx) (e : List Expr) (f : Ars) : Prop := PA X e (tA (FX X) f)
abbrev AQ (X : Cx) (e : List Expr) (f : Ars) : Prop := PA X e (tAQ (FX X) f)
abbrev T (X : Cx) (e : Expr) (f : Tx) : Prop := PT X e (tT (FX X) f)
abbrev TW (X : Cx) (e : Expr) (f : Tx) : Prop := PW X e (tT (FX X) f)

theorem pe_imp {X : Cx} {e : Expr} {t t' : TE} (h : PE X e t) (i : ∀ σ H Q, t' σ H Q → t σ H Q) : PE X e t' := ⟨fun pins s σ H Q I w => h.run pins s σ H Q I (i σ H Q w)⟩
theorem pa_imp {X : Cx} {e : List Expr} {t t' : TA} (h : PA X e t) (i : ∀ σ H Q, t' σ H Q → t σ H Q) : PA X e t' := ⟨fun pos pins s σ H Q I w => h.run pos pins s σ H Q I (i σ H Q w)⟩
theorem pt_imp {X : Cx} {e : Expr} {t t' : TT} (h : PT X e t) (i : ∀ σ H Q, t' σ H Q → t σ H Q) : PT X e t' := ⟨fun pins s σ H Q I w => h.run pins s σ H Q I (i σ H Q w)⟩
theorem pw_imp {X : Cx} {e : Expr} {t t' : TT} (h : PW X e t) (i : ∀ σ H Q, t' σ H Q → t σ H Q) : PW X e t' := ⟨fun wh pins s σ H Q I w => h.run wh pins s σ H Q I (i σ H Q w)⟩

section
variable {K : Fw} {W : Wd} {H H' H1 : Hp}
theorem Rf.rp (wf : WfW W H) {S : Sto} {v : V} {d : D} (r : Rf K W H H' S v d) : Rp K W H' v d := by
  cases r with
  | lst n e z st r => exact .lst (fun m => by obtain ⟨o, h⟩ := wf.dom _ m; rw [n] at h; cases h) e z (r.keeps .minus)
  | dct n e z st r => exact .dct (fun m => by obtain ⟨o, h⟩ := wf.dom _ m; rw [n] at h; cases h) e z (r.keeps .minus)
theorem Rf.st {S : Sto} {v : V} {d : D} (r : Rf K W H H' S v d) : StOk K W H' S := by
  cases r with
  | lst n e z st r => exact st.keeps rfl .minus fun _ _ => rfl
  | dct n e z st r => exact st.keeps rfl .minus fun _ _ => rfl
theorem StepE.none {θ : List Addr} (s : StepE θ H H1) {a : Addr} (n : H1 a = none) : H a = none := by
  cases e : H a with
  | none => rfl
  | some o => obtain ⟨o', h⟩ := s.dom a o e; rw [n] at h; cases h
theorem Rf.before {S : Sto} {v : V} {d : D} (s : StepE W.θ H H1) (r : Rf K W H1 H' S v d) : Rf K W H H' S v d := by
  cases r with
  | lst n e z st r => exact .lst (s.none n) e z st r
  | dct n e z st r => exact .dct (s.none n) e z st r
theorem Rqs.stepE (s : StepE W.θ H H') : ∀ {vs : List V} {ds : List D}, Rqs K W H vs ds → Rqs K W H' vs ds
  | _, _, .nil => .nil
  | _, _, .cons a b => .cons (Rq.stepE s a) (Rqs.stepE s b)
theorem upd_Same {p : Addr} {o : HO} (h : H p = none) : Same H (upd H p o) := fun b u e => by rw [upd_ne (ne_of_none e h)]; exact e
theorem StOk.new {S : Sto} {p : Addr} {o : HO} (wf : WfW W H) (h : StOk K W H S) (n : H p = none) : StOk K (W.plus p) (upd H p o) S :=
  h.keeps rfl (.new n) fun a m => by
    obtain ⟨u, e⟩ := wf.tdom m
    rw [upd_ne (ne_of_none e n)]
theorem Rf.newL {S : Sto} {p : Addr} {vs : List V} {ds : List D} (wf : WfW W H) (st : StOk K W H S) (n : H p = none) (z : vs.length ≤ sizeLine) (r : Rps K W H vs ds) : Rf K W H (upd H p (.lst vs)) S (.ref p) (.lst ds) :=
  .lst n upd_same z (st.new wf n) (r.keeps (.new n))
theorem Rf.newD {S : Sto} {p : Addr} {ks : List Key} {vs : List V} {ds : List D} (wf : WfW W H) (st : StOk K W H S) (n : H p = none) (z : ks.length = vs.length) (r : Rps K W H vs ds) : Rf K W H (upd H p (.dK (ks.zip vs))) S (.ref p) (.dct ks ds) :=
  .dct n upd_same z (st.new wf n) (r.keeps (.new n))
end

/-! ## 3. expressions -/
section
variable {X : Cx} {a b c e : Expr} {es : List Expr} {f f1 f2 f3 : Ex} {fs : Ars} {pos : Pos}
theorem b_of (h : E X e f) : B X e f := pe_imp h fun σ H Q ⟨W, ρ, S, d, S', r, hf, k⟩ => ⟨W, ρ, S, d, S', r, hf, fun v H' s st rp => k v H' s st (.of rp)⟩
theorem e_of (h : N X e f) : E X e f := pe_imp h fun σ H Q ⟨W, ρ, S, d, S', r, hf, k⟩ => ⟨W, ρ, S, d, S', r, hf, fun v H' s rp => k v H' s rp.st (rp.rp r.wf)⟩
theorem bn_of (h : N X e f) : B X e f := b_of (e_of h)

def eVar (i : Nat) : Ex := fun ρ S => match ρ[i]? with
  | some (.sh d) => some (d, S)
  | _ => none
/-- what a slot holds, to be read -/
def Sl.rd : Sl → Option D
  | .sh d => some d
  | .ow (.lst xs) => some (.lst xs)
  | .ow (.dct ks ds) => some (.dct ks ds)
  | .ow (.dn _ _ _) => none
  | .un => none
def bVar (i : Nat) : Ex := fun ρ S => match ρ[i]? with
  | some s => s.rd.map fun d => (d, S)
  | none => none
theorem e_var {i : Nat} (h : PE X e (tVar i)) : E X e (eVar i) := pe_imp h fun σ H Q ⟨W, ρ, S, d, S', r, hf, k⟩ => by
  unfold eVar at hf
  split at hf
  · rename_i d' e
    cases hf
    obtain ⟨v, h1, h2⟩ := r.sl i _ e
    exact ⟨v, h1, k v H (.refl _ _) r.st h2⟩
  · cases hf
theorem b_var {i : Nat} (h : PE X e (tVar i)) : B X e (bVar i) := pe_imp h fun σ H Q ⟨W, ρ, S, d, S', r, hf, k⟩ => by
  unfold bVar at hf
  split at hf
  · rename_i s e
    have q := r.sl i _ e
    cases s with
    | un => cases hf
    | sh d' =>
      cases hf
      obtain ⟨v, h1, h2⟩ := q
      exact ⟨v, h1, k v H (.refl _ _) r.st (.of h2)⟩
    | ow c =>
      obtain ⟨a, h1, h2, h3⟩ := q
      have n := r.wf.dis i a h2
      cases c with
      | lst xs =>
        cases hf
        obtain ⟨vs, e1, z, e2⟩ := h3
        exact ⟨_, h1, k _ H (.refl _ _) r.st (.lst n e1 z e2)⟩
      | dct ks ds =>
        cases hf
        obtain ⟨vs, e1, z, e2⟩ := h3
        exact ⟨_, h1, k _ H (.refl _ _) r.st (.dct n e1 z e2)⟩
      | dn b ks ds => cases hf
  · cases hf

def eC (d : D) : Ex := fun _ S => some (d, S)
theorem e_c {v : V} {d : D} (h : PE X e (tC v)) (r : ∀ W H, Rp (FX X) W H v d) : E X e (eC d) := pe_imp h fun σ H Q ⟨W, ρ, S, d, S', rl, hf, k⟩ => by
  cases hf
  exact k v H (.refl _ _) rl.st (r W H)
theorem e_int {i : Int} {j : Nat} : E X (.Constant (.int i) j pos) (eC (.int i)) := e_c pe_int fun _ _ => .int i
theorem e_bl {i : Bool} {j : Nat} : E X (.Constant (.bool i) j pos) (eC (.bl i)) := e_c pe_bl fun _ _ => .bl i
theorem e_str {i : Str} {j : Nat} : E X (.Constant (.str i) j pos) (eC (.str i)) := e_c pe_str fun _ _ => .str i
theorem e_non {j : Nat} : E X (.Constant .none j pos) (eC .non) := e_c pe_non fun _ _ => .non
theorem e_ty {x : Str} {n : String} (hg : Gl X x) (hm : X.mg x = none) (hv : bootBuiltins x = some (.type n)) (hn : x ≠ "__name__" := by decide) (hd : (x == ("__debug__" : Str)) = false := by decide) : E X (.Name x pos) (eC (.ty n)) := e_c (pe_bltn (v := .ty n) hg hm hv rfl hn hd) fun _ _ => .ty n

/-! ### two operands -/
def OpD (K : Fw) (r : R2) (g : D → D → Option D) : Prop :=
  ∀ (W : Wd) (H : Hp) (v1 v2 : V) (d1 d2 d : D) (Q : VK), WfW W H → Rq K W H v1 d1 → Rq K W H v2 d2 → g d1 d2 = some d → (∀ v H', Same H H' → Rp K W H' v d → Q v H') → r v1 v2 H Q
/-- a new list or dict is given -/
def NewOk (K : Fw) (W : Wd) (H : Hp) (Q : VK) : D → Prop
  | .lst xs => ∀ p vs, H p = none → vs.length ≤ sizeLine → Rps K W H vs xs → Q (.ref p) (upd H p (.lst vs))
  | .dct ks ds => ∀ p vs, H p = none → ks.length = vs.length → Rps K W H vs ds → Q (.ref p) (upd H p (.dK (ks.zip vs)))
  | _ => True
def OpF (K : Fw) (r : R2) (g : D → D → Option D) : Prop :=
  ∀ (W : Wd) (H : Hp) (v1 v2 : V) (d1 d2 d : D) (Q : VK), WfW W H → Rq K W H v1 d1 → Rq K W H v2 d2 → g d1 d2 = some d → NewOk K W H Q d → r v1 v2 H Q
def eBin (g : D → D → Option D) (f1 f2 : Ex) : Ex := fun ρ S => (f1 ρ S).bind fun p => (f2 ρ p.2).bind fun q => (g p.1 q.1).map fun z => (z, q.2)
theorem newOk {K : Fw} {W : Wd} {H : Hp} {S : Sto} {Q : VK} {d : D} (wf : WfW W H) (st : StOk K W H S) (k : ∀ v H', Same H H' → Rf K W H H' S v d → Q v H') : NewOk K W H Q d := by
  cases d with
  | lst xs => exact fun p vs n z r => k _ _ (upd_Same n) (.newL wf st n z r)
  | dct ks ds => exact fun p vs n z r => k _ _ (upd_Same n) (.newD wf st n z r)
  | _ => trivial
theorem bin_d {K : Fw} {r : R2} {g : D → D → Option D} (hd : OpD K r g) {σ : L2.St} {H : Hp} {Q : VK} (h : tD K (eBin g f1 f2) σ H Q) : tOp r (tQ K f1) (tQ K f2) σ H Q := by
  obtain ⟨W, ρ, S, d, S', rl, hf, k⟩ := h
  unfold eBin at hf
  cases e1 : f1 ρ S with
  | none => rw [e1] at hf; cases hf
  | some p =>
    rw [e1] at hf
    cases e2 : f2 ρ p.2 with
    | none => rw [Option.bind_some, e2] at hf; cases hf
    | some q =>
      rw [Option.bind_some, e2, Option.bind_some] at hf
      obtain ⟨z, hz, he⟩ := Option.map_eq_some_iff.mp hf
      cases he
      refine ⟨W, ρ, S, p.1, p.2, rl, e1, fun v1 H1 s1 st1 r1 => ⟨W, ρ, p.2, q.1, q.2, rl.stepE s1 st1, e2, fun v2 H2 s2 st2 r2 => ?_⟩⟩
      refine hd W H2 v1 v2 p.1 q.1 d Q ((rl.wf.stepE s1).stepE s2) (r1.stepE s2) r2 hz fun v H3 s3 r3 => ?_
      exact k v H3 ((s1.trans s2).trans (.same s3)) (st2.same s3) r3
theorem bin_f {K : Fw} {r : R2} {g : D → D → Option D} (hd : OpF K r g) {σ : L2.St} {H : Hp} {Q : VK} (h : tF K (eBin g f1 f2) σ H Q) : tOp r (tQ K f1) (tQ K f2) σ H Q := by
  obtain ⟨W, ρ, S, d, S', rl, hf, k⟩ := h
  unfold eBin at hf
  cases e1 : f1 ρ S with
  | none => rw [e1] at hf; cases hf
  | some p =>
    rw [e1] at hf
    cases e2 : f2 ρ p.2 with
    | none => rw [Option.bind_some, e2] at hf; cases hf
    | some q =>
      rw [Option.bind_some, e2, Option.bind_some] at hf
      obtain ⟨z, hz, he⟩ := Option.map_eq_some_iff.mp hf
      cases he
      refine ⟨W, ρ, S, p.1, p.2, rl, e1, fun v1 H1 s1 st1 r1 => ⟨W, ρ, p.2, q.1, q.2, rl.stepE s1 st1, e2, fun v2 H2 s2 st2 r2 => ?_⟩⟩
      refine hd W H2 v1 v2 p.1 q.1 d Q ((rl.wf.stepE s1).stepE s2) (r1.stepE s2) r2 hz ?_
      exact newOk (rl.wf.stepE (s1.trans s2)) st2 fun v H3 s3 r3 => k v H3 ((s1.trans s2).trans (.same s3)) (r3.before (s1.trans s2))
theorem e_bin {op : Operator} {r : R2} {g : D → D → Option D} (ho : OpR X (binaryOp op) r) (hd : OpD (FX X) r g) (ha : B X a f1) (hb : B X b f2) : E X (.BinOp a op b pos) (eBin g f1 f2) :=
  pe_imp (pe_op ho ha hb) fun _ _ _ h => bin_d hd h
theorem n_bin {op : Operator} {r : R2} {g : D → D → Option D} (ho : OpR X (binaryOp op) r) (hd : OpF (FX X) r g) (ha : B X a f1) (hb : B X b f2) : N X (.BinOp a op b pos) (eBin g f1 f2) :=
  pe_imp (pe_op ho ha hb) fun _ _ _ h => bin_f hd h
theorem e_cmp {op : CmpOp} {r : R2} {g : D → D → Option D} (ho : OpR X (compareOp op) r) (hd : OpD (FX X) r g) (ha : B X a f1) (hb : B X b f2) (hm : behindInMarks op b = false := by first | exact nomark _ | rfl) : E X (.Compare a [op] [b] pos) (eBin g f1 f2) :=
  pe_imp (pe_cmpR ho ha hb hm) fun _ _ _ h => bin_d hd h
theorem OpD.or {K : Fw} {r r' : R2} {g : D → D → Option D} (h : OpD K r g) : OpD K (fun x y H Q => r x y H Q ∨ r' x y H Q) g := fun W H v1 v2 d1 d2 d Q wf q1 q2 hg k => .inl (h W H v1 v2 d1 d2 d Q wf q1 q2 hg k)
/-- whichever of both gives something -/
def orD (g g' : D → D → Option D) : D → D → Option D := fun x y => (g x y).or (g' x y)
theorem OpD.join {K : Fw} {r r' : R2} {g g' : D → D → Option D} (h : OpD K r g) (h' : OpD K r' g') : OpD K (fun x y H Q => r x y H Q ∨ r' x y H Q) (orD g g') := fun W H v1 v2 d1 d2 d Q wf q1 q2 hg k => by
  unfold orD at hg
  cases e : g d1 d2 with
  | some z => rw [e] at hg; cases hg; exact .inl (h W H v1 v2 d1 d2 _ Q wf q1 q2 e k)
  | none => rw [e] at hg; exact .inr (h' W H v1 v2 d1 d2 _ Q wf q1 q2 hg k)

/-! ### arguments -/
def aNil : Ars := fun _ S => some ([], S)
def aCons (f : Ex) (fs : Ars) : Ars := fun ρ S => (f ρ S).bind fun p => (fs ρ p.2).bind fun q => some (p.1 :: q.1, q.2)
theorem a_nil : A X [] aNil := pa_imp pa_nil fun σ H Q ⟨W, ρ, S, d, S', r, hf, k⟩ => by
  cases hf
  exact k [] H (.refl _ _) r.st .nil
theorem aq_nil : AQ X [] aNil := pa_imp pa_nil fun σ H Q ⟨W, ρ, S, d, S', r, hf, k⟩ => by
  cases hf
  exact k [] H (.refl _ _) r.st .nil
theorem aCons_split {ρ : Rho} {S S' : Sto} {d : List D} (h : aCons f fs ρ S = some (d, S')) : ∃ p q, f ρ S = some p ∧ fs ρ p.2 = some q ∧ d = p.1 :: q.1 ∧ S' = q.2 := by
  unfold aCons at h
  cases e1 : f ρ S with
  | none => rw [e1] at h; cases h
  | some p =>
    rw [e1, Option.bind_some] at h
    cases e2 : fs ρ p.2 with
    | none => rw [e2] at h; cases h
    | some q => rw [e2] at h; cases h; exact ⟨p, q, rfl, e2, rfl, rfl⟩
theorem a_cons (ha : E X e f) (hr : A X es fs) (hs : starEach (e :: es) X.env = (false, eval e X.env) :: starEach es X.env := by rfl) : A X (e :: es) (aCons f fs) :=
  pa_imp (pa_cons ha hr hs) fun σ H Q ⟨W, ρ, S, d, S', r, hf, k⟩ => by
    obtain ⟨p, q, e1, e2, rfl, rfl⟩ := aCons_split hf
    refine ⟨W, ρ, S, p.1, p.2, r, e1, fun v1 H1 s1 st1 r1 => ⟨W, ρ, p.2, q.1, q.2, r.stepE s1 st1, e2, fun v2 H2 s2 st2 r2 => ?_⟩⟩
    exact k _ H2 (s1.trans s2) st2 (.cons (r1.stepE s2) r2)
theorem aq_cons (ha : B X e f) (hr : AQ X es fs) (hs : starEach (e :: es) X.env = (false, eval e X.env) :: starEach es X.env := by rfl) : AQ X (e :: es) (aCons f fs) :=
  pa_imp (pa_cons ha hr hs) fun σ H Q ⟨W, ρ, S, d, S', r, hf, k⟩ => by
    obtain ⟨p, q, e1, e2, rfl, rfl⟩ := aCons_split hf
    refine ⟨W, ρ, S, p.1, p.2, r, e1, fun v1 H1 s1 st1 r1 => ⟨W, ρ, p.2, q.1, q.2, r.stepE s1 st1, e2, fun v2 H2 s2 st2 r2 => ?_⟩⟩
    exact k _ H2 (s1.trans s2) st2 (.cons (r1.stepE s2) r2)

/-! ### displays -/
def eTup (fs : Ars) : Ex := fun ρ S => (fs ρ S).bind fun p => if p.1.length ≤ sizeLine then some (.tup p.1, p.2) else none
def eLst (fs : Ars) : Ex := fun ρ S => (fs ρ S).bind fun p => if p.1.length ≤ sizeLine then some (.lst p.1, p.2) else none
theorem guard_split {fs : Ars} {g : List D → D} {ρ : Rho} {S S' : Sto} {d : D} (h : ((fs ρ S).bind fun p => if p.1.length ≤ sizeLine then some (g p.1, p.2) else none) = some (d, S')) :
    ∃ p, fs ρ S = some p ∧ p.1.length ≤ sizeLine ∧ d = g p.1 ∧ S' = p.2 := by
  cases e1 : fs ρ S with
  | none => rw [e1] at h; cases h
  | some p =>
    rw [e1, Option.bind_some] at h
    by_cases z : p.1.length ≤ sizeLine
    · rw [if_pos z] at h; cases h; exact ⟨p, rfl, z, rfl, rfl⟩
    · rw [if_neg z] at h; cases h
theorem e_tup {x1} (h : A X es fs) : E X (.Tuple es x1 pos) (eTup fs) := pe_imp (pe_tupZ h) fun σ H Q ⟨W, ρ, S, d, S', r, hf, k⟩ => by
  obtain ⟨p, e1, z, rfl, rfl⟩ := guard_split hf
  refine ⟨W, ρ, S, p.1, p.2, r, e1, fun vs H1 s1 st1 r1 => ⟨by rw [r1.length]; exact z, fun q o hq ho => ?_⟩⟩
  have sm : Same H1 (upd H1 q (.frz o (.tup vs))) := upd_Same hq
  exact k _ _ (s1.trans (.same sm)) (st1.same sm) (.tup (.new ho) (by rw [r1.length]; exact z) (r1.stepE (.same sm)))
theorem n_lst (h : A X es fs) : N X (.List es pos) (eLst fs) := pe_imp (pe_lst h) fun σ H Q ⟨W, ρ, S, d, S', r, hf, k⟩ => by
  obtain ⟨p, e1, z, rfl, rfl⟩ := guard_split hf
  refine ⟨W, ρ, S, p.1, p.2, r, e1, fun vs H1 s1 st1 r1 => ⟨by rw [r1.length]; exact z, fun q hq => ?_⟩⟩
  exact k _ _ (s1.trans (.same (upd_Same hq))) ((Rf.newL (r.wf.stepE s1) st1 hq (by rw [r1.length]; exact z) r1).before s1)

/-! ### calls of built-ins -/
def CallD (K : Fw) (r : List V → Hp → VK → Prop) (g : List D → Option D) : Prop :=
  ∀ (W : Wd) (H : Hp) (vs : List V) (ds : List D) (d : D) (Q : VK), WfW W H → Rqs K W H vs ds → g ds = some d → (∀ v H', Same H H' → Rp K W H' v d → Q v H') → r vs H Q
def CallF (K : Fw) (r : List V → Hp → VK → Prop) (g : List D → Option D) : Prop :=
  ∀ (W : Wd) (H : Hp) (vs : List V) (ds : List D) (d : D) (Q : VK), WfW W H → Rqs K W H vs ds → g ds = some d → NewOk K W H Q d → r vs H Q
def eCB (g : List D → Option D) (fs : Ars) : Ex := fun ρ S => (fs ρ S).bind fun p => (g p.1).map fun z => (z, p.2)
theorem eCB_split {g : List D → Option D} {ρ : Rho} {S S' : Sto} {d : D} (h : eCB g fs ρ S = some (d, S')) : ∃ p, fs ρ S = some p ∧ g p.1 = some d ∧ S' = p.2 := by
  unfold eCB at h
  cases e1 : fs ρ S with
  | none => rw [e1] at h; cases h
  | some p =>
    rw [e1, Option.bind_some] at h
    obtain ⟨z, hz, he⟩ := Option.map_eq_some_iff.mp h
    cases he
    exact ⟨p, rfl, hz, rfl⟩
theorem cb_d {K : Fw} {r : List V → Hp → VK → Prop} {g : List D → Option D} (hd : CallD K r g) {σ : L2.St} {H : Hp} {Q : VK} (h : tD K (eCB g fs) σ H Q) : tCB r (tAQ K fs) σ H Q := by
  obtain ⟨W, ρ, S, d, S', rl, hf, k⟩ := h
  obtain ⟨p, e1, e2, rfl⟩ := eCB_split hf
  refine ⟨W, ρ, S, p.1, p.2, rl, e1, fun vs H1 s1 st1 r1 => ?_⟩
  exact hd W H1 vs p.1 d Q (rl.wf.stepE s1) r1 e2 fun v H3 s3 r3 => k v H3 (s1.trans (.same s3)) (st1.same s3) r3
theorem cb_f {K : Fw} {r : List V → Hp → VK → Prop} {g : List D → Option D} (hd : CallF K r g) {σ : L2.St} {H : Hp} {Q : VK} (h : tF K (eCB g fs) σ H Q) : tCB r (tAQ K fs) σ H Q := by
  obtain ⟨W, ρ, S, d, S', rl, hf, k⟩ := h
  obtain ⟨p, e1, e2, rfl⟩ := eCB_split hf
  refine ⟨W, ρ, S, p.1, p.2, rl, e1, fun vs H1 s1 st1 r1 => ?_⟩
  exact hd W H1 vs p.1 d Q (rl.wf.stepE s1) r1 e2 (newOk (rl.wf.stepE s1) st1 fun v H3 s3 r3 => k v H3 (s1.trans (.same s3)) (r3.before s1))
theorem e_cb {r : List V → Hp → VK → Prop} {g : List D → Option D} (h : PE X e (tCB r (tAQ (FX X) fs))) (hd : CallD (FX X) r g) : E X e (eCB g fs) := pe_imp h fun _ _ _ h => cb_d hd h
theorem n_cb {r : List V → Hp → VK → Prop} {g : List D → Option D} (h : PE X e (tCB r (tAQ (FX X) fs))) (hd : CallF (FX X) r g) : N X e (eCB g fs) := pe_imp h fun _ _ _ h => cb_f hd h
end
end DL

set_option Elab.async false
set_option linter.all false
set_option maxRecDepth 100000
namespace DL
open PySem PySem.Spec PyProof.Rows L2
section
variable {X : Cx} {a b c e : Expr} {es : List Expr} {f f1 f2 f3 : Ex} {fs : Ars} {g g1 g2 : Tx} {pos : Pos}

/-! ### truth, tests -/
def D.truth : D → Option Bool
  | .non => some false
  | .bl b => some b
  | .int i => some (i != 0)
  | .str x => if x.length ≤ sizeLine then some ((x.length : Int) != 0) else none
  | .tup xs => some (!xs.isEmpty)
  | .lst xs => some (!xs.isEmpty)
  | .dct ks _ => some (!ks.isEmpty)
  | .ty _ => none
  | .ref _ => none
  | .scr _ => none
theorem isEmpty_len {α β : Type} {xs : List α} {ys : List β} (h : xs.length = ys.length) : xs.isEmpty = ys.isEmpty := by
  cases xs <;> cases ys <;> first | rfl | cases h
theorem truth_ok {K : Fw} {W : Wd} {H : Hp} {v : V} {d : D} {k : Bool} (r : Rq K W H v d) (h : d.truth = some k) : TruV K v H k := by
  cases r with
  | of r =>
    cases r with
    | non => cases h; rfl
    | bl b => cases h; rfl
    | int i => cases h; rfl
    | str x =>
      simp only [D.truth] at h
      by_cases z : x.length ≤ sizeLine
      · rw [if_pos z] at h; cases h; exact ⟨z, rfl⟩
      · rw [if_neg z] at h; cases h
    | tup q z rs => cases h; exact .inr (.inl ⟨_, q.sqt, by rw [isEmpty_len rs.length]⟩)
    | lst n q z rs => cases h; exact .inl ⟨_, .of q, by rw [isEmpty_len rs.length]⟩
    | ref _ => cases h
    | scr _ _ => cases h
    | ty _ => cases h
    | dct n q z rs => cases h; exact .inr (.inr ⟨_, q, by rw [isEmpty_len]; rw [List.length_zip, z, Nat.min_self]⟩)
  | lst n q z rs => cases h; exact .inl ⟨_, .of q, by rw [isEmpty_len rs.length]⟩
  | dct n q z rs => cases h; exact .inr (.inr ⟨_, q, by rw [isEmpty_len]; rw [List.length_zip, z, Nat.min_self]⟩)
def tTru (f : Ex) : Tx := fun ρ S => (f ρ S).bind fun p => p.1.truth.map fun k => (k, p.2)
def tBl (f : Ex) : Tx := fun ρ S => (f ρ S).bind fun p => match p.1 with
  | .bl b => some (b, p.2)
  | _ => none
theorem tTru_split {ρ : Rho} {S S' : Sto} {k : Bool} (h : tTru f ρ S = some (k, S')) : ∃ p, f ρ S = some p ∧ p.1.truth = some k ∧ S' = p.2 := by
  unfold tTru at h
  cases e1 : f ρ S with
  | none => rw [e1] at h; cases h
  | some p =>
    rw [e1, Option.bind_some] at h
    obtain ⟨z, hz, he⟩ := Option.map_eq_some_iff.mp h
    cases he
    exact ⟨p, rfl, hz, rfl⟩
theorem tBl_split {ρ : Rho} {S S' : Sto} {k : Bool} (h : tBl f ρ S = some (k, S')) : f ρ S = some (.bl k, S') := by
  unfold tBl at h
  cases e1 : f ρ S with
  | none => rw [e1] at h; cases h
  | some p =>
    rw [e1, Option.bind_some] at h
    obtain ⟨d, S1⟩ := p
    cases d <;> first | (cases h; rfl) | cases h
theorem t_tru (h : B X a f) (he : ∀ whole, isTrue a X.env whole = (do let v ← whole; standAt a.pos; holding [v] (truthy v)) := by intro _; rfl) : T X a (tTru f) :=
  pt_imp (pt_truth h he) fun σ H Q ⟨W, ρ, S, d, S', r, hf, k⟩ => by
    obtain ⟨p, e1, e2, rfl⟩ := tTru_split hf
    exact ⟨W, ρ, S, p.1, p.2, r, e1, fun v H1 s1 st1 r1 => ⟨d, truth_ok r1 e2, k H1 s1 st1⟩⟩
theorem t_cmp {op : CmpOp} {r : R2} {g : D → D → Option D} (ho : OpR X (compareOp op) r) (hd : OpD (FX X) r g) (ha : B X a f1) (hb : B X b f2) (hm : behindInMarks op b = false := by first | exact nomark _ | rfl) : T X (.Compare a [op] [b] pos) (tBl (eBin g f1 f2)) :=
  pt_imp (pt_cmpR ho ha hb hm) fun σ H Q ⟨W, ρ, S, d, S', rl, hf, k⟩ => by
    refine bin_d hd ⟨W, ρ, S, .bl d, S', rl, tBl_split hf, fun v H1 s1 st1 r1 => ?_⟩
    cases r1
    exact ⟨d, rfl, k H1 s1 st1⟩
/-- a test of a Bool-valued expression by its value -/
theorem t_val (h : B X a f) (he : ∀ whole, isTrue a X.env whole = (do let v ← whole; standAt a.pos; holding [v] (truthy v)) := by intro _; rfl) : T X a (tTru f) := t_tru h he
def tAn (g1 g2 : Tx) : Tx := fun ρ S => (g1 ρ S).bind fun p => if p.1 = true then g2 ρ p.2 else some (false, p.2)
def tOr (g1 g2 : Tx) : Tx := fun ρ S => (g1 ρ S).bind fun p => if p.1 = true then some (true, p.2) else g2 ρ p.2
def tNo (g1 : Tx) : Tx := fun ρ S => (g1 ρ S).map fun p => (!p.1, p.2)
theorem tw_and1 (h : T X a g) : TW X (.BoolOp .And [a] pos) g := pw_imp (pw_and1 h) fun _ _ _ z => z
theorem tw_or1 (h : T X a g) : TW X (.BoolOp .Or [a] pos) g := pw_imp (pw_or1 h) fun _ _ _ z => z
theorem tw_and {rest : List Expr} (h : T X a g1) (h2 : TW X (.BoolOp .And (b :: rest) pos) g2) : TW X (.BoolOp .And (a :: b :: rest) pos) (tAn g1 g2) :=
  pw_imp (pw_and h h2) fun σ H Q ⟨W, ρ, S, d, S', rl, hf, k⟩ => by
    unfold tAn at hf
    cases e1 : g1 ρ S with
    | none => rw [e1] at hf; cases hf
    | some p =>
      rw [e1, Option.bind_some] at hf
      refine ⟨W, ρ, S, p.1, p.2, rl, e1, fun H1 s1 st1 => ?_⟩
      cases hp : p.1 with
      | true =>
        rw [hp, if_pos rfl] at hf
        rw [if_pos rfl]
        exact ⟨W, ρ, p.2, d, S', rl.stepE s1 st1, hf, fun H2 s2 st2 => k H2 (s1.trans s2) st2⟩
      | false =>
        rw [hp, if_neg Bool.false_ne_true] at hf
        rw [if_neg Bool.false_ne_true]
        cases hf
        exact k H1 s1 st1
theorem tw_or {rest : List Expr} (h : T X a g1) (h2 : TW X (.BoolOp .Or (b :: rest) pos) g2) : TW X (.BoolOp .Or (a :: b :: rest) pos) (tOr g1 g2) :=
  pw_imp (pw_or h h2) fun σ H Q ⟨W, ρ, S, d, S', rl, hf, k⟩ => by
    unfold tOr at hf
    cases e1 : g1 ρ S with
    | none => rw [e1] at hf; cases hf
    | some p =>
      rw [e1, Option.bind_some] at hf
      refine ⟨W, ρ, S, p.1, p.2, rl, e1, fun H1 s1 st1 => ?_⟩
      cases hp : p.1 with
      | false =>
        rw [hp, if_neg Bool.false_ne_true] at hf
        rw [if_neg Bool.false_ne_true]
        exact ⟨W, ρ, p.2, d, S', rl.stepE s1 st1, hf, fun H2 s2 st2 => k H2 (s1.trans s2) st2⟩
      | true =>
        rw [hp, if_pos rfl] at hf
        rw [if_pos rfl]
        cases hf
        exact k H1 s1 st1
theorem t_not (h : T X a g) : T X (.UnaryOp .Not a pos) (tNo g) := pt_imp (pt_not h) fun σ H Q ⟨W, ρ, S, d, S', rl, hf, k⟩ => by
  obtain ⟨p, e1, e2⟩ := Option.map_eq_some_iff.mp hf
  cases e2
  exact ⟨W, ρ, S, p.1, p.2, rl, e1, fun H1 s1 st1 => k H1 s1 st1⟩
/-! and, or, not as values -/
def eAn (f1 f2 : Ex) : Ex := fun ρ S => (f1 ρ S).bind fun p => p.1.truth.bind fun k => if k = true then f2 ρ p.2 else some p
def eOr (f1 f2 : Ex) : Ex := fun ρ S => (f1 ρ S).bind fun p => p.1.truth.bind fun k => if k = true then some p else f2 ρ p.2
def eNo (f : Ex) : Ex := fun ρ S => (f ρ S).bind fun p => p.1.truth.map fun k => (.bl (!k), p.2)
theorem e_one {op} (h : E X a f) : E X (.BoolOp op [a] pos) f := pe_one h
theorem e_and {rest : List Expr} (h : E X a f1) (h2 : E X (.BoolOp .And (b :: rest) pos) f2) : E X (.BoolOp .And (a :: b :: rest) pos) (eAn f1 f2) :=
  pe_imp (pe_andT h h2) fun σ H Q ⟨W, ρ, S, d, S', rl, hf, k⟩ => by
    unfold eAn at hf
    cases e1 : f1 ρ S with
    | none => rw [e1] at hf; cases hf
    | some p =>
      rw [e1, Option.bind_some] at hf
      cases e2 : p.1.truth with
      | none => rw [e2] at hf; cases hf
      | some kk =>
        rw [e2, Option.bind_some] at hf
        refine ⟨W, ρ, S, p.1, p.2, rl, e1, fun v H1 s1 st1 r1 => ⟨kk, truth_ok (.of r1) e2, ?_⟩⟩
        cases kk with
        | true =>
          rw [if_pos rfl] at hf ⊢
          exact ⟨W, ρ, p.2, d, S', rl.stepE s1 st1, hf, fun v2 H2 s2 st2 r2 => k v2 H2 (s1.trans s2) st2 r2⟩
        | false =>
          rw [if_neg Bool.false_ne_true] at hf ⊢
          cases hf
          exact k v H1 s1 st1 r1
theorem e_or {rest : List Expr} (h : E X a f1) (h2 : E X (.BoolOp .Or (b :: rest) pos) f2) : E X (.BoolOp .Or (a :: b :: rest) pos) (eOr f1 f2) :=
  pe_imp (pe_orT h h2) fun σ H Q ⟨W, ρ, S, d, S', rl, hf, k⟩ => by
    unfold eOr at hf
    cases e1 : f1 ρ S with
    | none => rw [e1] at hf; cases hf
    | some p =>
      rw [e1, Option.bind_some] at hf
      cases e2 : p.1.truth with
      | none => rw [e2] at hf; cases hf
      | some kk =>
        rw [e2, Option.bind_some] at hf
        refine ⟨W, ρ, S, p.1, p.2, rl, e1, fun v H1 s1 st1 r1 => ⟨kk, truth_ok (.of r1) e2, ?_⟩⟩
        cases kk with
        | false =>
          rw [if_neg Bool.false_ne_true] at hf ⊢
          exact ⟨W, ρ, p.2, d, S', rl.stepE s1 st1, hf, fun v2 H2 s2 st2 r2 => k v2 H2 (s1.trans s2) st2 r2⟩
        | true =>
          rw [if_pos rfl] at hf ⊢
          cases hf
          exact k v H1 s1 st1 r1
theorem e_not (h : B X a f) : E X (.UnaryOp .Not a pos) (eNo f) := pe_imp (pe_notT h) fun σ H Q ⟨W, ρ, S, d, S', rl, hf, k⟩ => by
  unfold eNo at hf
  cases e1 : f ρ S with
  | none => rw [e1] at hf; cases hf
  | some p =>
    rw [e1, Option.bind_some] at hf
    obtain ⟨kk, e2, e3⟩ := Option.map_eq_some_iff.mp hf
    cases e3
    exact ⟨W, ρ, S, p.1, p.2, rl, e1, fun v H1 s1 st1 r1 => ⟨kk, truth_ok r1 e2, k _ H1 s1 st1 (.bl _)⟩⟩
def eIf (g : Tx) (f1 f2 : Ex) : Ex := fun ρ S => (g ρ S).bind fun p => if p.1 = true then f1 ρ p.2 else f2 ρ p.2
theorem e_if (hc : T X c g) (ha : E X a f1) (hb : E X b f2) : E X (.IfExp c a b pos) (eIf g f1 f2) :=
  pe_imp (pe_ifExp hc ha hb) fun σ H Q ⟨W, ρ, S, d, S', rl, hf, k⟩ => by
    unfold eIf at hf
    cases e1 : g ρ S with
    | none => rw [e1] at hf; cases hf
    | some p =>
      rw [e1, Option.bind_some] at hf
      refine ⟨W, ρ, S, p.1, p.2, rl, e1, fun H1 s1 st1 => ?_⟩
      cases hp : p.1 with
      | true =>
        rw [hp, if_pos rfl] at hf
        rw [if_pos rfl]
        exact ⟨W, ρ, p.2, d, S', rl.stepE s1 st1, hf, fun v2 H2 s2 st2 r2 => k v2 H2 (s1.trans s2) st2 r2⟩
      | false =>
        rw [hp, if_neg Bool.false_ne_true] at hf
        rw [if_neg Bool.false_ne_true]
        exact ⟨W, ρ, p.2, d, S', rl.stepE s1 st1, hf, fun v2 H2 s2 st2 r2 => k v2 H2 (s1.trans s2) st2 r2⟩

/-! ### subscripts -/
def atD (xs : List D) (i : Int) : Option D := atI xs i
theorem ixN_lt {n : Nat} {i : Int} {j : Nat} (h : ixN n i = some j) : j < n := (ixN_seq h).2.1
theorem Rps.atI {K : Fw} {W : Wd} {H : Hp} {vs : List V} {ds : List D} {i : Int} {d : D} (r : Rps K W H vs ds) (h : L2.atI ds i = some d) : ∃ v, L2.atI vs i = some v ∧ Rp K W H v d := by
  unfold L2.atI at h ⊢
  rw [r.length]
  cases e : ixN ds.length i with
  | none => rw [e] at h; cases h
  | some j =>
    rw [e, Option.bind_some] at h
    exact r.get h
def D.ix : D → D → Option D
  | .tup xs, .int i => L2.atI xs i
  | .lst xs, .int i => L2.atI xs i
  | .str z, .int i => if z.length ≤ sizeLine then (L2.atI z.cps.toList i).map fun c => .str ⟨#[c]⟩ else none
  | _, _ => none
theorem ix_d {K : Fw} : OpD K (rIx K) D.ix := fun W H v1 v2 d1 d2 d Q wf r1 r2 h k => by
  cases r1 with
  | of r1 =>
    cases r1 with
    | tup q z rs =>
      cases r2 with
      | of r2 =>
        cases r2 with
        | int i =>
          obtain ⟨v, e, rv⟩ := rs.atI h
          exact .inr (.inl ⟨_, _, _, v, rfl, rfl, q.sqt, e, k v H (.refl _) rv⟩)
        | _ => cases h
      | _ => cases h
    | lst n q z rs =>
      cases r2 with
      | of r2 =>
        cases r2 with
        | int i =>
          obtain ⟨v, e, rv⟩ := rs.atI h
          exact .inl ⟨_, _, _, v, rfl, rfl, .of q, e, k v H (.refl _) rv⟩
        | _ => cases h
      | _ => cases h
    | str x =>
      cases r2 with
      | of r2 =>
        cases r2 with
        | int i =>
          simp only [D.ix] at h
          by_cases z : x.length ≤ sizeLine
          · rw [if_pos z] at h
            obtain ⟨c, e1, e2⟩ := Option.map_eq_some_iff.mp h
            cases e2
            exact .inr (.inr ⟨x, i, c, rfl, rfl, z, e1, k _ H (.refl _) (.str _)⟩)
          · rw [if_neg z] at h; cases h
        | _ => cases h
      | _ => cases h
    | _ => cases h
  | lst n q z rs =>
    cases r2 with
    | of r2 =>
      cases r2 with
      | int i =>
        obtain ⟨v, e, rv⟩ := rs.atI h
        exact .inl ⟨_, _, _, v, rfl, rfl, .of q, e, k v H (.refl _) rv⟩
      | _ => cases h
    | _ => cases h
  | _ => cases h
theorem e_ix (ha : B X a f1) (hb : B X b f2) (hs : PlainIx b := by intro _ _; rfl) : E X (.Subscript a b pos) (eBin D.ix f1 f2) := pe_imp (pe_ix ix_seq ha hb hs) fun _ _ _ h => bin_d ix_d h
/-- c[i], c a shared list -/
def eIxR (f1 f2 : Ex) : Ex := fun ρ S => (f1 ρ S).bind fun p => (f2 ρ p.2).bind fun q => match p.1, q.1 with
  | .ref l, .int i => match q.2[l]? with
    | some (.lst xs) => (L2.atI xs i).map fun z => (z, q.2)
    | _ => none
  | _, _ => none
theorem e_ixR (ha : E X a f1) (hb : B X b f2) (hs : PlainIx b := by intro _ _; rfl) : E X (.Subscript a b pos) (eIxR f1 f2) := pe_imp (pe_ix ix_list ha hb hs) fun σ H Q ⟨W, ρ, S, d, S', rl, hf, k⟩ => by
  unfold eIxR at hf
  cases e1 : f1 ρ S with
  | none => rw [e1] at hf; cases hf
  | some p =>
    rw [e1] at hf
    cases e2 : f2 ρ p.2 with
    | none => rw [Option.bind_some, e2] at hf; cases hf
    | some q =>
      rw [Option.bind_some, e2, Option.bind_some] at hf
      obtain ⟨x, S1⟩ := p
      obtain ⟨y, S2⟩ := q
      refine ⟨W, ρ, S, x, S1, rl, e1, fun v1 H1 s1 st1 r1 => ⟨W, ρ, S1, y, S2, rl.stepE s1 st1, e2, fun v2 H2 s2 st2 r2 => ?_⟩⟩
      cases x with
      | ref l =>
        cases y with
        | int i =>
          cases hx : S2[l]? with
          | none => simp only [hx] at hf; cases hf
          | some cc =>
            cases cc with
            | lst xs =>
              simp only [hx] at hf
              obtain ⟨z, hz, he⟩ := Option.map_eq_some_iff.mp hf
              cases he
              cases r2 with
              | of r2 =>
                cases r2
                cases r1 with
                | ref hl =>
                  obtain ⟨vs, hv, _, rs⟩ := st2.2 _ _ _ hl hx
                  obtain ⟨v, ev, rv⟩ := rs.atI hz
                  exact ⟨_, _, _, v, rfl, rfl, .of hv, ev, k v H2 (s1.trans s2) st2 rv⟩
            | dct _ _ => simp only [hx] at hf; cases hf
            | dn _ _ _ => simp only [hx] at hf; cases hf
        | _ => cases hf
      | _ => cases hf

/-! ### slices -/
abbrev Px := Rho → Sto → Option (Option Int × Sto)
def tPx (K : Fw) (f : Px) : TO := fun σ H Q => ∃ (W : Wd) (ρ : Rho) (S : Sto) (d : Option Int) (S' : Sto), Rel K W H σ ρ S ∧ f ρ S = some (d, S') ∧ ∀ H', StepE W.θ H H' → StOk K W H' S' → Q d H'
abbrev P (X : Cx) (e : Option Expr) (f : Px) : Prop := PO X e (tPx (FX X) f)
def pNo : Px := fun _ S => some (none, S)
def pIs (f : Ex) : Px := fun ρ S => (f ρ S).bind fun p => match p.1 with
  | .int i => some (some i, p.2)
  | _ => none
theorem p_no : P X none pNo := ⟨fun pins s σ H Q I ⟨W, ρ, S, d, S', rl, hf, k⟩ => by
  cases hf
  exact po_none.run pins s σ H Q I (k H (.refl _ _) rl.st)⟩
theorem p_is (h : B X a f) : P X (some a) (pIs f) := ⟨fun pins s σ H Q I ⟨W, ρ, S, d, S', rl, hf, k⟩ => by
  refine (po_some h).run pins s σ H Q I ?_
  unfold pIs at hf
  cases e1 : f ρ S with
  | none => rw [e1] at hf; cases hf
  | some p =>
    rw [e1, Option.bind_some] at hf
    obtain ⟨x, S1⟩ := p
    cases x with
    | int i =>
      cases hf
      refine ⟨W, ρ, S, _, _, rl, e1, fun v H1 s1 st1 r1 => ?_⟩
      cases r1 with
      | of r1 =>
        cases r1
        exact ⟨i, rfl, k H1 s1 st1⟩
    | _ => cases hf⟩
def cutD (xs : List D) (lo hi : Option Int) : List D := (xs.drop (HT.sIx xs.length 0 lo)).take (HT.sIx xs.length xs.length hi - HT.sIx xs.length 0 lo)
theorem Rps.cut {K : Fw} {W : Wd} {H : Hp} {vs : List V} {ds : List D} (lo hi : Option Int) (r : Rps K W H vs ds) : Rps K W H (cutV vs lo hi) (cutD ds lo hi) := by
  unfold cutV cutD
  rw [r.length]
  exact (r.drop _).take _
def SlD (K : Fw) (r : V → Option Int → Option Int → Hp → VK → Prop) (g : D → Option Int → Option Int → Option D) : Prop :=
  ∀ (W : Wd) (H : Hp) (v : V) (d1 d : D) (lo hi : Option Int) (Q : VK), WfW W H → Rq K W H v d1 → g d1 lo hi = some d → (∀ v H', Same H H' → Rp K W H' v d → Q v H') → r v lo hi H Q
def eSl (g : D → Option Int → Option Int → Option D) (f : Ex) (l h : Px) : Ex := fun ρ S => (f ρ S).bind fun p => (l ρ p.2).bind fun q => (h ρ q.2).bind fun r => (g p.1 q.1 r.1).map fun z => (z, r.2)
theorem sl_split {g : D → Option Int → Option Int → Option D} {l h : Px} {ρ : Rho} {S S' : Sto} {d : D} (hf : eSl g f l h ρ S = some (d, S')) : ∃ p q r, f ρ S = some p ∧ l ρ p.2 = some q ∧ h ρ q.2 = some r ∧ g p.1 q.1 r.1 = some d ∧ S' = r.2 := by
  unfold eSl at hf
  cases e1 : f ρ S with
  | none => rw [e1] at hf; cases hf
  | some p =>
    rw [e1, Option.bind_some] at hf
    cases e2 : l ρ p.2 with
    | none => rw [e2] at hf; cases hf
    | some q =>
      rw [e2, Option.bind_some] at hf
      cases e3 : h ρ q.2 with
      | none => rw [e3] at hf; cases hf
      | some r =>
        rw [e3, Option.bind_some] at hf
        obtain ⟨z, hz, he⟩ := Option.map_eq_some_iff.mp hf
        cases he
        exact ⟨p, q, r, rfl, e2, e3, hz, rfl⟩
theorem e_sl {lo hi : Option Expr} {p2 : Pos} {l h : Px} {r : V → Option Int → Option Int → Hp → VK → Prop} {g : D → Option Int → Option Int → Option D} (hr : SlR X r) (hd : SlD (FX X) r g) (ha : B X a f) (hl : P X lo l) (hh : P X hi h) : E X (.Subscript a (.Slice lo hi none p2) pos) (eSl g f l h) :=
  pe_imp (pe_slice hr ha hl hh) fun σ H Q ⟨W, ρ, S, d, S', rl, hf, k⟩ => by
    obtain ⟨p, q, r, e1, e2, e3, hz, rfl⟩ := sl_split hf
    refine ⟨W, ρ, S, p.1, p.2, rl, e1, fun v1 H1 s1 st1 r1 => ⟨W, ρ, p.2, q.1, q.2, rl.stepE s1 st1, e2, fun H2 s2 st2 => ⟨W, ρ, q.2, r.1, r.2, (rl.stepE s1 st1).stepE s2 st2, e3, fun H3 s3 st3 => ?_⟩⟩⟩
    exact hd W H3 v1 p.1 d q.1 r.1 Q (((rl.wf.stepE s1).stepE s2).stepE s3) ((r1.stepE s2).stepE s3) hz fun v H4 s4 r4 => k v H4 (((s1.trans s2).trans s3).trans (.same s4)) (st3.same s4) r4
def D.slice : D → Option Int → Option Int → Option D
  | .tup xs, lo, hi => some (.tup (cutD xs lo hi))
  | .lst xs, lo, hi => some (.lst (cutD xs lo hi))
  | .scr ns, lo, hi => some (.lst (cutD (ns.map D.int) lo hi))
  | .str z, lo, hi => if z.length ≤ sizeLine then some (.str (cutS z lo hi)) else none
  | _, _, _ => none
def rSlice (K : PySem.W.Frag) : V → Option Int → Option Int → Hp → VK → Prop := fun x lo hi H Q => rSlL K x lo hi H Q ∨ rSlZ K x lo hi H Q ∨ rSlS x lo hi H Q
theorem sl_slice : SlR X (rSlice X.K) := sl_list.or (sl_tupZ.or sl_str)
theorem cutV_whole {xs : List V} {lo hi : Option Int} (h : HT.sIx xs.length 0 lo = 0 ∧ HT.sIx xs.length xs.length hi = xs.length) : cutV xs lo hi = xs := by
  unfold cutV
  rw [h.1, h.2]
  simp
theorem ScrAt.sql {K : PySem.W.Frag} {H : Hp} {a : Addr} {ns : List Int} (h : ScrAt K H a ns) : SqL K H a (ns.map V.int) := by
  rcases h with ⟨o, h⟩ | h
  · exact .inl (.inr ⟨o, h⟩)
  · exact .inr h
theorem rps_ints (K : Fw) (W : Wd) (H : Hp) : ∀ ns : List Int, Rps K W H (ns.map V.int) (ns.map D.int)
  | [] => .nil
  | n :: ns => .cons (.int n) (rps_ints K W H ns)
theorem slice_d {K : Fw} : SlD K (rSlice K) D.slice := fun W H v d1 d lo hi Q wf r1 h k => by
  have newl : ∀ {a : Addr} {vs : List V} {ds : List D}, SqL K H a vs → vs.length ≤ sizeLine → Rps K W H vs ds → d = .lst (cutD ds lo hi) → rSlL K (.ref a) lo hi H Q := fun {a vs ds} hs hz rs e => by
    subst e
    refine ⟨a, vs, rfl, hs, fun p hp => ?_⟩
    have sm : Same H (upd H p (.lst (cutV vs lo hi))) := upd_Same hp
    exact k _ _ sm (.lst (fun m => by obtain ⟨o, h⟩ := wf.dom _ m; rw [hp] at h; cases h) upd_same (Nat.le_trans (cutV_length _ _ _) hz) ((rs.cut lo hi).stepE (.same sm)))
  cases r1 with
  | of r1 =>
    cases r1 with
    | lst n q z rs => exact .inl (newl (.of q) z rs (Option.some.inj h).symm)
    | scr z q => exact .inl (newl q.sql (by rw [List.length_map]; exact z) (rps_ints K W H _) (Option.some.inj h).symm)
    | @tup aa vv dd q z rs =>
      cases h
      refine .inr (.inl ⟨_, _, rfl, q.sqt, fun hw => ?_, fun hw p o hp ho => ?_⟩)
      · refine k _ H (.refl _) (.tup q z ?_)
        have e := rs.cut lo hi
        rw [cutV_whole hw] at e
        exact e
      · have sm : Same H (upd H p (.frz o (.tup (cutV vv lo hi)))) := upd_Same hp
        exact k _ _ sm (.tup (.new ho) (Nat.le_trans (cutV_length _ _ _) z) ((rs.cut lo hi).stepE (.same sm)))
    | str x =>
      simp only [D.slice] at h
      by_cases z : x.length ≤ sizeLine
      · rw [if_pos z] at h
        cases h
        exact .inr (.inr ⟨x, rfl, z, k _ H (.refl _) (.str _)⟩)
      · rw [if_neg z] at h; cases h
    | _ => cases h
  | lst n q z rs => exact .inl (newl (.of q) z rs (Option.some.inj h).symm)
  | dct => cases h
end
end DL

set_option Elab.async false
set_option linter.all false
set_option maxRecDepth 100000
namespace DL
open PySem PySem.Spec PyProof.Rows L2

/-! ## 4. what is walked -/
structure LaterE (W : Wd) (H : Hp) (W2 : Wd) (H2 : Hp) : Prop where
  th : W2.θ = W.θ
  keep : ∀ b o, H b = some o → b ∉ W.θ → ¬ W.M0 b → H2 b = some o
  nm : ∀ b o, H b = some o → ¬ Mu W b → ¬ Mu W2 b
  tups : ∀ b xs, H b = some (.tup xs) → H2 b = some (.tup xs)
  frzs : ∀ b o u, H b = some (.frz o u) → H2 b = some (.frz o u)
theorem LaterE.kps {K : Fw} {W W2 : Wd} {H H2 : Hp} (l : LaterE W H W2 H2) : Kps K W H W2 H2 where
  th := fun _ _ h => by rw [l.th]; exact h
  keep := fun b o h n => ⟨l.keep b o h (fun z => n (.inr (.inl z))) (fun z => n (.inl z)), l.nm b o h n⟩
  tups := l.tups
  frzs := l.frzs
theorem StepE.later {W : Wd} {H H2 : Hp} (s : StepE W.θ H H2) : LaterE W H W H2 := ⟨rfl, fun b o h n _ => s.keep b o h n, fun _ _ _ n => n, s.tups, s.frzs⟩
/-- fl: also where the frame's own objects change -/
def Later (fl : Bool) (K : Fw) (W : Wd) (H : Hp) (W2 : Wd) (H2 : Hp) : Prop := if fl = true then Kps K W H W2 H2 else LaterE W H W2 H2
theorem Later.kps {fl : Bool} {K : Fw} {W W2 : Wd} {H H2 : Hp} (l : Later fl K W H W2 H2) : Kps K W H W2 H2 := by
  cases fl with
  | true => exact l
  | false => exact LaterE.kps l
def Walk (K : Fw) (W : Wd) (fl : Bool) (H : Hp) (J : It) (xs : List D) : Prop :=
  ∀ W2 H2, Later fl K W H W2 H2 → (∀ (i : Nat) (d : D), xs[i]? = some d → J.go i H2 ∧ ∀ v H3, J.yld i H2 v H3 → Same H2 H3 ∧ Rp K W2 H3 v d) ∧ J.stop xs.length H2
def tI (K : Fw) (fl : Bool) (f : Ars) : TI := fun σ H R => ∃ (W : Wd) (ρ : Rho) (S : Sto) (xs : List D) (S' : Sto), Rel K W H σ ρ S ∧ f ρ S = some (xs, S') ∧
  ∀ J H', StepE W.θ H H' → StOk K W H' S' → xs.length ≤ sizeLine → Walk K W fl H' J xs → R J H'
abbrev IT (fl : Bool) (X : Cx) (tg iter : Expr) (f : Ars) : Prop := PI X tg iter (tI (FX X) fl f)
theorem pi_imp {X : Cx} {tg iter : Expr} {t t' : TI} (h : PI X tg iter t) (i : ∀ σ H R, t' σ H R → t σ H R) : PI X tg iter t' := ⟨fun pins s σ H R I w => h.run pins s σ H R I (i σ H R w)⟩
theorem pi_or {X : Cx} {tg iter : Expr} {t t' : TI} (h : PI X tg iter t) (h' : PI X tg iter t') : PI X tg iter (fun σ H R => t σ H R ∨ t' σ H R) :=
  ⟨fun pins s σ H R I w => w.elim (fun w => h.run pins s σ H R I w) fun w => h'.run pins s σ H R I w⟩

section
variable {K : Fw} {W : Wd} {H : Hp}
theorem Rps.getLt {vs : List V} {ds : List D} {i : Nat} (r : Rps K W H vs ds) (h : i < vs.length) : i < ds.length := by rw [← r.length]; exact h
theorem walk_list {a : Addr} {vs : List V} {ds : List D} (h : H a = some (.lst vs)) (n : ¬ Mu W a) (r : Rps K W H vs ds) : Walk K W true H (Itl K a) ds := fun W2 H2 l => by
  have e2 := (l.kps.keep a _ h n).1
  refine ⟨fun i d hd => ?_, ⟨vs, .of e2, by rw [r.length]; exact Nat.le_refl _⟩⟩
  obtain ⟨v, hv, rv⟩ := r.get hd
  refine ⟨⟨vs, v, .of e2, hv⟩, fun x H3 y => ?_⟩
  obtain ⟨rfl, y⟩ := y
  have q := y vs (.of e2)
  rw [hv] at q
  cases q
  exact ⟨.refl _, rv.keeps l.kps⟩
theorem walk_own {a : Addr} {vs : List V} {ds : List D} (h : H a = some (.lst vs)) (n : a ∉ W.θ ∧ ¬ W.M0 a) (r : Rps K W H vs ds) : Walk K W false H (Itl K a) ds := fun W2 H2 l => by
  have e2 : H2 a = some (.lst vs) := LaterE.keep l a _ h n.1 n.2
  refine ⟨fun i d hd => ?_, ⟨vs, .of e2, by rw [r.length]; exact Nat.le_refl _⟩⟩
  obtain ⟨v, hv, rv⟩ := r.get hd
  refine ⟨⟨vs, v, .of e2, hv⟩, fun x H3 y => ?_⟩
  obtain ⟨rfl, y⟩ := y
  have q := y vs (.of e2)
  rw [hv] at q
  cases q
  exact ⟨.refl _, rv.keeps l.kps⟩
theorem walk_tup {fl : Bool} {a : Addr} {vs : List V} {ds : List D} (h : TupAt K H a vs) (r : Rps K W H vs ds) : Walk K W fl H (Itt K a) ds := fun W2 H2 l => by
  have e2 : SqT K H2 a vs := (TupAt.step l.kps.frzs h).sqt
  refine ⟨fun i d hd => ?_, ⟨vs, e2, by rw [r.length]; exact Nat.le_refl _⟩⟩
  obtain ⟨v, hv, rv⟩ := r.get hd
  refine ⟨⟨vs, v, e2, hv⟩, fun x H3 y => ?_⟩
  obtain ⟨rfl, y⟩ := y
  have q := y vs e2
  rw [hv] at q
  cases q
  exact ⟨.refl _, rv.keeps l.kps⟩
theorem Walk.less {fl : Bool} {J : It} {xs : List D} (w : Walk K W true H J xs) : Walk K W fl H J xs := fun W2 H2 l => w W2 H2 (show Later true K W H W2 H2 from l.kps)
end

/-! ### lists and tuples -/
def D.elems : D → Option (List D)
  | .tup xs => some xs
  | .lst xs => some xs
  | _ => none
def iSeq (f : Ex) : Ars := fun ρ S => (f ρ S).bind fun p => p.1.elems.map fun xs => (xs, p.2)
theorem iSeq_split {f : Ex} {ρ : Rho} {S S' : Sto} {xs : List D} (h : iSeq f ρ S = some (xs, S')) : ∃ d, f ρ S = some (d, S') ∧ d.elems = some xs := by
  unfold iSeq at h
  cases e1 : f ρ S with
  | none => rw [e1] at h; cases h
  | some p =>
    rw [e1, Option.bind_some] at h
    obtain ⟨z, hz, he⟩ := Option.map_eq_some_iff.mp h
    cases he
    exact ⟨p.1, rfl, hz⟩
section
variable {X : Cx} {tg e e2 : Expr} {f : Ex} {fs : Ars} {pos : Pos}
theorem it_seq (h : E X e f) : IT true X tg e (iSeq f) := pi_imp (pi_or (pi_list h) (pi_tup h)) fun σ H R ⟨W, ρ, S, xs, S', rl, hf, k⟩ => by
  obtain ⟨d, e1, e2⟩ := iSeq_split hf
  cases d with
  | lst ys =>
    cases e2
    refine .inl ⟨W, ρ, S, _, _, rl, e1, fun v H1 s1 st1 r1 => ?_⟩
    cases r1 with
    | lst n q z rs => exact ⟨_, rfl, ⟨_, .of q⟩, k _ H1 s1 st1 (by rw [← rs.length]; exact z) (walk_list q n rs)⟩
  | tup ys =>
    cases e2
    refine .inr ⟨W, ρ, S, _, _, rl, e1, fun v H1 s1 st1 r1 => ?_⟩
    cases r1 with
    | tup q z rs => exact ⟨_, rfl, ⟨_, q.sqt⟩, k _ H1 s1 st1 (by rw [← rs.length]; exact z) (walk_tup q rs)⟩
  | _ => cases e2
theorem ib_seq (h : B X e f) : IT false X tg e (iSeq f) := pi_imp (pi_or (pi_list h) (pi_tup h)) fun σ H R ⟨W, ρ, S, xs, S', rl, hf, k⟩ => by
  obtain ⟨d, e1, e2⟩ := iSeq_split hf
  cases d with
  | lst ys =>
    cases e2
    refine .inl ⟨W, ρ, S, _, _, rl, e1, fun v H1 s1 st1 r1 => ?_⟩
    cases r1 with
    | of r1 =>
      cases r1 with
      | lst n q z rs => exact ⟨_, rfl, ⟨_, .of q⟩, k _ H1 s1 st1 (by rw [← rs.length]; exact z) (walk_list q n rs).less⟩
    | lst n q z rs => exact ⟨_, rfl, ⟨_, .of q⟩, k _ H1 s1 st1 (by rw [← rs.length]; exact z) (walk_own q n rs)⟩
  | tup ys =>
    cases e2
    refine .inr ⟨W, ρ, S, _, _, rl, e1, fun v H1 s1 st1 r1 => ?_⟩
    cases r1 with
    | of r1 =>
      cases r1 with
      | tup q z rs => exact ⟨_, rfl, ⟨_, q.sqt⟩, k _ H1 s1 st1 (by rw [← rs.length]; exact z) (walk_tup q rs)⟩
  | _ => cases e2
theorem it_less {fl : Bool} (h : IT true X tg e fs) : IT fl X tg e fs := pi_imp h fun σ H R ⟨W, ρ, S, xs, S', rl, hf, k⟩ => ⟨W, ρ, S, xs, S', rl, hf, fun J H' s st z w => k J H' s st z w.less⟩
/-! ### ranges -/
def rangeD (lo : Int) (n : Nat) : List D := (List.range n).map fun (i : Nat) => D.int (lo + (i : Int))
def rangeOf : List D → Option (List D)
  | [.int j] => if -(2 ^ 62) ≤ j ∧ j < 2 ^ 62 ∧ j.toNat ≤ sizeLine then some (rangeD 0 j.toNat) else none
  | [.int i, .int j] => if (-(2 ^ 62) ≤ i ∧ i < 2 ^ 62 ∧ -(2 ^ 62) ≤ j ∧ j < 2 ^ 62) ∧ (j - i).toNat ≤ sizeLine then some (rangeD i (j - i).toNat) else none
  | _ => none
def iRng (fs : Ars) : Ars := fun ρ S => (fs ρ S).bind fun p => (rangeOf p.1).map fun xs => (xs, p.2)
theorem walk_range {K : Fw} {W : Wd} {H : Hp} {fl : Bool} (lo : Int) (n : Nat) : Walk K W fl H (Itr lo n) (rangeD lo n) := fun W2 H2 l => by
  refine ⟨fun i d hd => ?_, by show n ≤ (rangeD lo n).length; simp [rangeD]⟩
  unfold rangeD at hd
  rw [List.getElem?_map] at hd
  by_cases h : i < n
  · rw [List.getElem?_range h] at hd
    cases hd
    refine ⟨h, fun x H3 y => ?_⟩
    obtain ⟨rfl, rfl⟩ := y
    exact ⟨.refl _, .int _⟩
  · rw [List.getElem?_eq_none (by simpa using h)] at hd
    cases hd
theorem rangeD_length (lo : Int) (n : Nat) : (rangeD lo n).length = n := by simp [rangeD]
theorem iRng_split {ρ : Rho} {S S' : Sto} {xs : List D} (h : iRng fs ρ S = some (xs, S')) : ∃ ds, fs ρ S = some (ds, S') ∧ rangeOf ds = some xs := by
  unfold iRng at h
  cases e1 : fs ρ S with
  | none => rw [e1] at h; cases h
  | some p =>
    rw [e1, Option.bind_some] at h
    obtain ⟨z, hz, he⟩ := Option.map_eq_some_iff.mp h
    cases he
    exact ⟨p.1, rfl, hz⟩
theorem rp_int {K : Fw} {W : Wd} {H : Hp} {v : V} {i : Int} (r : Rp K W H v (.int i)) : v = .int i := by cases r; rfl
theorem rq_int {K : Fw} {W : Wd} {H : Hp} {v : V} {i : Int} (r : Rq K W H v (.int i)) : v = .int i := by
  cases r with
  | of r => exact rp_int r
theorem it_range1 {fl : Bool} (h : PI X tg e (iRng1 (tAQ (FX X) fs))) (one : ∀ (ρ : Rho) (S S' : Sto) (ds : List D), fs ρ S = some (ds, S') → ds.length = 1) : IT fl X tg e (iRng fs) := pi_imp h fun σ H R ⟨W, ρ, S, xs, S', rl, hf, k⟩ => by
  obtain ⟨ds, e1, e2⟩ := iRng_split hf
  have l1 := one ρ S S' ds e1
  match ds, l1 with
  | [d], _ =>
    cases d with
    | int j =>
      simp only [rangeOf] at e2
      by_cases c : -(2 ^ 62) ≤ j ∧ j < 2 ^ 62 ∧ j.toNat ≤ sizeLine
      · rw [if_pos c] at e2
        cases e2
        refine ⟨W, ρ, S, _, _, rl, e1, fun vs H1 s1 st1 r1 => ?_⟩
        cases r1 with
        | cons a b =>
          cases b
          exact ⟨j, by rw [rq_int a], c.1, c.2.1, k _ H1 s1 st1 (by rw [rangeD_length]; exact c.2.2) (walk_range 0 j.toNat)⟩
      · rw [if_neg c] at e2; cases e2
    | _ => cases e2
theorem it_range2 {fl : Bool} (h : PI X tg e (iRng2 (tAQ (FX X) fs))) (two : ∀ (ρ : Rho) (S S' : Sto) (ds : List D), fs ρ S = some (ds, S') → ds.length = 2) : IT fl X tg e (iRng fs) := pi_imp h fun σ H R ⟨W, ρ, S, xs, S', rl, hf, k⟩ => by
  obtain ⟨ds, e1, e2⟩ := iRng_split hf
  have l1 := two ρ S S' ds e1
  match ds, l1 with
  | [d, d'], _ =>
    cases d with
    | int i =>
      cases d' with
      | int j =>
        simp only [rangeOf] at e2
        by_cases c : (-(2 ^ 62) ≤ i ∧ i < 2 ^ 62 ∧ -(2 ^ 62) ≤ j ∧ j < 2 ^ 62) ∧ (j - i).toNat ≤ sizeLine
        · rw [if_pos c] at e2
          cases e2
          refine ⟨W, ρ, S, _, _, rl, e1, fun vs H1 s1 st1 r1 => ?_⟩
          cases r1 with
          | cons a b =>
            cases b with
            | cons a' b =>
              cases b
              exact ⟨i, j, by rw [rq_int a, rq_int a'], c.1, k _ H1 s1 st1 (by rw [rangeD_length]; exact c.2) (walk_range i _)⟩
        · rw [if_neg c] at e2; cases e2
      | _ => cases e2
    | _ => cases e2
theorem aCons_len {n : Nat} (h : ∀ (ρ : Rho) (S S' : Sto) (ds : List D), fs ρ S = some (ds, S') → ds.length = n) : ∀ (ρ : Rho) (S S' : Sto) (ds : List D), aCons f fs ρ S = some (ds, S') → ds.length = n + 1 := fun ρ S S' ds e => by
  obtain ⟨p, q, e1, e2, rfl, rfl⟩ := aCons_split e
  have := h _ _ _ _ e2
  simp [this]
theorem aNil_len : ∀ (ρ : Rho) (S S' : Sto) (ds : List D), aNil ρ S = some (ds, S') → ds.length = 0 := fun ρ S S' ds e => by cases e; rfl

/-! ### zip of two lists, of two tuples -/
def zipOf : List D → Option (List D)
  | [.lst xs, .lst ys] => some (List.zipWith (fun x y => .tup [x, y]) xs ys)
  | [.tup xs, .tup ys] => some (List.zipWith (fun x y => .tup [x, y]) xs ys)
  | _ => none
def iZp (fs : Ars) : Ars := fun ρ S => (fs ρ S).bind fun p => (zipOf p.1).map fun xs => (xs, p.2)
theorem iZp_split {ρ : Rho} {S S' : Sto} {xs : List D} (h : iZp fs ρ S = some (xs, S')) : ∃ ds, fs ρ S = some (ds, S') ∧ zipOf ds = some xs := by
  unfold iZp at h
  cases e1 : fs ρ S with
  | none => rw [e1] at h; cases h
  | some p =>
    rw [e1, Option.bind_some] at h
    obtain ⟨z, hz, he⟩ := Option.map_eq_some_iff.mp h
    cases he
    exact ⟨p.1, rfl, hz⟩
theorem zipWith_some {α β γ : Type} {g : α → β → γ} {xs : List α} {ys : List β} {i : Nat} {z : γ} (h : (List.zipWith g xs ys)[i]? = some z) : ∃ x y, xs[i]? = some x ∧ ys[i]? = some y ∧ z = g x y := by
  rw [List.getElem?_zipWith] at h
  split at h
  · rename_i x y hx hy
    cases h
    exact ⟨x, y, hx, hy, rfl⟩
  · cases h
theorem walk_zipT {K : Fw} {W : Wd} {H : Hp} {fl : Bool} {a b : Addr} {vs ws : List V} {xs ys : List D} (ha : TupAt K H a vs) (hb : TupAt K H b ws) (ra : Rps K W H vs xs) (rb : Rps K W H ws ys) : Walk K W fl H (ItzTZ K a b) (List.zipWith (fun x y => .tup [x, y]) xs ys) := fun W2 H2 l => by
  have ea : SqT K H2 a vs := (TupAt.step l.kps.frzs ha).sqt
  have eb : SqT K H2 b ws := (TupAt.step l.kps.frzs hb).sqt
  refine ⟨fun i d hd => ?_, ⟨vs, ws, ea, eb, ?_⟩⟩
  · obtain ⟨x, y, hx, hy, rfl⟩ := zipWith_some hd
    obtain ⟨v, hv, rv⟩ := ra.get hx
    obtain ⟨w, hw, rw'⟩ := rb.get hy
    refine ⟨⟨vs, ws, v, w, ea, eb, hv, hw⟩, fun z H3 yy => ?_⟩
    obtain ⟨T, oo, x', y', rfl, hT, hoo, rfl, q1, q2⟩ := yy
    have q1 := q1 vs ea
    have q2 := q2 ws eb
    rw [hv] at q1
    rw [hw] at q2
    cases q1
    cases q2
    have sm : Same H2 (upd H2 T (.frz oo (.tup [v, w]))) := upd_Same hT
    have k2 : Kps K W2 H2 W2 (upd H2 T (.frz oo (.tup [v, w]))) := (StepE.same (θ := W2.θ) sm).keeps
    exact ⟨sm, .tup (.new hoo) (by show 2 ≤ sizeLine; decide) (.cons ((rv.keeps l.kps).keeps k2) (.cons ((rw'.keeps l.kps).keeps k2) .nil))⟩
  · rw [List.length_zipWith, ra.length, rb.length]
    omega
theorem walk_zipL {K : Fw} {W : Wd} {H : Hp} {a b : Addr} {vs ws : List V} {xs ys : List D} (na : a ∉ W.θ ∧ ¬ W.M0 a) (nb : b ∉ W.θ ∧ ¬ W.M0 b) (ha : H a = some (.lst vs)) (hb : H b = some (.lst ws)) (ra : Rps K W H vs xs) (rb : Rps K W H ws ys) : Walk K W false H (ItzLZ K a b) (List.zipWith (fun x y => .tup [x, y]) xs ys) := fun W2 H2 l => by
  have ea : SqL K H2 a vs := .of (LaterE.keep l a _ ha na.1 na.2)
  have eb : SqL K H2 b ws := .of (LaterE.keep l b _ hb nb.1 nb.2)
  refine ⟨fun i d hd => ?_, ⟨vs, ws, ea, eb, ?_⟩⟩
  · obtain ⟨x, y, hx, hy, rfl⟩ := zipWith_some hd
    obtain ⟨v, hv, rv⟩ := ra.get hx
    obtain ⟨w, hw, rw'⟩ := rb.get hy
    refine ⟨⟨vs, ws, v, w, ea, eb, hv, hw⟩, fun z H3 yy => ?_⟩
    obtain ⟨T, oo, x', y', rfl, hT, hoo, rfl, q1, q2⟩ := yy
    have q1 := q1 vs ea
    have q2 := q2 ws eb
    rw [hv] at q1
    rw [hw] at q2
    cases q1
    cases q2
    have sm : Same H2 (upd H2 T (.frz oo (.tup [v, w]))) := upd_Same hT
    have k2 : Kps K W2 H2 W2 (upd H2 T (.frz oo (.tup [v, w]))) := (StepE.same (θ := W2.θ) sm).keeps
    exact ⟨sm, .tup (.new hoo) (by show 2 ≤ sizeLine; decide) (.cons ((rv.keeps l.kps).keeps k2) (.cons ((rw'.keeps l.kps).keeps k2) .nil))⟩
  · rw [List.length_zipWith, ra.length, rb.length]
    omega
theorem walk_zipLs {K : Fw} {W : Wd} {H : Hp} {a b : Addr} {vs ws : List V} {xs ys : List D} (na : ¬ Mu W a) (nb : ¬ Mu W b) (ha : H a = some (.lst vs)) (hb : H b = some (.lst ws)) (ra : Rps K W H vs xs) (rb : Rps K W H ws ys) : Walk K W true H (ItzLZ K a b) (List.zipWith (fun x y => .tup [x, y]) xs ys) := fun W2 H2 l => by
  have ea : SqL K H2 a vs := .of (l.kps.keep a _ ha na).1
  have eb : SqL K H2 b ws := .of (l.kps.keep b _ hb nb).1
  refine ⟨fun i d hd => ?_, ⟨vs, ws, ea, eb, ?_⟩⟩
  · obtain ⟨x, y, hx, hy, rfl⟩ := zipWith_some hd
    obtain ⟨v, hv, rv⟩ := ra.get hx
    obtain ⟨w, hw, rw'⟩ := rb.get hy
    refine ⟨⟨vs, ws, v, w, ea, eb, hv, hw⟩, fun z H3 yy => ?_⟩
    obtain ⟨T, oo, x', y', rfl, hT, hoo, rfl, q1, q2⟩ := yy
    have q1 := q1 vs ea
    have q2 := q2 ws eb
    rw [hv] at q1
    rw [hw] at q2
    cases q1
    cases q2
    have sm : Same H2 (upd H2 T (.frz oo (.tup [v, w]))) := upd_Same hT
    have k2 : Kps K W2 H2 W2 (upd H2 T (.frz oo (.tup [v, w]))) := (StepE.same (θ := W2.θ) sm).keeps
    exact ⟨sm, .tup (.new hoo) (by show 2 ≤ sizeLine; decide) (.cons ((rv.keeps l.kps).keeps k2) (.cons ((rw'.keeps l.kps).keeps k2) .nil))⟩
  · rw [List.length_zipWith, ra.length, rb.length]
    omega
theorem rq_lst {K : Fw} {W : Wd} {H : Hp} {v : V} {xs : List D} (r : Rq K W H v (.lst xs)) (wf : WfW W H) : ∃ a vs, v = .ref a ∧ (a ∉ W.θ ∧ ¬ W.M0 a) ∧ H a = some (.lst vs) ∧ vs.length ≤ sizeLine ∧ Rps K W H vs xs := by
  cases r with
  | of r =>
    cases r with
    | lst n q z rs => exact ⟨_, _, rfl, ⟨fun m => n (.inr (.inl m)), fun m => n (.inl m)⟩, q, z, rs⟩
  | lst n q z rs => exact ⟨_, _, rfl, n, q, z, rs⟩
theorem rp_lst {K : Fw} {W : Wd} {H : Hp} {v : V} {xs : List D} (r : Rp K W H v (.lst xs)) : ∃ a vs, v = .ref a ∧ ¬ Mu W a ∧ H a = some (.lst vs) ∧ vs.length ≤ sizeLine ∧ Rps K W H vs xs := by
  cases r with
  | lst n q z rs => exact ⟨_, _, rfl, n, q, z, rs⟩
theorem rq_tup {K : Fw} {W : Wd} {H : Hp} {v : V} {xs : List D} (r : Rq K W H v (.tup xs)) : ∃ a vs, v = .ref a ∧ TupAt K H a vs ∧ vs.length ≤ sizeLine ∧ Rps K W H vs xs := by
  cases r with
  | of r =>
    cases r with
    | tup q z rs => exact ⟨_, _, rfl, q, z, rs⟩
theorem rp_tup {K : Fw} {W : Wd} {H : Hp} {v : V} {xs : List D} (r : Rp K W H v (.tup xs)) : ∃ a vs, v = .ref a ∧ TupAt K H a vs ∧ vs.length ≤ sizeLine ∧ Rps K W H vs xs := rq_tup (.of r)
theorem ib_zip (h : PI X tg e (iZipZ X.K (tAQ (FX X) fs))) : IT false X tg e (iZp fs) := pi_imp h fun σ H R ⟨W, ρ, S, xs, S', rl, hf, k⟩ => by
  obtain ⟨ds, e1, e2⟩ := iZp_split hf
  refine ⟨W, ρ, S, ds, S', rl, e1, fun vs H1 s1 st1 r1 => ?_⟩
  unfold zipOf at e2
  split at e2
  · cases e2
    cases r1 with
    | cons a b =>
      cases b with
      | cons b c =>
        cases c
        obtain ⟨a1, v1, rfl, n1, q1, z1, r1⟩ := rq_lst a (rl.wf.stepE s1)
        obtain ⟨a2, v2, rfl, n2, q2, z2, r2⟩ := rq_lst b (rl.wf.stepE s1)
        refine ⟨a1, a2, v1, v2, rfl, .inl ⟨.of q1, .of q2, k _ H1 s1 st1 ?_ (walk_zipL n1 n2 q1 q2 r1 r2)⟩⟩
        rw [List.length_zipWith, ← r1.length]
        exact Nat.le_trans (Nat.min_le_left _ _) z1
  · cases e2
    cases r1 with
    | cons a b =>
      cases b with
      | cons b c =>
        cases c
        obtain ⟨a1, v1, rfl, q1, z1, r1⟩ := rq_tup a
        obtain ⟨a2, v2, rfl, q2, z2, r2⟩ := rq_tup b
        refine ⟨a1, a2, v1, v2, rfl, .inr ⟨q1.sqt, q2.sqt, k _ H1 s1 st1 ?_ (walk_zipT q1 q2 r1 r2)⟩⟩
        rw [List.length_zipWith, ← r1.length]
        exact Nat.le_trans (Nat.min_le_left _ _) z1
  · cases e2
theorem it_zip (h : PI X tg e (iZipZ X.K (tA (FX X) fs))) : IT true X tg e (iZp fs) := pi_imp h fun σ H R ⟨W, ρ, S, xs, S', rl, hf, k⟩ => by
  obtain ⟨ds, e1, e2⟩ := iZp_split hf
  refine ⟨W, ρ, S, ds, S', rl, e1, fun vs H1 s1 st1 r1 => ?_⟩
  unfold zipOf at e2
  split at e2
  · cases e2
    cases r1 with
    | cons a b =>
      cases b with
      | cons b c =>
        cases c
        obtain ⟨a1, v1, rfl, n1, q1, z1, r1⟩ := rp_lst a
        obtain ⟨a2, v2, rfl, n2, q2, z2, r2⟩ := rp_lst b
        refine ⟨a1, a2, v1, v2, rfl, .inl ⟨.of q1, .of q2, k _ H1 s1 st1 ?_ (walk_zipLs n1 n2 q1 q2 r1 r2)⟩⟩
        rw [List.length_zipWith, ← r1.length]
        exact Nat.le_trans (Nat.min_le_left _ _) z1
  · cases e2
    cases r1 with
    | cons a b =>
      cases b with
      | cons b c =>
        cases c
        obtain ⟨a1, v1, rfl, q1, z1, r1⟩ := rp_tup a
        obtain ⟨a2, v2, rfl, q2, z2, r2⟩ := rp_tup b
        refine ⟨a1, a2, v1, v2, rfl, .inr ⟨q1.sqt, q2.sqt, k _ H1 s1 st1 ?_ (walk_zipT q1 q2 r1 r2)⟩⟩
        rw [List.length_zipWith, ← r1.length]
        exact Nat.le_trans (Nat.min_le_left _ _) z1
  · cases e2
end

/-! ## 5. targets -/
abbrev Tg := D → Rho → Option Rho
def tG (K : Fw) (vs : List Nat) (g : Tg) : TG := fun v σ H Q => ∃ (W : Wd) (ρ : Rho) (S : Sto) (d : D) (ρ' : Rho), Rel K W H σ ρ S ∧ Rp K W H v d ∧ g d ρ = some ρ' ∧ ∀ σ', Rel K W H σ' ρ' S → wipe σ' vs = wipe σ vs → Q σ' H
abbrev Gs := List D → Rho → Option Rho
def tGs (K : Fw) (vs : List Nat) (g : Gs) : TGs := fun v σ H Q => ∃ (W : Wd) (ρ : Rho) (S : Sto) (d : List D) (ρ' : Rho), Rel K W H σ ρ S ∧ Rps K W H v d ∧ g d ρ = some ρ' ∧ ∀ σ', Rel K W H σ' ρ' S → wipe σ' vs = wipe σ vs → Q σ' H
abbrev G (X : Cx) (e : Expr) (vs : List Nat) (g : Tg) : Prop := PG X e (tG (FX X) vs g)
abbrev GS (X : Cx) (e : List Expr) (vs : List Nat) (g : Gs) : Prop := PGs X e (tGs (FX X) vs g)
theorem pg_imp {X : Cx} {e : Expr} {t t' : TG} (h : PG X e t) (i : ∀ v σ H Q, t' v σ H Q → t v σ H Q) : PG X e t' := ⟨fun pins s σ H v u Q I r w => h.run pins s σ H v u Q I r (i v σ H Q w)⟩
theorem pgs_imp {X : Cx} {e : List Expr} {t t' : TGs} (h : PGs X e t) (i : ∀ v σ H Q, t' v σ H Q → t v σ H Q) : PGs X e t' := ⟨fun pins s σ H v u Q I r w => h.run pins s σ H v u Q I r (i v σ H Q w)⟩
theorem wipe_get {σ : L2.St} {i : Nat} : ∀ {vs : List Nat}, i ∈ vs → (wipe σ vs)[i]? = if i < σ.length then some none else none
  | [], h => by simp at h
  | v :: vs, h => by
    unfold wipe
    by_cases e : v = i
    · subst e
      by_cases hl : v < σ.length
      · rw [List.getElem?_set_self (by rw [wipe_length]; exact hl), if_pos hl]
      · rw [if_neg hl, List.getElem?_eq_none (by rw [List.length_set, wipe_length]; omega)]
    · rw [List.getElem?_set_ne e]
      exact wipe_get ((List.mem_cons.mp h).elim (fun z => absurd z.symm e) id)
theorem wipe_set {σ : L2.St} {i : Nat} {x : Option V} {vs : List Nat} (h : i ∈ vs) : wipe (σ.set i x) vs = wipe σ vs := by
  refine List.ext_getElem? fun j => ?_
  by_cases hj : j ∈ vs
  · rw [wipe_get hj, wipe_get hj, List.length_set]
  · rw [wipe_out hj, wipe_out hj, List.getElem?_set_ne (fun e => hj (by rw [← e]; exact h))]
theorem Rel.setSh {K : Fw} {W : Wd} {H : Hp} {σ : L2.St} {ρ : Rho} {S : Sto} {i : Nat} {v : V} {d : D} (r : Rel K W H σ ρ S) (rv : Rp K W H v d) : Rel K W H (σ.set i (some v)) (ρ.set i (.sh d)) S := by
  refine ⟨by rw [List.length_set, List.length_set]; exact r.len, fun j s e => ?_, r.st, r.wf⟩
  by_cases hj : i = j
  · subst hj
    by_cases hl : i < ρ.length
    · rw [List.getElem?_set_self hl] at e
      cases e
      exact ⟨v, by rw [List.getElem?_set_self (by rw [r.len]; exact hl)], rv⟩
    · rw [List.getElem?_eq_none (by rw [List.length_set]; omega)] at e
      cases e
  · rw [List.getElem?_set_ne hj] at e
    have q := r.sl j s e
    cases s with
    | un => trivial
    | sh d' => obtain ⟨v', h1, h2⟩ := q; exact ⟨v', by rw [List.getElem?_set_ne hj]; exact h1, h2⟩
    | ow c => obtain ⟨a, h1, h2, h3⟩ := q; exact ⟨a, by rw [List.getElem?_set_ne hj]; exact h1, h2, h3⟩
def gNm (i : Nat) : Tg := fun d ρ => some (ρ.set i (.sh d))
def gsNil : Gs := fun ds ρ => if ds.isEmpty then some ρ else none
def gsCons (g : Tg) (gs : Gs) : Gs := fun ds ρ => match ds with
  | d :: r => (g d ρ).bind fun ρ' => gs r ρ'
  | [] => none
/-- (a, b, ..) from a tuple -/
def gTp (n : Nat) (gs : Gs) : Tg := fun d ρ => match d with
  | .tup xs => if xs.length = n then gs xs ρ else none
  | _ => none
section
variable {X : Cx} {e : Expr} {es : List Expr} {g : Tg} {gs : Gs} {vs : List Nat} {pos : Pos}
theorem g_name {i : Nat} (h : PG X e (gName i)) (hv : i ∈ vs) : G X e vs (gNm i) := pg_imp h fun v σ H Q ⟨W, ρ, S, d, ρ', rl, rv, hg, k⟩ => by
  cases hg
  exact k _ (rl.setSh rv) (wipe_set hv)
theorem gs_nil : GS X [] vs gsNil := pgs_imp pgs_nil fun v σ H Q ⟨W, ρ, S, d, ρ', rl, rv, hg, k⟩ => by
  cases rv with
  | nil => cases hg; exact ⟨rfl, k _ rl rfl⟩
  | cons _ _ => cases hg
theorem gs_cons (h1 : G X e vs g) (h2 : GS X es vs gs) (hs : (assignEach (e :: es) X.env).map (·.2) = assign e X.env :: (assignEach es X.env).map (·.2) := by rfl) : GS X (e :: es) vs (gsCons g gs) :=
  pgs_imp (pgs_cons h1 h2 hs) fun v σ H Q ⟨W, ρ, S, d, ρ', rl, rv, hg, k⟩ => by
    cases rv with
    | nil => cases hg
    | @cons v1 d1 vr dr a b =>
      unfold gsCons at hg
      cases e1 : g d1 ρ with
      | none => simp only [e1] at hg; cases hg
      | some ρ1 =>
        simp only [e1, Option.bind_some] at hg
        exact ⟨v1, vr, rfl, W, ρ, S, d1, ρ1, rl, a, e1, fun σ1 rl1 w1 => ⟨W, ρ1, S, dr, ρ', rl1, b, hg, fun σ2 rl2 w2 => k σ2 rl2 (w2.trans w1)⟩⟩
theorem g_tup {n k : Nat} (hc : X.calm = true) (h : GS X es vs gs) (hn : (assignEach es X.env).length = n := by rfl) (hst : (assignEach es X.env).findIdx? (·.1) = none := by rfl) : G X (.Tuple es k pos) vs (gTp n gs) :=
  pg_imp (pg_tup hc h hn hst) fun v σ H Q ⟨W, ρ, S, d, ρ', rl, rv, hg, k⟩ => by
    unfold gTp at hg
    cases d with
    | tup xs =>
      obtain ⟨a, ws, rfl, q, z, rs⟩ := rp_tup rv
      by_cases c : xs.length = n
      · simp only [if_pos c] at hg
        exact ⟨a, ws, rfl, q.sqt, by rw [rs.length]; exact c, W, ρ, S, xs, ρ', rl, rs, hg, k⟩
      · simp only [if_neg c] at hg; cases hg
    | _ => cases hg
end
end DL

set_option Elab.async false
set_option linter.all false
set_option maxRecDepth 100000
namespace DL
open PySem PySem.Spec PyProof.Rows L2

/-! ## 6. list comprehensions -/
def wipeR (ρ : Rho) : List Nat → Rho
  | [] => ρ
  | v :: vs => (wipeR ρ vs).set v .un
theorem wipeR_length (ρ : Rho) : ∀ vs : List Nat, (wipeR ρ vs).length = ρ.length
  | [] => rfl
  | v :: vs => by unfold wipeR; rw [List.length_set, wipeR_length ρ vs]
theorem wipeR_out {ρ : Rho} {i : Nat} : ∀ {vs : List Nat}, i ∉ vs → (wipeR ρ vs)[i]? = ρ[i]?
  | [], _ => rfl
  | v :: vs, h => by
    have h1 : v ≠ i := fun e => h (by rw [e]; exact List.mem_cons_self)
    have h2 : i ∉ vs := fun m => h (List.mem_cons_of_mem _ m)
    unfold wipeR
    rw [List.getElem?_set_ne h1]
    exact wipeR_out h2
theorem wipeR_get {ρ : Rho} {i : Nat} {s : Sl} : ∀ {vs : List Nat}, i ∈ vs → (wipeR ρ vs)[i]? = some s → s = .un
  | [], h, _ => by simp at h
  | v :: vs, h, e => by
    unfold wipeR at e
    by_cases c : v = i
    · subst c
      by_cases hl : v < (wipeR ρ vs).length
      · rw [List.getElem?_set_self hl] at e; cases e; rfl
      · rw [List.getElem?_eq_none (by rw [List.length_set]; omega)] at e; cases e
    · rw [List.getElem?_set_ne c] at e
      exact wipeR_get ((List.mem_cons.mp h).elim (fun z => absurd z.symm c) id) e
theorem wipe_wipe (σ : L2.St) (vs : List Nat) : wipe (wipe σ vs) vs = wipe σ vs := by
  refine List.ext_getElem? fun j => ?_
  by_cases hj : j ∈ vs
  · rw [wipe_get hj, wipe_get hj, wipe_length]
  · rw [wipe_out hj]

section
variable {K : Fw} {W W' : Wd} {H H' H1 H2 : Hp} {σ : L2.St} {ρ : Rho} {S S' : Sto}
theorem Rel.wiped (r : Rel K W H σ ρ S) (vs : List Nat) : Rel K W H (wipe σ vs) (wipeR ρ vs) S := by
  refine ⟨by rw [wipe_length, wipeR_length]; exact r.len, fun j s e => ?_, r.st, r.wf⟩
  by_cases hj : j ∈ vs
  · rw [wipeR_get hj e]
    trivial
  · rw [wipeR_out hj] at e
    have q := r.sl j s e
    cases s with
    | un => trivial
    | sh d => obtain ⟨v, h1, h2⟩ := q; exact ⟨v, by rw [wipe_out hj]; exact h1, h2⟩
    | ow c => obtain ⟨a, h1, h2, h3⟩ := q; exact ⟨a, by rw [wipe_out hj]; exact h1, h2, h3⟩
/-- the frame in another world, over another heap -/
theorem Rel.mv (r : Rel K W H σ ρ S) (al : ∀ i, W'.α i = W.α i) (k : Kps K W H W' H') (own : ∀ i a, W.α i = some a → H' a = H a) (st : StOk K W' H' S') (wf : WfW W' H') : Rel K W' H' σ ρ S' := by
  refine ⟨r.len, fun i x e => ?_, st, wf⟩
  have q := r.sl i x e
  cases x with
  | un => trivial
  | sh d => obtain ⟨v, h1, h2⟩ := q; exact ⟨v, h1, h2.keeps k⟩
  | ow c =>
    obtain ⟨a, h1, h2, h3⟩ := q
    exact ⟨a, h1, by rw [al]; exact h2, h3.keeps k (own i a h2)⟩
theorem kps_plus {d : Addr} (s : StepE W.θ H1 H2) (n : H1 d = none) : Kps K W H1 (W.plus d) H2 where
  th := fun _ _ h => h
  keep := fun b o h m => ⟨s.keep b o h fun z => m (.inr (.inl z)), fun z => (mu_plus.mp z).elim m fun e => by rw [e, n] at h; cases h⟩
  tups := s.tups
  frzs := s.frzs
theorem later_plus {d : Addr} (s : StepE W.θ H1 H2) (n : H1 d = none) : Later false K W H1 (W.plus d) H2 :=
  (⟨rfl, fun b o h n _ => s.keep b o h n, fun b o h m z => (mu_plus.mp z).elim m fun e => (by rw [e, n] at h; cases h), s.tups, s.frzs⟩ : LaterE W H1 (W.plus d) H2)
theorem wf_plus {d : Addr} (wf : WfW W H2) (e : ∃ o, H2 d = some o) (n : ∀ i, W.α i ≠ some d) : WfW (W.plus d) H2 where
  nd := wf.nd
  inj := wf.inj
  dis := fun i a h => ⟨(wf.dis i a h).1, fun z => z.elim (wf.dis i a h).2 fun e => n i (by rw [← e]; exact h)⟩
  dom := fun a m => (mu_plus.mp m).elim (wf.dom a) fun z => by rw [z]; exact e
theorem fresh_own (wf : WfW W H1) {d : Addr} (n : H1 d = none) (i : Nat) : W.α i ≠ some d := fun e => by
  obtain ⟨o, h⟩ := wf.dom d (.inr (.inr ⟨i, e⟩))
  rw [n] at h; cases h
theorem fresh_th (wf : WfW W H1) {d : Addr} (n : H1 d = none) : d ∉ W.θ := fun m => by
  obtain ⟨o, h⟩ := wf.tdom m
  rw [n] at h; cases h
/-- the frame while a new object at d is filled -/
theorem Rel.plus {d : Addr} (r : Rel K W H1 σ ρ S) (n : H1 d = none) (s : StepE W.θ H1 H2) (e : ∃ o, H2 d = some o) (st : StOk K (W.plus d) H2 S') : Rel K (W.plus d) H2 σ ρ S' := by
  refine r.mv (fun _ => rfl) (kps_plus s n) (fun i a h => ?_) st (wf_plus (r.wf.stepE s) e (fresh_own r.wf n))
  obtain ⟨o, ho⟩ := r.wf.dom a (.inr (.inr ⟨i, h⟩))
  rw [ho]
  exact s.keep a o ho (r.wf.dis i a h).1
/-- the new object grows -/
theorem step_put {d : Addr} {o : HO} (n : H1 d = none) (s : StepE W.θ H1 H2) : StepE W.θ H1 (upd H2 d o) where
  keep := fun b u h m => by rw [upd_ne (ne_of_none h n)]; exact s.keep b u h m
  tups := fun b u h => by rw [upd_ne (ne_of_none h n)]; exact s.tups b u h
  frzs := fun b u w h => by rw [upd_ne (ne_of_none h n)]; exact s.frzs b u w h
  dom := fun b u h => by rw [upd_ne (ne_of_none h n)]; exact s.dom b u h
theorem kps_put {d : Addr} {vs : List V} {o : HO} (h : H2 d = some (.lst vs)) : Kps K (W.plus d) H2 (W.plus d) (upd H2 d o) :=
  Kps.put (mu_plus.mpr (.inr rfl)) (fun xs e => by rw [h] at e; cases e) fun a b e => by rw [h] at e; cases e
theorem st_put {d : Addr} {vs : List V} {o : HO} (h : H2 d = some (.lst vs)) (n : d ∉ W.θ) (st : StOk K (W.plus d) H2 S) : StOk K (W.plus d) (upd H2 d o) S :=
  st.keeps rfl (kps_put h) fun a m => upd_ne fun e => n (by rw [← e]; exact m)
end

/-- the items, one after another -/
def compF (g : Tg) (tt : Tx) (te : Ex) (ρ : Rho) : List D → Sto → Option (List D × Sto)
  | [], S => some ([], S)
  | x :: xs, S => (g x ρ).bind fun ρ2 => (tt ρ2 S).bind fun p => if p.1 = true then (te ρ2 p.2).bind fun q => (compF g tt te ρ xs q.2).map fun r => (q.1 :: r.1, r.2) else compF g tt te ρ xs p.2
def eLc (it : Ars) (g : Tg) (tt : Tx) (te : Ex) (vs : List Nat) : Ex := fun ρ S => (it ρ S).bind fun p => (compF g tt te (wipeR ρ vs) p.1 p.2).map fun r => (.lst r.1, r.2)
theorem compF_cons {g : Tg} {tt : Tx} {te : Ex} {ρ : Rho} {x : D} {xs : List D} {S S' : Sto} {ys : List D} (h : compF g tt te ρ (x :: xs) S = some (ys, S')) :
    ∃ ρ2 p, g x ρ = some ρ2 ∧ tt ρ2 S = some p ∧ ((p.1 = true ∧ ∃ q zs, te ρ2 p.2 = some q ∧ compF g tt te ρ xs q.2 = some (zs, S') ∧ ys = q.1 :: zs) ∨ (p.1 = false ∧ compF g tt te ρ xs p.2 = some (ys, S'))) := by
  unfold compF at h
  cases e1 : g x ρ with
  | none => rw [e1] at h; cases h
  | some ρ2 =>
    rw [e1, Option.bind_some] at h
    cases e2 : tt ρ2 S with
    | none => rw [e2] at h; cases h
    | some p =>
      rw [e2, Option.bind_some] at h
      refine ⟨ρ2, p, rfl, e2, ?_⟩
      cases e3 : p.1 with
      | true =>
        rw [e3, if_pos rfl] at h
        cases e4 : te ρ2 p.2 with
        | none => rw [e4] at h; cases h
        | some q =>
          rw [e4, Option.bind_some] at h
          obtain ⟨r, hr, he⟩ := Option.map_eq_some_iff.mp h
          cases he
          exact .inl ⟨rfl, q, r.1, rfl, hr, rfl⟩
      | false =>
        rw [e3, if_neg Bool.false_ne_true] at h
        exact .inr ⟨rfl, h⟩
theorem drop_cons {α : Type} {xs : List α} {i : Nat} (h : i < xs.length) : xs.drop i = xs[i] :: xs.drop (i + 1) := List.drop_eq_getElem_cons h

theorem lc_f {K : Fw} {it : Ars} {g : Tg} {tt : Tx} {te : Ex} {vs : List Nat} {σ : L2.St} {H : Hp} {Q : VK} (h : tF K (eLc it g tt te vs) σ H Q) : tLc (tI K false it) (tG K vs g) (tT K tt) (tD K te) vs σ H Q := by
  obtain ⟨W, ρ, S, d, S', rl, hf, k⟩ := h
  unfold eLc at hf
  cases e1 : it ρ S with
  | none => rw [e1] at hf; cases hf
  | some p =>
    rw [e1, Option.bind_some] at hf
    obtain ⟨r, hr, he⟩ := Option.map_eq_some_iff.mp hf
    obtain ⟨ys, Sz⟩ := r
    cases he
    obtain ⟨xs, S1⟩ := p
    refine ⟨W, ρ, S, xs, S1, rl, e1, fun J H1 s1 st1 hz wk dd hD => ?_⟩
    have wf1 := rl.wf.stepE s1
    have nD : dd ∉ W.θ := fresh_th wf1 hD
    have rl1 : Rel K W H1 σ ρ S1 := rl.stepE s1 st1
    refine ⟨fun i m H2 => m = xs.length - i ∧ i ≤ xs.length ∧ ∃ (Si : Sto) (acc rest : List D) (vacc : List V), compF g tt te (wipeR ρ vs) (xs.drop i) Si = some (rest, Sz) ∧ ys = acc ++ rest ∧ H2 dd = some (.lst vacc) ∧ Rps K (W.plus dd) H2 vacc acc ∧ acc.length ≤ i ∧ StOk K (W.plus dd) H2 Si ∧ StepE W.θ H1 H2,
      ⟨xs.length, by simp, Nat.zero_le _, S1, [], ys, [], hr, rfl, upd_same, .nil, Nat.le_refl _, st1.new wf1 hD, .same (upd_Same hD)⟩, ?_⟩
    rintro i m H2 ⟨rfl, hi, Si, acc, rest, vacc, hc, hys, hDv, racc, hlen, sti, s2⟩
    have wk2 := wk _ _ (later_plus s2 hD)
    by_cases hlt : i < xs.length
    · have hg := wk2.1 i xs[i] (by simp [hlt])
      refine .inr ⟨hg.1, fun H5 => i + 1 ≤ xs.length ∧ ∃ (Si : Sto) (acc rest : List D) (vacc : List V), compF g tt te (wipeR ρ vs) (xs.drop (i + 1)) Si = some (rest, Sz) ∧ ys = acc ++ rest ∧ H5 dd = some (.lst vacc) ∧ Rps K (W.plus dd) H5 vacc acc ∧ acc.length ≤ i + 1 ∧ StOk K (W.plus dd) H5 Si ∧ StepE W.θ H1 H5,
        fun H5 ⟨q1, q2⟩ => ⟨xs.length - (i + 1), by omega, rfl, q1, q2⟩, fun x H3 y => ?_⟩
      obtain ⟨sm, rx⟩ := hg.2 x H3 y
      rw [drop_cons hlt] at hc
      obtain ⟨ρ2, p, hg1, ht1, hcase⟩ := compF_cons hc
      have s3 : StepE W.θ H1 H3 := s2.trans (.same sm)
      have st3 : StOk K (W.plus dd) H3 Si := sti.same sm
      have rl3 := (rl1.plus hD s3 ⟨_, sm _ _ hDv⟩ st3).wiped vs
      refine ⟨W.plus dd, wipeR ρ vs, Si, xs[i], ρ2, rl3, rx, hg1, fun σ2 rl4 hw => ⟨by rw [hw, wipe_wipe], W.plus dd, ρ2, Si, p.1, p.2, rl4, ht1, fun H4 s4 st4 => ?_⟩⟩
      have s4' : StepE W.θ H1 H4 := s3.trans s4
      have hD4 : H4 dd = some (.lst vacc) := s4.keep _ _ (sm _ _ hDv) nD
      have racc4 : Rps K (W.plus dd) H4 vacc acc := (racc.stepE (.same sm)).stepE s4
      rcases hcase with ⟨hp, q, zs, hte, hc2, hys2⟩ | ⟨hp, hc2⟩
      · rw [hp]
        refine iteT ?_
        refine ⟨W.plus dd, ρ2, p.2, q.1, q.2, rl4.stepE s4 st4, hte, fun v H5 s5 st5 rv => ?_⟩
        have hD5 : H5 dd = some (.lst vacc) := s5.keep _ _ hD4 nD
        have e5 : acc.length < sizeLine := by omega
        refine ⟨vacc, hD5, by rw [racc.length]; exact e5, hlt, q.2, acc ++ [q.1], zs, vacc ++ [v], hc2, by rw [hys, hys2]; simp, upd_same, ?_, by simp; omega, st_put hD5 nD st5, step_put hD (s4'.trans s5)⟩
        exact ((racc4.stepE s5).append (.cons rv .nil)).keeps (kps_put hD5)
      · rw [hp]
        refine iteF ?_
        exact ⟨hlt, p.2, acc, rest, vacc, hc2, hys, hD4, racc4, by omega, st4, s4'⟩
    · have e : i = xs.length := by omega
      subst e
      rw [List.drop_length] at hc
      cases hc
      refine .inl ⟨wk2.2, k _ H2 (s1.trans s2) ?_⟩
      rw [List.append_nil] at hys
      subst hys
      exact .lst (s1.none hD) hDv (by rw [racc.length]; omega) sti racc

/-- two clauses -/
def compO (g : Tg) (tt : Tx) (it1 : Ars) (g1 : Tg) (tt1 : Tx) (te : Ex) (vs1 : List Nat) (ρ : Rho) : List D → Sto → Option (List D × Sto)
  | [], S => some ([], S)
  | x :: xs, S => (g x ρ).bind fun ρ2 => (tt ρ2 S).bind fun p => if p.1 = true then (it1 ρ2 p.2).bind fun q => (compF g1 tt1 te (wipeR ρ2 vs1) q.1 q.2).bind fun r => (compO g tt it1 g1 tt1 te vs1 ρ xs r.2).map fun z => (r.1 ++ z.1, z.2)
    else compO g tt it1 g1 tt1 te vs1 ρ xs p.2
def eLc2 (it : Ars) (g : Tg) (tt : Tx) (it1 : Ars) (g1 : Tg) (tt1 : Tx) (te : Ex) (vs vs1 : List Nat) : Ex := fun ρ S => (it ρ S).bind fun p => (compO g tt it1 g1 tt1 te vs1 (wipeR ρ vs) p.1 p.2).bind fun r => if r.1.length ≤ sizeLine then some (.lst r.1, r.2) else none
theorem compO_cons {g : Tg} {tt : Tx} {it1 : Ars} {g1 : Tg} {tt1 : Tx} {te : Ex} {vs1 : List Nat} {ρ : Rho} {x : D} {xs : List D} {S S' : Sto} {ys : List D} (h : compO g tt it1 g1 tt1 te vs1 ρ (x :: xs) S = some (ys, S')) :
    ∃ ρ2 p, g x ρ = some ρ2 ∧ tt ρ2 S = some p ∧ ((p.1 = true ∧ ∃ q r zs, it1 ρ2 p.2 = some q ∧ compF g1 tt1 te (wipeR ρ2 vs1) q.1 q.2 = some r ∧ compO g tt it1 g1 tt1 te vs1 ρ xs r.2 = some (zs, S') ∧ ys = r.1 ++ zs) ∨ (p.1 = false ∧ compO g tt it1 g1 tt1 te vs1 ρ xs p.2 = some (ys, S'))) := by
  unfold compO at h
  cases e1 : g x ρ with
  | none => rw [e1] at h; cases h
  | some ρ2 =>
    rw [e1, Option.bind_some] at h
    cases e2 : tt ρ2 S with
    | none => rw [e2] at h; cases h
    | some p =>
      rw [e2, Option.bind_some] at h
      refine ⟨ρ2, p, rfl, e2, ?_⟩
      cases e3 : p.1 with
      | true =>
        rw [e3, if_pos rfl] at h
        cases e4 : it1 ρ2 p.2 with
        | none => rw [e4] at h; cases h
        | some q =>
          rw [e4, Option.bind_some] at h
          cases e5 : compF g1 tt1 te (wipeR ρ2 vs1) q.1 q.2 with
          | none => rw [e5] at h; cases h
          | some r =>
            rw [e5, Option.bind_some] at h
            obtain ⟨z, hr, he⟩ := Option.map_eq_some_iff.mp h
            cases he
            exact .inl ⟨rfl, q, r, z.1, rfl, e5, hr, rfl⟩
      | false =>
        rw [e3, if_neg Bool.false_ne_true] at h
        exact .inr ⟨rfl, h⟩
theorem lc2_f {K : Fw} {it it1 : Ars} {g g1 : Tg} {tt tt1 : Tx} {te : Ex} {vs vs1 : List Nat} {σ : L2.St} {H : Hp} {Q : VK} (h : tF K (eLc2 it g tt it1 g1 tt1 te vs vs1) σ H Q) :
    tLc2 (tI K false it) (tG K vs g) (tT K tt) (tI K false it1) (tG K vs1 g1) (tT K tt1) (tD K te) vs vs1 σ H Q := by
  obtain ⟨W, ρ, S, d, S', rl, hf, k⟩ := h
  unfold eLc2 at hf
  cases e1 : it ρ S with
  | none => rw [e1] at hf; cases hf
  | some p =>
    rw [e1, Option.bind_some] at hf
    obtain ⟨xs, S1⟩ := p
    cases hr : compO g tt it1 g1 tt1 te vs1 (wipeR ρ vs) xs S1 with
    | none => simp only [hr, Option.bind_none] at hf; cases hf
    | some r =>
    simp only [hr, Option.bind_some] at hf
    obtain ⟨ys, Sz⟩ := r
    by_cases hyz : ys.length ≤ sizeLine
    · simp only [if_pos hyz] at hf
      cases hf
      refine ⟨W, ρ, S, xs, S1, rl, e1, fun J H1 s1 st1 hz wk dd hD => ?_⟩
      have wf1 := rl.wf.stepE s1
      have nD : dd ∉ W.θ := fresh_th wf1 hD
      have rl1 : Rel K W H1 σ ρ S1 := rl.stepE s1 st1
      refine ⟨fun i m H2 => m = xs.length - i ∧ i ≤ xs.length ∧ ∃ (Si : Sto) (acc rest : List D) (vacc : List V), compO g tt it1 g1 tt1 te vs1 (wipeR ρ vs) (xs.drop i) Si = some (rest, S') ∧ ys = acc ++ rest ∧ H2 dd = some (.lst vacc) ∧ Rps K (W.plus dd) H2 vacc acc ∧ StOk K (W.plus dd) H2 Si ∧ StepE W.θ H1 H2,
        ⟨xs.length, by simp, Nat.zero_le _, S1, [], ys, [], hr, rfl, upd_same, .nil, st1.new wf1 hD, .same (upd_Same hD)⟩, ?_⟩
      rintro i m H2 ⟨rfl, hi, Si, acc, rest, vacc, hc, hys, hDv, racc, sti, s2⟩
      have wk2 := wk _ _ (later_plus s2 hD)
      by_cases hlt : i < xs.length
      · have hg := wk2.1 i xs[i] (by simp [hlt])
        refine .inr ⟨hg.1, fun H5 => i + 1 ≤ xs.length ∧ ∃ (Si : Sto) (acc rest : List D) (vacc : List V), compO g tt it1 g1 tt1 te vs1 (wipeR ρ vs) (xs.drop (i + 1)) Si = some (rest, S') ∧ ys = acc ++ rest ∧ H5 dd = some (.lst vacc) ∧ Rps K (W.plus dd) H5 vacc acc ∧ StOk K (W.plus dd) H5 Si ∧ StepE W.θ H1 H5,
          fun H5 ⟨q1, q2⟩ => ⟨xs.length - (i + 1), by omega, rfl, q1, q2⟩, fun x H3 y => ?_⟩
        obtain ⟨sm, rx⟩ := hg.2 x H3 y
        rw [drop_cons hlt] at hc
        obtain ⟨ρ2, p, hg1, ht1, hcase⟩ := compO_cons hc
        have s3 : StepE W.θ H1 H3 := s2.trans (.same sm)
        have st3 : StOk K (W.plus dd) H3 Si := sti.same sm
        have rl3 := (rl1.plus hD s3 ⟨_, sm _ _ hDv⟩ st3).wiped vs
        refine ⟨W.plus dd, wipeR ρ vs, Si, xs[i], ρ2, rl3, rx, hg1, fun σ2 rl4 hw => ⟨by rw [hw, wipe_wipe], W.plus dd, ρ2, Si, p.1, p.2, rl4, ht1, fun H4 s4 st4 => ?_⟩⟩
        have s4' : StepE W.θ H1 H4 := s3.trans s4
        have hD4 : H4 dd = some (.lst vacc) := s4.keep _ _ (sm _ _ hDv) nD
        have racc4 : Rps K (W.plus dd) H4 vacc acc := (racc.stepE (.same sm)).stepE s4
        rcases hcase with ⟨hp, q, r, zs, hit1, hcf, hc2, hys2⟩ | ⟨hp, hc2⟩
        · rw [hp]
          refine iteT ?_
          obtain ⟨xs1, Sq⟩ := q
          obtain ⟨rs, Sr⟩ := r
          refine ⟨W.plus dd, ρ2, p.2, xs1, Sq, rl4.stepE s4 st4, hit1, fun J1 H5 s5 st5 hz1 wk1 => ?_⟩
          have s5' : StepE W.θ H1 H5 := s4'.trans s5
          have hD5 : H5 dd = some (.lst vacc) := s5.keep _ _ hD4 nD
          have rl5 : Rel K (W.plus dd) H5 σ2 ρ2 Sq := (rl4.stepE s4 st4).stepE s5 st5
          refine ⟨fun j m H6 => m = xs1.length - j ∧ j ≤ xs1.length ∧ ∃ (Sj : Sto) (acc1 rest1 : List D) (vac : List V), compF g1 tt1 te (wipeR ρ2 vs1) (xs1.drop j) Sj = some (rest1, Sr) ∧ rs = acc1 ++ rest1 ∧ H6 dd = some (.lst vac) ∧ Rps K (W.plus dd) H6 vac (acc ++ acc1) ∧ StOk K (W.plus dd) H6 Sj ∧ StepE W.θ H1 H6 ∧ (∀ b o, H5 b = some o → b ∉ W.θ → b ≠ dd → H6 b = some o) ∧ (∀ b xs, H5 b = some (.tup xs) → H6 b = some (.tup xs)) ∧ (∀ b o u, H5 b = some (.frz o u) → H6 b = some (.frz o u)) ∧ (∀ b o, H5 b = some o → ∃ o', H6 b = some o'),
            ⟨xs1.length, by simp, Nat.zero_le _, Sq, [], rs, vacc, hcf, rfl, hD5, by rw [List.append_nil]; exact racc4.stepE s5, st5, s5', fun b o h _ _ => h, fun _ _ h => h, fun _ _ _ h => h, fun b o h => ⟨o, h⟩⟩, ?_⟩
          rintro j m H6 ⟨rfl, hj, Sj, acc1, rest1, vac, hcj, hrs, hDj, raccj, stj, s6, kp6, t6, f6, dm6⟩
          have kps6 : Kps K (W.plus dd) H5 (W.plus dd) H6 := ⟨fun _ _ h => h, fun b o h n => ⟨kp6 b o h (fun z => n (.inr (.inl z))) (fun z => n (mu_plus.mpr (.inr z))), n⟩, t6, f6⟩
          have rl6 : Rel K (W.plus dd) H6 σ2 ρ2 Sj := by
            refine rl5.mv (fun _ => rfl) kps6 (fun i a h => ?_) stj ⟨rl5.wf.nd, rl5.wf.inj, rl5.wf.dis, fun a m => by obtain ⟨o, e⟩ := rl5.wf.dom a m; exact dm6 a o e⟩
            obtain ⟨o, ho⟩ := rl5.wf.dom a (.inr (.inr ⟨i, h⟩))
            rw [ho]
            exact kp6 a o ho (rl5.wf.dis i a h).1 fun e => (rl5.wf.dis i a h).2 (.inr e)
          by_cases hjl : j < xs1.length
          · have lat : Later false K (W.plus dd) H5 (W.plus dd) H6 := (⟨rfl, fun b o h n m => kp6 b o h n (fun e => m (.inr e)), fun _ _ _ n => n, t6, f6⟩ : LaterE (W.plus dd) H5 (W.plus dd) H6)
            have wkj := wk1 (W.plus dd) H6 lat
            have hgj := wkj.1 j xs1[j] (by simp [hjl])
            refine .inr ⟨hgj.1, fun H9 => j + 1 ≤ xs1.length ∧ ∃ (Sj : Sto) (acc1 rest1 : List D) (vac : List V), compF g1 tt1 te (wipeR ρ2 vs1) (xs1.drop (j + 1)) Sj = some (rest1, Sr) ∧ rs = acc1 ++ rest1 ∧ H9 dd = some (.lst vac) ∧ Rps K (W.plus dd) H9 vac (acc ++ acc1) ∧ StOk K (W.plus dd) H9 Sj ∧ StepE W.θ H1 H9 ∧ (∀ b o, H5 b = some o → b ∉ W.θ → b ≠ dd → H9 b = some o) ∧ (∀ b xs, H5 b = some (.tup xs) → H9 b = some (.tup xs)) ∧ (∀ b o u, H5 b = some (.frz o u) → H9 b = some (.frz o u)) ∧ (∀ b o, H5 b = some o → ∃ o', H9 b = some o'),
              fun H9 ⟨q1, q2⟩ => ⟨xs1.length - (j + 1), by omega, rfl, q1, q2⟩, fun x1 H7 y1 => ?_⟩
            obtain ⟨sm7, rx7⟩ := hgj.2 x1 H7 y1
            rw [drop_cons hjl] at hcj
            obtain ⟨ρ3, p3, hg3, ht3, hcase3⟩ := compF_cons hcj
            have s7 : StepE W.θ H1 H7 := s6.trans (.same sm7)
            have e67 : StepE W.θ H6 H7 := .same sm7
            have rl7 := (rl6.same sm7).wiped vs1
            refine ⟨W.plus dd, wipeR ρ2 vs1, Sj, xs1[j], ρ3, rl7, rx7, hg3, fun σ3 rl8 hw3 => ⟨by rw [hw3, wipe_wipe], W.plus dd, ρ3, Sj, p3.1, p3.2, rl8, ht3, fun H8 s8 st8 => ?_⟩⟩
            have e68 : StepE W.θ H6 H8 := e67.trans s8
            have hD8 : H8 dd = some (.lst vac) := s8.keep _ _ (sm7 _ _ hDj) nD
            have racc8 : Rps K (W.plus dd) H8 vac (acc ++ acc1) := (raccj.stepE (.same sm7)).stepE s8
            rcases hcase3 with ⟨hp3, q3, zs3, hte, hc3, hys3⟩ | ⟨hp3, hc3⟩
            · rw [hp3]
              refine iteT ?_
              refine ⟨W.plus dd, ρ3, p3.2, q3.1, q3.2, rl8.stepE s8 st8, hte, fun v H9 s9 st9 rv => ?_⟩
              have hD9 : H9 dd = some (.lst vac) := s9.keep _ _ hD8 nD
              have e69 : StepE W.θ H6 H9 := e68.trans s9
              have hl9 : (acc ++ acc1).length < sizeLine := by
                have e1 : ys.length = acc.length + (rs.length + zs.length) := by rw [hys, hys2]; simp
                have e2 : rs.length = acc1.length + (zs3.length + 1) := by rw [hrs, hys3]; simp
                rw [List.length_append]
                omega
              refine ⟨vac, hD9, by rw [racc8.length]; exact hl9, hjl, q3.2, acc1 ++ [q3.1], zs3, vac ++ [v], hc3, by rw [hrs, hys3]; simp, upd_same, ?_, st_put hD9 nD st9, step_put hD (s6.trans e69), fun b o h n m => ?_, fun b xs h => ?_, fun b o u h => ?_, fun b o h => ?_⟩
              · rw [← List.append_assoc]
                exact ((racc8.stepE s9).append (.cons rv .nil)).keeps (kps_put hD9)
              · rw [upd_ne m]
                exact e69.keep b o (kp6 b o h n m) n
              · have hb := e69.tups b xs (t6 b xs h)
                rw [upd_ne (fun e => by rw [e, hD9] at hb; cases hb)]
                exact hb
              · have hb := e69.frzs b o u (f6 b o u h)
                rw [upd_ne (fun e => by rw [e, hD9] at hb; cases hb)]
                exact hb
              · by_cases hb : b = dd
                · subst hb; exact ⟨_, upd_same⟩
                · rw [upd_ne hb]
                  obtain ⟨o1, h1⟩ := dm6 b o h
                  exact e69.dom b o1 h1
            · rw [hp3]
              refine iteF ?_
              refine ⟨hjl, p3.2, acc1, rest1, vac, hc3, hrs, hD8, racc8, st8, s6.trans e68, fun b o h n m => e68.keep b o (kp6 b o h n m) n, fun b xs h => e68.tups b xs (t6 b xs h), fun b o u h => e68.frzs b o u (f6 b o u h), fun b o h => ?_⟩
              obtain ⟨o1, h1⟩ := dm6 b o h
              exact e68.dom b o1 h1
          · have e : j = xs1.length := by omega
            subst e
            rw [List.drop_length] at hcj
            cases hcj
            rw [List.append_nil] at hrs
            subst hrs
            have lat : Later false K (W.plus dd) H5 (W.plus dd) H6 := (⟨rfl, fun b o h n m => kp6 b o h n (fun e => m (.inr e)), fun _ _ _ n => n, t6, f6⟩ : LaterE (W.plus dd) H5 (W.plus dd) H6)
            exact .inl ⟨(wk1 (W.plus dd) H6 lat).2, hlt, _, acc ++ rs, zs, vac, hc2, by rw [hys, hys2, List.append_assoc], hDj, raccj, stj, s6⟩
        · rw [hp]
          refine iteF ?_
          exact ⟨hlt, p.2, acc, rest, vacc, hc2, hys, hD4, racc4, st4, s4'⟩
      · have e : i = xs.length := by omega
        subst e
        rw [List.drop_length] at hc
        cases hc
        refine .inl ⟨wk2.2, k _ H2 (s1.trans s2) ?_⟩
        rw [List.append_nil] at hys
        subst hys
        exact .lst (s1.none hD) hDv (by rw [racc.length]; exact hyz) sti racc
    · simp only [if_neg hyz] at hf; cases hf
end DL

set_option Elab.async false
set_option linter.all false
set_option maxRecDepth 100000
namespace DL
open PySem PySem.Spec PyProof.Rows L2

abbrev TS1 (X : Cx) (ifs : List Expr) (f : Tx) : Prop := PTs X ifs (tT (FX X) f)
def tYs : Tx := fun _ S => some (true, S)
section
variable {X : Cx}
theorem ts_nil : TS1 X [] tYs := ⟨fun pins s σ H Q I ⟨W, ρ, S, d, S', rl, hf, k⟩ => by
  cases hf
  exact pts_nil.run pins s σ H Q I (k H (.refl _ _) rl.st)⟩
theorem ts_one {c : Expr} {f : Tx} (h : T X c f) : TS1 X [c] f := pts_one h
theorem n_lc {elt tg iter : Expr} {ifs : List Expr} {scope : Scope} {own : List (Str × Nat)} {pos : Pos} {it : Ars} {g : Tg} {tt : Tx} {te : Ex} (hc : X.calm = true) (hN : X.N.Nodup) (hi : IT false X tg iter it) (ok : BlkOk X.N X.env.scope scope own)
    (hg : ∀ (s : Shared) (H : Hp) (C : Addr) (cl : List (Str × Addr)) (fp : List Addr), G (X.blk s H scope (compEnvC scope cl C X.env) fp) tg (own.map (·.2)) g) (ht : ∀ (s : Shared) (H : Hp) (C : Addr) (cl : List (Str × Addr)) (fp : List Addr), TS1 (X.blk s H scope (compEnvC scope cl C X.env) fp) ifs tt)
    (he : ∀ (s : Shared) (H : Hp) (C : Addr) (cl : List (Str × Addr)) (fp : List Addr), E (X.blk s H scope (compEnvC scope cl C X.env) fp) elt te) (hs : ∀ x, foldedSetIterable iter X.env x = pure x := by intro _; rfl) :
    N X (.ListComp elt [⟨tg, iter, ifs, 0⟩] scope pos) (eLc it g tt te (own.map (·.2))) := pe_imp (pe_lc hc hN hi ok hg ht he hs) fun _ _ _ h => lc_f h
theorem n_lc2 {elt tg iter tg1 iter1 : Expr} {ifs ifs1 : List Expr} {scope : Scope} {own : List (Str × Nat)} {vs1 : List Nat} {pos : Pos} {it it1 : Ars} {g g1 : Tg} {tt tt1 : Tx} {te : Ex} (hc : X.calm = true) (hN : X.N.Nodup) (hi : IT false X tg iter it) (ok : BlkOk X.N X.env.scope scope own) (hv : ∀ i ∈ vs1, i ∈ own.map (·.2))
    (hg : ∀ (s : Shared) (H : Hp) (C : Addr) (cl : List (Str × Addr)) (fp : List Addr), G (X.blk s H scope (compEnvC scope cl C X.env) fp) tg (own.map (·.2)) g) (ht : ∀ (s : Shared) (H : Hp) (C : Addr) (cl : List (Str × Addr)) (fp : List Addr), TS1 (X.blk s H scope (compEnvC scope cl C X.env) fp) ifs tt)
    (hi1 : ∀ (s : Shared) (H : Hp) (C : Addr) (cl : List (Str × Addr)) (fp : List Addr), IT false (X.blk s H scope (compEnvC scope cl C X.env) fp) tg1 iter1 it1)
    (hg1 : ∀ (s : Shared) (H : Hp) (C : Addr) (cl : List (Str × Addr)) (fp : List Addr), G (X.blk s H scope (compEnvC scope cl C X.env) fp) tg1 vs1 g1) (ht1 : ∀ (s : Shared) (H : Hp) (C : Addr) (cl : List (Str × Addr)) (fp : List Addr), TS1 (X.blk s H scope (compEnvC scope cl C X.env) fp) ifs1 tt1)
    (he : ∀ (s : Shared) (H : Hp) (C : Addr) (cl : List (Str × Addr)) (fp : List Addr), E (X.blk s H scope (compEnvC scope cl C X.env) fp) elt te) (hs : ∀ x, foldedSetIterable iter X.env x = pure x := by intro _; rfl) (hs1 : ∀ env x, foldedSetIterable iter1 env x = pure x := by intro _ _; rfl) :
    N X (.ListComp elt [⟨tg, iter, ifs, 0⟩, ⟨tg1, iter1, ifs1, 0⟩] scope pos) (eLc2 it g tt it1 g1 tt1 te (own.map (·.2)) vs1) := pe_imp (pe_lc2 hc hN hi ok hv hg ht hi1 hg1 ht1 he hs hs1) fun _ _ _ h => lc2_f h
end

/-! ## 7. statements -/
inductive Out where
  | nx (ρ : Rho) (S : Sto)
  | bk (ρ : Rho) (S : Sto)
  | ct (ρ : Rho) (S : Sto)
  | rt (d : D) (S : Sto)
abbrev Stm := Rho → Sto → Option Out
section
variable (K : Fw)
def EndsOk (W : Wd) (H : Hp) (Z : Ends) : Out → Prop
  | .nx ρ S => ∀ W' σ H', StepS W H W' H' → Rel K W' H' σ ρ S → Z.nx σ H'
  | .bk ρ S => ∀ W' σ H', StepS W H W' H' → Rel K W' H' σ ρ S → Z.bk σ H'
  | .ct ρ S => ∀ W' σ H', StepS W H W' H' → Rel K W' H' σ ρ S → Z.ct σ H'
  | .rt d S => ∀ W' v H', StepS W H W' H' → StOk K W' H' S → WfW W' H' → Rp K W' H' v d → Z.rt v H'
def tS (g : Stm) : TS := fun Z σ H => ∃ (W : Wd) (ρ : Rho) (S : Sto) (o : Out), Rel K W H σ ρ S ∧ g ρ S = some o ∧ EndsOk K W H Z o
end
abbrev ST (X : Cx) (st : Stmt) (g : Stm) : Prop := PS X st (tS (FX X) g)
abbrev SS (X : Cx) (st : List Stmt) (g : Stm) : Prop := PSs X st (tS (FX X) g)
theorem ps_imp {X : Cx} {st : Stmt} {t t' : TS} (h : PS X st t) (i : ∀ Z σ H, t' Z σ H → t Z σ H) : PS X st t' := ⟨fun pins s σ H Z I w => h.run pins s σ H Z I (i Z σ H w)⟩
theorem pss_imp {X : Cx} {st : List Stmt} {t t' : TS} (h : PSs X st t) (i : ∀ Z σ H, t' Z σ H → t Z σ H) : PSs X st t' := ⟨fun pins s σ H Z I w => h.run pins s σ H Z I (i Z σ H w)⟩
section
variable {K : Fw} {W W1 : Wd} {H H1 : Hp} {Z : Ends}
theorem EndsOk.before {o : Out} (s : StepS W H W1 H1) (h : EndsOk K W H Z o) : EndsOk K W1 H1 Z o := by
  cases o with
  | nx ρ S => exact fun W' σ H' s' r => h W' σ H' (s.trans s') r
  | bk ρ S => exact fun W' σ H' s' r => h W' σ H' (s.trans s') r
  | ct ρ S => exact fun W' σ H' s' r => h W' σ H' (s.trans s') r
  | rt d S => exact fun W' v H' s' st wf r => h W' v H' (s.trans s') st wf r
end
def sNx : Stm := fun ρ S => some (.nx ρ S)
def sBk : Stm := fun ρ S => some (.bk ρ S)
def sCt : Stm := fun ρ S => some (.ct ρ S)
def Out.seq (b : Stm) : Out → Option Out
  | .nx ρ S => b ρ S
  | o => some o
def sSeq (a b : Stm) : Stm := fun ρ S => (a ρ S).bind fun o => o.seq b
section
variable {X : Cx} {st : Stmt} {rest : List Stmt} {a b : Stm} {e : Expr} {f : Ex} {pos : Pos}
theorem ss_nil : SS X [] sNx := pss_imp pss_nil fun Z σ H ⟨W, ρ, S, o, rl, hf, k⟩ => by
  cases hf
  exact k W σ H (.refl _ _) rl
theorem ss_one (h : ST X st a) : SS X [st] a := pss_imp (pss_one h) fun _ _ _ h => h
theorem ss_cons (h1 : ST X st a) (h2 : SS X rest b) : SS X (st :: rest) (sSeq a b) := pss_imp (pss_cons h1 h2) fun Z σ H ⟨W, ρ, S, o, rl, hf, k⟩ => by
  unfold sSeq at hf
  cases e1 : a ρ S with
  | none => rw [e1] at hf; cases hf
  | some o1 =>
    rw [e1, Option.bind_some] at hf
    refine ⟨W, ρ, S, o1, rl, e1, ?_⟩
    cases o1 with
    | nx ρ1 S1 => exact fun W' σ' H' s' r' => ⟨W', ρ1, S1, o, r', hf, k.before s'⟩
    | bk ρ1 S1 => cases hf; exact k
    | ct ρ1 S1 => cases hf; exact k
    | rt d S1 => cases hf; exact k
theorem st_pass : ST X (.Pass pos) sNx := ps_imp ps_pass fun Z σ H ⟨W, ρ, S, o, rl, hf, k⟩ => by
  cases hf
  exact k W σ H (.refl _ _) rl
theorem st_brk : ST X (.Break pos) sBk := ps_imp ps_break fun Z σ H ⟨W, ρ, S, o, rl, hf, k⟩ => by
  cases hf
  exact k W σ H (.refl _ _) rl
theorem st_cont : ST X (.Continue pos) sCt := ps_imp ps_continue fun Z σ H ⟨W, ρ, S, o, rl, hf, k⟩ => by
  cases hf
  exact k W σ H (.refl _ _) rl
def sRet (f : Ex) : Stm := fun ρ S => (f ρ S).map fun p => .rt p.1 p.2
theorem st_ret (h : E X e f) : ST X (.Return (some e) pos) (sRet f) := ps_imp (ps_ret h) fun Z σ H ⟨W, ρ, S, o, rl, hf, k⟩ => by
  obtain ⟨p, e1, e2⟩ := Option.map_eq_some_iff.mp hf
  cases e2
  exact ⟨W, ρ, S, p.1, p.2, rl, e1, fun v H' s' st' r' => k W v H' s'.toS st' (rl.wf.stepE s') r'⟩
def sRetN : Stm := fun _ S => some (.rt .non S)
theorem st_retN : ST X (.Return none pos) sRetN := ps_imp ps_retN fun Z σ H ⟨W, ρ, S, o, rl, hf, k⟩ => by
  cases hf
  exact k W _ H (.refl _ _) rl.st rl.wf .non
def sDrop (f : Ex) : Stm := fun ρ S => (f ρ S).map fun p => .nx ρ p.2
theorem st_expr (h : E X e f) (hs : swapsWith e none pos.line X.env = pure false := by rfl) : ST X (.Expr e pos) (sDrop f) := ps_imp (ps_expr h hs) fun Z σ H ⟨W, ρ, S, o, rl, hf, k⟩ => by
  obtain ⟨p, e1, e2⟩ := Option.map_eq_some_iff.mp hf
  cases e2
  exact ⟨W, ρ, S, p.1, p.2, rl, e1, fun v H' s' st' r' => k W σ H' s'.toS (rl.stepE s' st')⟩
def sIf (c : Tx) (a b : Stm) : Stm := fun ρ S => (c ρ S).bind fun p => if p.1 = true then a ρ p.2 else b ρ p.2
theorem st_if {c : Expr} {ta tb : List Stmt} {g : Tx} (hc : T X c g) (h1 : SS X ta a) (h2 : SS X tb b) : ST X (.If c ta tb pos) (sIf g a b) := ps_imp (ps_if hc h1 h2) fun Z σ H ⟨W, ρ, S, o, rl, hf, k⟩ => by
  unfold sIf at hf
  cases e1 : g ρ S with
  | none => rw [e1] at hf; cases hf
  | some p =>
    rw [e1, Option.bind_some] at hf
    refine ⟨W, ρ, S, p.1, p.2, rl, e1, fun H' s' st' => ?_⟩
    cases hp : p.1 with
    | true =>
      rw [hp, if_pos rfl] at hf
      refine iteT ?_
      exact ⟨W, ρ, p.2, o, rl.stepE s' st', hf, k.before s'.toS⟩
    | false =>
      rw [hp, if_neg Bool.false_ne_true] at hf
      refine iteF ?_
      exact ⟨W, ρ, p.2, o, rl.stepE s' st', hf, k.before s'.toS⟩

/-! ### stores to names -/
def sAsg (f : Ex) (g : Tg) : Stm := fun ρ S => (f ρ S).bind fun p => (g p.1 ρ).map fun ρ' => .nx ρ' p.2
theorem asg_d {K : Fw} {vs : List Nat} {g : Tg} {Z : Ends} {σ : L2.St} {H : Hp} (h : tS K (sAsg f g) Z σ H) : tAsg (tD K f) (tG K vs g) Z σ H := by
  obtain ⟨W, ρ, S, o, rl, hf, k⟩ := h
  unfold sAsg at hf
  cases e1 : f ρ S with
  | none => rw [e1] at hf; cases hf
  | some p =>
    rw [e1, Option.bind_some] at hf
    obtain ⟨ρ', e2, e3⟩ := Option.map_eq_some_iff.mp hf
    cases e3
    exact ⟨W, ρ, S, p.1, p.2, rl, e1, fun v H' s' st' r' => ⟨W, ρ, p.2, p.1, ρ', rl.stepE s' st', r', e2, fun σ' rl' _ => k W σ' H' s'.toS rl'⟩⟩
/-- name = e -/
theorem st_set {i : Nat} (h : PS X st (tAsg (tD (FX X) f) (gName i))) : ST X st (sAsg f (gNm i)) := ps_imp h fun Z σ H ⟨W, ρ, S, o, rl, hf, k⟩ => by
  unfold sAsg at hf
  cases e1 : f ρ S with
  | none => rw [e1] at hf; cases hf
  | some p =>
    rw [e1, Option.bind_some] at hf
    cases hf
    exact ⟨W, ρ, S, p.1, p.2, rl, e1, fun v H' s' st' r' => k W _ H' s'.toS ((rl.stepE s' st').setSh r')⟩
/-- (a, b) = e -/
theorem st_asg {vs : List Nat} {g : Tg} (h : PS X st (tAsg (tD (FX X) f) (tG (FX X) vs g))) : ST X st (sAsg f g) := ps_imp h fun _ _ _ h => asg_d h
/-- name = a new list or dict that is the frame's own -/
def sOwn (f : Ex) (i : Nat) : Stm := fun ρ S => (f ρ S).bind fun p => match p.1 with
  | .lst xs => some (.nx (ρ.set i (.ow (.lst xs))) p.2)
  | .dct ks ds => some (.nx (ρ.set i (.ow (.dct ks ds))) p.2)
  | _ => none
/-- the world in which slot i owns a -/
def Wd.own (W : Wd) (i : Nat) (a : Addr) : Wd := { W with α := fun j => if j = i then some a else W.α j }
section
variable {K : Fw} {W : Wd} {H H' : Hp} {σ : L2.St} {ρ : Rho} {S S' : Sto} {a : Addr} {i : Nat}
theorem mt_own {b : Addr} (m : Mt (W.own i a) b) : Mt W b ∨ b = a := by
  rcases m with m | ⟨j, m⟩
  · exact .inl (.inl m)
  · unfold Wd.own at m
    by_cases e : j = i
    · simp only [e, if_pos] at m; cases m; exact .inr rfl
    · simp only [if_neg e] at m; exact .inl (.inr ⟨j, m⟩)
theorem mu_own {b : Addr} (m : Mu (W.own i a) b) : Mu W b ∨ b = a := by
  rcases m with m | m
  · exact .inl (.inl m)
  · rcases mt_own m with m | m
    · exact .inl (.inr m)
    · exact .inr m
theorem step_own (s : StepE W.θ H H') (n : H a = none) : StepS W H (W.own i a) H' where
  m0 := rfl
  th := ⟨[], by simp [Wd.own]⟩
  thn := fun b h n => absurd h n
  keep := fun b o h m => ⟨s.keep b o h fun z => m (.inl z), fun z => (mt_own z).elim m fun e => by rw [e, n] at h; cases h⟩
  tups := s.tups
  frzs := s.frzs
  dom := s.dom
theorem own_new (rl : Rel K W H σ ρ S) (s : StepE W.θ H H') (n : H a = none) (st : StOk K (W.plus a) H' S') {c : Cell} (cc : CellOk K (W.plus a) H' a c) : Rel K (W.own i a) H' (σ.set i (some (.ref a))) (ρ.set i (.ow c)) S' := by
  have kp : Kps K W H (W.own i a) H' := (step_own s n).keeps
  have k2 : Kps K (W.plus a) H' (W.own i a) H' := Kps.less rfl fun b m => mu_plus.mpr (mu_own m)
  have wf := rl.wf
  have al : ∀ {j b}, (W.own i a).α j = some b → (j = i ∧ b = a) ∨ (j ≠ i ∧ W.α j = some b) := fun {j b} h => by
    unfold Wd.own at h
    by_cases e : j = i
    · simp only [e, if_pos] at h; cases h; exact .inl ⟨e, rfl⟩
    · simp only [if_neg e] at h; exact .inr ⟨e, h⟩
  refine ⟨by rw [List.length_set, List.length_set]; exact rl.len, fun j x e => ?_, st.keeps rfl k2 fun _ _ => rfl, ⟨wf.nd, fun j l b h1 h2 => ?_, fun j b h => ?_, fun b m => ?_⟩⟩
  · by_cases hj : i = j
    · subst hj
      by_cases hl : i < ρ.length
      · rw [List.getElem?_set_self hl] at e
        cases e
        exact ⟨a, by rw [List.getElem?_set_self (by rw [rl.len]; exact hl)], by simp [Wd.own], cc.keeps k2 rfl⟩
      · rw [List.getElem?_eq_none (by rw [List.length_set]; omega)] at e
        cases e
    · rw [List.getElem?_set_ne hj] at e
      have q := rl.sl j x e
      cases x with
      | un => trivial
      | sh d => obtain ⟨v, h1, h2⟩ := q; exact ⟨v, by rw [List.getElem?_set_ne hj]; exact h1, h2.keeps kp⟩
      | ow c' =>
        obtain ⟨b, h1, h2, h3⟩ := q
        obtain ⟨o, ho⟩ := h3.some
        refine ⟨b, by rw [List.getElem?_set_ne hj]; exact h1, ?_, h3.keeps kp ?_⟩
        · show (if j = i then some a else W.α j) = some b
          rw [if_neg fun z => hj z.symm]; exact h2
        · rw [ho]; exact s.keep b o ho (wf.dis j b h2).1
  · rcases al h1 with ⟨e1, e2⟩ | ⟨e1, e2⟩
    · rcases al h2 with ⟨e3, e4⟩ | ⟨e3, e4⟩
      · rw [e1, e3]
      · obtain ⟨o, ho⟩ := wf.dom b (.inr (.inr ⟨l, e4⟩))
        rw [e2, n] at ho; cases ho
    · rcases al h2 with ⟨e3, e4⟩ | ⟨e3, e4⟩
      · obtain ⟨o, ho⟩ := wf.dom b (.inr (.inr ⟨j, e2⟩))
        rw [e4, n] at ho; cases ho
      · exact wf.inj j l b e2 e4
  · rcases al h with ⟨e1, e2⟩ | ⟨e1, e2⟩
    · subst e2
      exact ⟨fresh_th wf n, fun m => by obtain ⟨o, ho⟩ := wf.dom b (.inl m); rw [n] at ho; cases ho⟩
    · exact wf.dis j b e2
  · rcases mu_own m with m | m
    · obtain ⟨o, ho⟩ := wf.dom b m
      exact s.dom b o ho
    · subst m
      exact cc.some
end
theorem own_d {K : Fw} {i : Nat} {Z : Ends} {σ : L2.St} {H : Hp} (h : tS K (sOwn f i) Z σ H) : tAsg (tF K f) (gName i) Z σ H := by
  obtain ⟨W, ρ, S, o, rl, hf, k⟩ := h
  unfold sOwn at hf
  cases e1 : f ρ S with
  | none => rw [e1] at hf; cases hf
  | some p =>
    obtain ⟨d, S1⟩ := p
    rw [e1, Option.bind_some] at hf
    refine ⟨W, ρ, S, d, S1, rl, e1, fun v H' s' r' => ?_⟩
    cases r' with
    | lst n e z st r =>
      cases hf
      exact k _ _ H' (step_own s' n) (own_new rl s' n st (c := .lst _) ⟨_, e, z, r⟩)
    | dct n e z st r =>
      cases hf
      exact k _ _ H' (step_own s' n) (own_new rl s' n st (c := .dct _ _) ⟨_, e, z, r⟩)
theorem st_own {i : Nat} (h : PS X st (tAsg (tF (FX X) f) (gName i))) : ST X st (sOwn f i) := ps_imp h fun _ _ _ h => own_d h
theorem asg_imp {t t' : TE} {g : TG} {st : Stmt} (h : PS X st (tAsg t g)) (i : ∀ σ H Q, t' σ H Q → t σ H Q) : PS X st (tAsg t' g) := ps_imp h fun Z σ H w => i σ H _ w

/-- the object of slot i is given away: from here on nobody changes it -/
def sFz (i : Nat) (g : Stm) : Stm := fun ρ S => match ρ[i]? with
  | some (.ow (.lst xs)) => g (ρ.set i (.sh (.lst xs))) S
  | some (.ow (.dct ks ds)) => g (ρ.set i (.sh (.dct ks ds))) S
  | _ => none
def Wd.less (W : Wd) (i : Nat) : Wd := { W with α := fun j => if j = i then none else W.α j }
theorem fz_rel {K : Fw} {W : Wd} {H : Hp} {σ : L2.St} {ρ : Rho} {S : Sto} {i : Nat} {c : Cell} {d : D} (rl : Rel K W H σ ρ S) (hi : ρ[i]? = some (.ow c)) (hd : Sl.rd (.ow c) = some d) : StepS W H (W.less i) H ∧ Rel K (W.less i) H σ (ρ.set i (.sh d)) S := by
  have wf := rl.wf
  have al : ∀ {j b}, (W.less i).α j = some b → j ≠ i ∧ W.α j = some b := fun {j b} h => by
    unfold Wd.less at h
    by_cases e : j = i
    · simp only [e, if_pos] at h; cases h
    · simp only [if_neg e] at h; exact ⟨e, h⟩
  have mt : ∀ b, Mt (W.less i) b → Mt W b := fun b m => m.elim .inl fun ⟨j, h⟩ => .inr ⟨j, (al h).2⟩
  have st : StepS W H (W.less i) H := ⟨rfl, ⟨[], by simp [Wd.less]⟩, fun b h n => absurd h n, fun b o h n => ⟨h, fun m => n (mt b m)⟩, fun _ _ h => h, fun _ _ _ h => h, fun _ o h => ⟨o, h⟩⟩
  refine ⟨st, by rw [List.length_set]; exact rl.len, fun j x e => ?_, rl.st.keeps rfl st.keeps fun _ _ => rfl, ⟨wf.nd, fun j l b h1 h2 => wf.inj j l b (al h1).2 (al h2).2, fun j b h => wf.dis j b (al h).2, fun b m => wf.dom b (m.elim .inl fun z => .inr (mt b z))⟩⟩
  by_cases hj : i = j
  · subst hj
    rw [List.getElem?_set_self (List.getElem?_eq_some_iff.mp hi).1] at e
    cases e
    obtain ⟨a, h1, h2, h3⟩ := rl.sl i _ hi
    have nm : ¬ Mu (W.less i) a := fun m => by
      rcases m with m | m | ⟨j, m⟩
      · exact (wf.dis i a h2).2 m
      · exact (wf.dis i a h2).1 m
      · exact (al m).1 (wf.inj j i a (al m).2 h2)
    refine ⟨.ref a, h1, ?_⟩
    cases c with
    | lst xs =>
      cases hd
      obtain ⟨vs, e1, z, e2⟩ := h3
      exact .lst nm e1 z (e2.step st)
    | dct ks ds =>
      cases hd
      obtain ⟨vs, e1, z, e2⟩ := h3
      exact .dct nm e1 z (e2.step st)
    | dn b ks ds => cases hd
  · rw [List.getElem?_set_ne hj] at e
    have q := rl.sl j x e
    cases x with
    | un => trivial
    | sh d' => obtain ⟨v, h1, h2⟩ := q; exact ⟨v, h1, h2.step st⟩
    | ow c' =>
      obtain ⟨b, h1, h2, h3⟩ := q
      refine ⟨b, h1, ?_, h3.keeps st.keeps rfl⟩
      show (if j = i then none else W.α j) = some b
      rw [if_neg fun z => hj z.symm]; exact h2
theorem fz_d {K : Fw} {g : Stm} {i : Nat} {Z : Ends} {σ : L2.St} {H : Hp} (h : tS K (sFz i g) Z σ H) : tS K g Z σ H := by
  obtain ⟨W, ρ, S, o, rl, hf, k⟩ := h
  unfold sFz at hf
  split at hf
  · rename_i xs e
    obtain ⟨s1, r1⟩ := fz_rel rl e rfl
    exact ⟨_, _, S, o, r1, hf, k.before s1⟩
  · rename_i xs ds e
    obtain ⟨s1, r1⟩ := fz_rel rl e rfl
    exact ⟨_, _, S, o, r1, hf, k.before s1⟩
  · cases hf
theorem ss_fz (i : Nat) (h : SS X rest a) : SS X rest (sFz i a) := pss_imp h fun _ _ _ h => fz_d h
end
end DL

set_option Elab.async false
set_option linter.all false
set_option maxRecDepth 100000
namespace DL
open PySem PySem.Spec PyProof.Rows L2

/-! ## 8. loops -/
def Out.turn (k : Stm) : Out → Option Out
  | .nx ρ S => k ρ S
  | .ct ρ S => k ρ S
  | .bk ρ S => some (.nx ρ S)
  | .rt d S => some (.rt d S)
def forF (g : Tg) (b : Stm) : List D → Stm
  | [], ρ, S => some (.nx ρ S)
  | x :: xs, ρ, S => (g x ρ).bind fun ρ1 => (b ρ1 S).bind fun o => o.turn (forF g b xs)
def sFor (it : Ars) (g : Tg) (b : Stm) : Stm := fun ρ S => (it ρ S).bind fun p => forF g b p.1 ρ p.2
def whileF (c : Tx) (b : Stm) : Nat → Stm
  | 0, _, _ => none
  | n + 1, ρ, S => (c ρ S).bind fun p => if p.1 = true then (b ρ p.2).bind fun o => o.turn (whileF c b n) else some (.nx ρ p.2)
def sWhile (n : Rho → Sto → Nat) (c : Tx) (b : Stm) : Stm := fun ρ S => whileF c b (n ρ S) ρ S
section
variable {X : Cx} {st : Stmt} {body : List Stmt} {b : Stm} {pos : Pos}
theorem for_d {K : Fw} {it : Ars} {g : Tg} {vs : List Nat} {Z : Ends} {σ : L2.St} {H : Hp} (h : tS K (sFor it g b) Z σ H) : tFor (tI K true it) (tG K vs g) (tS K b) Z σ H := by
  obtain ⟨W, ρ, S, o, rl, hf, k⟩ := h
  unfold sFor at hf
  cases e1 : it ρ S with
  | none => rw [e1] at hf; cases hf
  | some p =>
    rw [e1, Option.bind_some] at hf
    obtain ⟨xs, S1⟩ := p
    refine ⟨W, ρ, S, xs, S1, rl, e1, fun J H1 s1 st1 hz wk => ?_⟩
    have rl1 := rl.stepE s1 st1
    have k1 : EndsOk K W H1 Z o := k.before s1.toS
    refine ⟨fun i m σ2 H2 => m = xs.length - i ∧ i ≤ xs.length ∧ ∃ W2 ρ2 S2, StepS W H1 W2 H2 ∧ Rel K W2 H2 σ2 ρ2 S2 ∧ forF g b (xs.drop i) ρ2 S2 = some o, ⟨xs.length, by simp, Nat.zero_le _, W, ρ, S1, .refl _ _, rl1, hf⟩, ?_⟩
    rintro i m σ2 H2 ⟨rfl, hi, W2, ρ2, S2, s2, rl2, hf2⟩
    have wk2 := wk W2 H2 (show Later true K W H1 W2 H2 from s2.keeps)
    by_cases hlt : i < xs.length
    · have hg := wk2.1 i xs[i] (by simp [hlt])
      refine .inr ⟨hg.1, fun σ3 H3 => i + 1 ≤ xs.length ∧ ∃ W2 ρ2 S2, StepS W H1 W2 H3 ∧ Rel K W2 H3 σ3 ρ2 S2 ∧ forF g b (xs.drop (i + 1)) ρ2 S2 = some o, fun σ3 H3 ⟨q1, q2⟩ => ⟨xs.length - (i + 1), by omega, rfl, q1, q2⟩, fun x H3 y => ?_⟩
      obtain ⟨sm, rx⟩ := hg.2 x H3 y
      rw [DL.drop_cons hlt] at hf2
      unfold forF at hf2
      cases e2 : g xs[i] ρ2 with
      | none => rw [e2] at hf2; cases hf2
      | some ρ3 =>
        rw [e2, Option.bind_some] at hf2
        cases e3 : b ρ3 S2 with
        | none => rw [e3] at hf2; cases hf2
        | some o2 =>
          rw [e3, Option.bind_some] at hf2
          have s3 : StepS W H1 W2 H3 := s2.trans (StepE.same sm).toS
          refine ⟨W2, ρ2, S2, xs[i], ρ3, rl2.same sm, rx, e2, fun σ3 rl3 _ => ⟨W2, ρ3, S2, o2, rl3, e3, ?_⟩⟩
          cases o2 with
          | nx ρ4 S4 => exact fun W4 σ4 H4 s4 rl4 => ⟨hlt, W4, ρ4, S4, s3.trans s4, rl4, hf2⟩
          | ct ρ4 S4 => exact fun W4 σ4 H4 s4 rl4 => ⟨hlt, W4, ρ4, S4, s3.trans s4, rl4, hf2⟩
          | bk ρ4 S4 =>
            cases hf2
            exact fun W4 σ4 H4 s4 rl4 => k1 W4 σ4 H4 (s3.trans s4) rl4
          | rt d S4 =>
            cases hf2
            exact fun W4 v H4 s4 st4 wf4 r4 => k1 W4 v H4 (s3.trans s4) st4 wf4 r4
    · have e : i = xs.length := by omega
      subst e
      rw [List.drop_length] at hf2
      cases hf2
      exact .inl ⟨wk2.2, k1 W2 σ2 H2 s2 rl2⟩
theorem st_for {tg iter : Expr} {it : Ars} {g : Tg} {vs : List Nat} (hp : PassesOwn (model X.prog X.w) X.A X.env X.xe) (hc : X.calm = true) (hi : IT true X tg iter it) (hg : G X tg vs g) (hb : SS X body b)
    (hs : ∀ x, foldedSetIterable iter X.env x = pure x := by intro _; rfl) : ST X (.For tg iter body [] pos) (sFor it g b) := ps_imp (ps_for hp hc hi hg hb hs) fun _ _ _ h => for_d h
theorem while_d {K : Fw} {c : Tx} {n : Rho → Sto → Nat} {Z : Ends} {σ : L2.St} {H : Hp} (h : tS K (sWhile n c b) Z σ H) : tWhile (tT K c) (tS K b) Z σ H := by
  obtain ⟨W, ρ, S, o, rl, hf, k⟩ := h
  unfold sWhile at hf
  refine ⟨fun m σ2 H2 => ∃ W2 ρ2 S2, StepS W H W2 H2 ∧ Rel K W2 H2 σ2 ρ2 S2 ∧ whileF c b m ρ2 S2 = some o, ⟨n ρ S, W, ρ, S, .refl _ _, rl, hf⟩, ?_⟩
  rintro m σ2 H2 ⟨W2, ρ2, S2, s2, rl2, hf2⟩
  cases m with
  | zero => cases hf2
  | succ m =>
    unfold whileF at hf2
    cases e1 : c ρ2 S2 with
    | none => rw [e1] at hf2; cases hf2
    | some p =>
      rw [e1, Option.bind_some] at hf2
      refine ⟨W2, ρ2, S2, p.1, p.2, rl2, e1, fun H3 s3 st3 => ?_⟩
      have s3' := s2.trans s3.toS
      have rl3 := rl2.stepE s3 st3
      cases hp : p.1 with
      | true =>
        rw [hp, if_pos rfl] at hf2
        refine iteT ?_
        refine ⟨fun σ4 H4 => ∃ W2 ρ2 S2, StepS W H W2 H4 ∧ Rel K W2 H4 σ4 ρ2 S2 ∧ whileF c b m ρ2 S2 = some o, fun σ4 H4 q => ⟨m, Nat.lt_succ_self m, q⟩, ?_⟩
        cases e3 : b ρ2 p.2 with
        | none => rw [e3] at hf2; cases hf2
        | some o2 =>
          rw [e3, Option.bind_some] at hf2
          refine ⟨W2, ρ2, p.2, o2, rl3, e3, ?_⟩
          cases o2 with
          | nx ρ4 S4 => exact fun W4 σ4 H4 s4 rl4 => ⟨W4, ρ4, S4, s3'.trans s4, rl4, hf2⟩
          | ct ρ4 S4 => exact fun W4 σ4 H4 s4 rl4 => ⟨W4, ρ4, S4, s3'.trans s4, rl4, hf2⟩
          | bk ρ4 S4 =>
            cases hf2
            exact fun W4 σ4 H4 s4 rl4 => k W4 σ4 H4 (s3'.trans s4) rl4
          | rt d S4 =>
            cases hf2
            exact fun W4 v H4 s4 st4 wf4 r4 => k W4 v H4 (s3'.trans s4) st4 wf4 r4
      | false =>
        rw [hp, if_neg Bool.false_ne_true] at hf2
        cases hf2
        refine iteF ?_
        exact k W2 σ2 H3 s3' rl3
theorem st_while {c : Expr} {g : Tx} (n : Rho → Sto → Nat) (hp : PassesOwn (model X.prog X.w) X.A X.env X.xe) (hc : T X c g) (hb : SS X body b) : ST X (.While c body [] pos) (sWhile n g b) := ps_imp (ps_while hp hc hb) fun _ _ _ h => while_d h
end

/-! ## 9. changes -/
section
variable {K : Fw} {W : Wd} {H H' : Hp} {σ : L2.St} {ρ : Rho} {S S' : Sto} {a : Addr} {i : Nat}
def isCell : HO → Prop
  | .lst _ => True
  | .dK _ => True
  | .ext _ => True
  | _ => False
theorem CellOk.cell {c : Cell} (h : CellOk K W H a c) : ∃ o : HO, H a = Option.some o ∧ isCell o := by
  cases c with
  | lst xs => obtain ⟨vs, h1, _⟩ := h; exact ⟨_, h1, trivial⟩
  | dct ks ds => obtain ⟨vs, h1, _⟩ := h; exact ⟨_, h1, trivial⟩
  | dn b ks ds =>
    cases b with
    | true => obtain ⟨xs, o, h1, _⟩ := h; exact ⟨_, h1, trivial⟩
    | false => obtain ⟨xs, o, h1, _⟩ := h; exact ⟨_, h1, trivial⟩
theorem kps_cell {o u : HO} (e : H a = some o) (c : isCell o) (m : Mu W a) : Kps K W H W (upd H a u) :=
  Kps.put m (fun xs h => by rw [e] at h; cases h; exact c) fun b w h => by rw [e] at h; cases h; exact c
theorem step_cell {o u : HO} (e : H a = some o) (c : isCell o) (m : Mt W a) : StepS W H W (upd H a u) where
  m0 := rfl
  th := ⟨[], by simp⟩
  thn := fun b h n => absurd h n
  keep := fun b w h n => ⟨by rw [upd_ne fun z => n (by rw [z]; exact m)]; exact h, n⟩
  tups := fun b xs h => by
    rw [upd_ne fun z => by rw [z, e] at h; cases h; exact c]; exact h
  frzs := fun b w x h => by
    rw [upd_ne fun z => by rw [z, e] at h; cases h; exact c]; exact h
  dom := fun b w h => by
    by_cases z : b = a
    · subst z; exact ⟨_, upd_same⟩
    · rw [upd_ne z]; exact ⟨w, h⟩
/-- slot i's own object is changed -/
theorem own_put {c c' : Cell} {u : HO} (rl : Rel K W H σ ρ S) (hi : ρ[i]? = some (.ow c)) (ha : W.α i = some a) (cc : CellOk K W (upd H a u) a c') (co : ∃ o, H a = some o ∧ isCell o) : StepS W H W (upd H a u) ∧ Rel K W (upd H a u) σ (ρ.set i (.ow c')) S := by
  obtain ⟨o, e, ic⟩ := co
  have mt : Mt W a := .inr ⟨i, ha⟩
  have sp := step_cell (u := u) e ic mt
  have kp : Kps K W H W (upd H a u) := sp.keeps
  refine ⟨sp, by rw [List.length_set]; exact rl.len, fun j x ej => ?_, rl.st.keeps rfl kp fun b m => upd_ne fun z => (rl.wf.dis i a ha).1 (by rw [← z]; exact m), ⟨rl.wf.nd, rl.wf.inj, rl.wf.dis, fun b m => by obtain ⟨w, h⟩ := rl.wf.dom b m; exact sp.dom b w h⟩⟩
  by_cases hj : i = j
  · subst hj
    rw [List.getElem?_set_self (List.getElem?_eq_some_iff.mp hi).1] at ej
    cases ej
    obtain ⟨b, h1, h2, h3⟩ := rl.sl i _ hi
    rw [ha] at h2
    cases h2
    exact ⟨a, h1, ha, cc⟩
  · rw [List.getElem?_set_ne hj] at ej
    have q := rl.sl j x ej
    cases x with
    | un => trivial
    | sh d' => obtain ⟨v, h1, h2⟩ := q; exact ⟨v, h1, h2.keeps kp⟩
    | ow c2 =>
      obtain ⟨b, h1, h2, h3⟩ := q
      refine ⟨b, h1, h2, h3.keeps kp (upd_ne fun z => hj (rl.wf.inj i j a ha (by rw [← z]; exact h2)))⟩
/-- the store's l-th object is changed -/
theorem st_put' {c c' : Cell} {l : Nat} {u : HO} (st : StOk K W H S) (wf : WfW W H) (hl : W.θ[l]? = some a) (hc : S[l]? = some c) (cc : CellOk K W (upd H a u) a c') (co : ∃ o, H a = some o ∧ isCell o) : StOk K W (upd H a u) (S.set l c') := by
  obtain ⟨o, e, ic⟩ := co
  have m : a ∈ W.θ := List.mem_of_getElem? hl
  have kp : Kps K W H W (upd H a u) := kps_cell e ic (.inr (.inl m))
  refine ⟨by rw [List.length_set]; exact st.1, fun j b x e1 e2 => ?_⟩
  by_cases hj : l = j
  · subst hj
    rw [List.getElem?_set_self (List.getElem?_eq_some_iff.mp hc).1] at e2
    cases e2
    rw [hl] at e1
    cases e1
    exact cc
  · rw [List.getElem?_set_ne hj] at e2
    refine (st.2 j b x e1 e2).keeps kp (upd_ne fun z => hj ?_)
    subst z
    exact (List.getElem?_inj (List.getElem?_eq_some_iff.mp hl).1 wf.nd).mp (hl.trans e1.symm)
theorem Rel.storeSet {c c' : Cell} {l : Nat} {u : HO} (rl : Rel K W H σ ρ S) (hl : W.θ[l]? = some a) (hc : S[l]? = some c) (cc : CellOk K W (upd H a u) a c') (co : ∃ o, H a = some o ∧ isCell o) : StepS W H W (upd H a u) ∧ Rel K W (upd H a u) σ ρ (S.set l c') := by
  have st' := st_put' rl.st rl.wf hl hc cc co
  obtain ⟨o, e, ic⟩ := co
  have m : a ∈ W.θ := List.mem_of_getElem? hl
  have sp := step_cell (u := u) e ic (W := W) (.inl m)
  exact ⟨sp, rl.mv (fun _ => rfl) sp.keeps (fun j b h => upd_ne fun z => (rl.wf.dis j b h).1 (by rw [z]; exact m)) st' ⟨rl.wf.nd, rl.wf.inj, rl.wf.dis, fun b m => by obtain ⟨w, h⟩ := rl.wf.dom b m; exact sp.dom b w h⟩⟩
end
/-- a method that changes its own object: g: the object, the arguments; the object behind, the answer -/
def MutD (K : Fw) (r : V → List V → Hp → VK → Prop) (g : Cell → List D → Option (Cell × D)) : Prop :=
  ∀ (W : Wd) (H : Hp) (a : Addr) (vs : List V) (ds : List D) (c c' : Cell) (d : D) (Q : VK), Mu W a → CellOk K W H a c → Rps K W H vs ds → g c ds = some (c', d) →
    (∀ u v, CellOk K W (upd H a u) a c' → Rp K W (upd H a u) v d → Q v (upd H a u)) → r (.ref a) vs H Q
def isLst : Cell → Bool
  | .lst _ => true
  | _ => false
/-- x.m(..) as a statement, x the frame's own -/
def sMut (g : Cell → List D → Option (Cell × D)) (i : Nat) (fs : Ars) : Stm := fun ρ S => match ρ[i]? with
  | some (.ow c) => (fs ρ S).bind fun p => (g c p.1).map fun z => .nx (ρ.set i (.ow z.1)) p.2
  | _ => none
section
variable {X : Cx} {st : Stmt} {f fi fo : Ex} {fs : Ars}
theorem mut_d {K : Fw} {r : V → List V → Hp → VK → Prop} {g : Cell → List D → Option (Cell × D)} (hd : MutD K r g) (hl : ∀ c ds z, g c ds = some z → isLst c = true) {i : Nat} {Z : Ends} {σ : L2.St} {H : Hp} (h : tS K (sMut g i fs) Z σ H) :
    tDrop (tBM K "list" r (tVar i) (tA K fs)) Z σ H := by
  obtain ⟨W, ρ, S, o, rl, hf, k⟩ := h
  unfold sMut at hf
  split at hf
  · rename_i c hi
    cases e1 : fs ρ S with
    | none => rw [e1] at hf; cases hf
    | some p =>
      rw [e1, Option.bind_some] at hf
      obtain ⟨z, e2, e3⟩ := Option.map_eq_some_iff.mp hf
      cases e3
      obtain ⟨a, h1, h2, h3⟩ := rl.sl i _ hi
      have lc := hl _ _ _ e2
      cases c with
      | dct _ _ => cases lc
      | dn _ _ _ => cases lc
      | lst xs =>
        obtain ⟨vs, hv, hz, rs⟩ := id h3
        refine ⟨.ref a, h1, .inl ⟨rfl, _, .of hv⟩, W, ρ, S, p.1, p.2, rl, e1, fun ws H1 s1 st1 r1 => ?_⟩
        have rl1 := rl.stepE s1 st1
        have n := rl.wf.dis i a h2
        have hv1 : H1 a = some (.lst vs) := s1.keep a _ hv n.1
        have h31 : CellOk K W H1 a (.lst xs) := ⟨vs, hv1, hz, rs.stepE s1⟩
        refine hd W H1 a ws p.1 _ z.1 z.2 _ (.inr (.inr ⟨i, h2⟩)) h31 r1 e2 fun u v cc rv => ?_
        obtain ⟨s2, rl2⟩ := own_put rl1 hi h2 cc ⟨_, hv1, trivial⟩
        exact k W σ _ (s1.toS.trans s2) rl2
  · cases hf
theorem st_mut {r : V → List V → Hp → VK → Prop} {g : Cell → List D → Option (Cell × D)} {i : Nat} (h : PS X st (tDrop (tBM X.K "list" r (tVar i) (tA (FX X) fs)))) (hd : MutD (FX X) r g) (hl : ∀ c ds z, g c ds = some z → isLst c = true) : ST X st (sMut g i fs) := ps_imp h fun _ _ _ h => mut_d hd hl h
def gAppend : Cell → List D → Option (Cell × D)
  | .lst xs, [y] => if xs.length < sizeLine then some (.lst (xs ++ [y]), .non) else none
  | _, _ => none
theorem append_d {K : Fw} : MutD K rAppend gAppend := fun W H a vs ds c c' d Q m cc rs h k => by
  unfold gAppend at h
  split at h
  · rename_i xs y
    by_cases z : xs.length < sizeLine
    · rw [if_pos z] at h
      cases h
      obtain ⟨ws, e, hz, rw'⟩ := cc
      cases rs with
      | @cons y1 _ _ _ r1 r2 =>
        cases r2
        refine ⟨a, ws, y1, rfl, rfl, e, by rw [rw'.length]; exact z, k _ _ ⟨_, upd_same, by rw [List.length_append, rw'.length]; exact z, ?_⟩ .non⟩
        have kp : Kps K W H W (upd H a (.lst (ws ++ [y1]))) := kps_cell e trivial m
        exact (rw'.append (.cons r1 .nil)).keeps kp
    · rw [if_neg z] at h; cases h
  · cases h
theorem append_l : ∀ c ds z, gAppend c ds = some z → isLst c = true := fun c ds z h => by
  cases c with
  | lst xs => rfl
  | dct ks vs => cases h
  | dn b ks vs => cases h
def insAt (xs : List D) (i : Int) (y : D) : List D := xs.insertIdx (if i < 0 then (i + xs.length).toNat else min i.toNat xs.length) y
/-- x[k] = e, x the frame's own list -/
def sSetIx (i : Nat) (f fi : Ex) : Stm := fun ρ S => (f ρ S).bind fun p => match ρ[i]? with
  | some (.ow (.lst xs)) => (fi ρ p.2).bind fun q => match q.1 with
    | .int k => (ixN xs.length k).map fun j => .nx (ρ.set i (.ow (.lst (xs.set j p.1)))) q.2
    | _ => none
  | _ => none
theorem setIx_d {K : Fw} {i : Nat} {Z : Ends} {σ : L2.St} {H : Hp} (h : tS K (sSetIx i f fi) Z σ H) : tAsg (tD K f) (gSub (tVar i) (tQ K fi) rSetL) Z σ H := by
  obtain ⟨W, ρ, S, o, rl, hf, k⟩ := h
  unfold sSetIx at hf
  cases e1 : f ρ S with
  | none => rw [e1] at hf; cases hf
  | some p =>
    rw [e1, Option.bind_some] at hf
    split at hf
    · rename_i xs hi
      cases e2 : fi ρ p.2 with
      | none => rw [e2] at hf; cases hf
      | some q =>
        rw [e2, Option.bind_some] at hf
        obtain ⟨kd, S2⟩ := q
        cases kd with
        | int kk =>
          obtain ⟨j, e3, e4⟩ := Option.map_eq_some_iff.mp hf
          cases e4
          refine ⟨W, ρ, S, p.1, p.2, rl, e1, fun v H1 s1 st1 r1 => ?_⟩
          have rl1 := rl.stepE s1 st1
          obtain ⟨a, h1, h2, h3⟩ := rl1.sl i _ hi
          refine ⟨.ref a, h1, W, ρ, p.2, _, S2, rl1, e2, fun v2 H2 s2 st2 r2 => ?_⟩
          have rl2 := rl1.stepE s2 st2
          obtain ⟨vs, hv, hz, rs⟩ := id h3
          have n := rl.wf.dis i a h2
          have hv2 : H2 a = some (.lst vs) := s2.keep a _ hv n.1
          have rs2 := rs.stepE s2
          refine ⟨a, vs, kk, j, rfl, rq_int r2, hv2, by rw [rs.length]; exact e3, ?_⟩
          have kp : Kps K W H2 W (upd H2 a (.lst (vs.set j v))) := kps_cell hv2 trivial (.inr (.inr ⟨i, h2⟩))
          obtain ⟨s3, rl3⟩ := own_put (c' := .lst (xs.set j p.1)) rl2 hi h2 ⟨_, upd_same, by rw [List.length_set]; exact hz, (rs2.set j (r1.stepE s2)).keeps kp⟩ ⟨_, hv2, trivial⟩
          exact k W σ _ ((s1.trans s2).toS.trans s3) rl3
        | _ => cases hf
    · cases hf
theorem st_setIx {i : Nat} (h : PS X st (tAsg (tD (FX X) f) (gSub (tVar i) (tQ (FX X) fi) rSetL))) : ST X st (sSetIx i f fi) := ps_imp h fun _ _ _ h => setIx_d h
/-- c[k] = e, c a shared list -/
def sSetR (fo f fi : Ex) : Stm := fun ρ S => (f ρ S).bind fun p => (fo ρ p.2).bind fun q => (fi ρ q.2).bind fun r => match q.1, r.1 with
  | .ref l, .int k => match r.2[l]? with
    | some (.lst xs) => (ixN xs.length k).map fun j => .nx ρ (r.2.set l (.lst (xs.set j p.1)))
    | _ => none
  | _, _ => none
theorem setR_d {K : Fw} {Z : Ends} {σ : L2.St} {H : Hp} (h : tS K (sSetR fo f fi) Z σ H) : tAsg (tD K f) (gSub (tD K fo) (tQ K fi) rSetL) Z σ H := by
  obtain ⟨W, ρ, S, o, rl, hf, k⟩ := h
  unfold sSetR at hf
  cases e1 : f ρ S with
  | none => rw [e1] at hf; cases hf
  | some p =>
    rw [e1, Option.bind_some] at hf
    cases e2 : fo ρ p.2 with
    | none => rw [e2] at hf; cases hf
    | some q =>
      rw [e2, Option.bind_some] at hf
      cases e3 : fi ρ q.2 with
      | none => rw [e3] at hf; cases hf
      | some r =>
        rw [e3, Option.bind_some] at hf
        obtain ⟨qd, S2⟩ := q
        obtain ⟨kd, S3⟩ := r
        cases qd with
        | ref l =>
          cases kd with
          | int kk =>
            cases e4 : S3[l]? with
            | none => simp only [e4] at hf; cases hf
            | some cc =>
              cases cc with
              | dct _ _ => simp only [e4] at hf; cases hf
              | dn _ _ _ => simp only [e4] at hf; cases hf
              | lst xs =>
                simp only [e4] at hf
                obtain ⟨j, e5, e6⟩ := Option.map_eq_some_iff.mp hf
                cases e6
                refine ⟨W, ρ, S, p.1, p.2, rl, e1, fun v H1 s1 st1 r1 => ?_⟩
                have rl1 := rl.stepE s1 st1
                refine ⟨W, ρ, p.2, _, S2, rl1, e2, fun v2 H2 s2 st2 r2 => ?_⟩
                have rl2 := rl1.stepE s2 st2
                refine ⟨W, ρ, S2, _, S3, rl2, e3, fun v3 H3 s3 st3 r3 => ?_⟩
                have rl3 := rl2.stepE s3 st3
                cases r2 with
                | @ref a _ hl =>
                  obtain ⟨vs, hv, hz, rs⟩ := st3.2 l a _ hl e4
                  refine ⟨a, vs, kk, j, rfl, rq_int r3, hv, by rw [rs.length]; exact e5, ?_⟩
                  have kp : Kps K W H3 W (upd H3 a (.lst (vs.set j v))) := kps_cell hv trivial (.inr (.inl (List.mem_of_getElem? hl)))
                  obtain ⟨s4, rl4⟩ := rl3.storeSet (c' := .lst (xs.set j p.1)) hl e4 ⟨_, upd_same, by rw [List.length_set]; exact hz, (rs.set j ((r1.stepE s2).stepE s3)).keeps kp⟩ ⟨_, hv, trivial⟩
                  exact k W σ _ (((s1.trans s2).trans s3).toS.trans s4) rl4
          | _ => cases hf
        | _ => cases hf
theorem st_setR (h : PS X st (tAsg (tD (FX X) f) (gSub (tD (FX X) fo) (tQ (FX X) fi) rSetL))) : ST X st (sSetR fo f fi) := ps_imp h fun _ _ _ h => setR_d h
end

/-! ## 10. defs and their calls -/
abbrev Fn := List D → Sto → Option (D × Sto)
def rho0 (n : Nat) (ds : List D) : Rho := ds.map Sl.sh ++ List.replicate (n - ds.length) .un
def fnOut (S : Sto) : Option Out → Option (D × Sto)
  | some (.nx _ S') => if S'.length = S.length then some (.non, S') else none
  | some (.rt d S') => if S'.length = S.length then some (d, S') else none
  | _ => none
def fnD (n : Nat) (b : Stm) : Fn := fun ds S => fnOut S (b (rho0 n ds) S)
/-- called with data ds over the store S, it gives what F says -/
def spD (K : Fw) (n : Nat) (F : Fn) : Sp := fun vs H Q _ => ∃ (W : Wd) (ds : List D) (S : Sto) (d : D) (S' : Sto), ds.length = n ∧ Rps K W H vs ds ∧ StOk K W H S ∧ WfW W H ∧ F ds S = some (d, S') ∧
  ∀ v H', StepE W.θ H H' → StOk K W H' S' → Rp K W H' v d → Q v H'
theorem rho0_length {n : Nat} {ds : List D} (h : ds.length ≤ n) : (rho0 n ds).length = n := by unfold rho0; simp; omega
theorem rho0_slot {K : Fw} {W : Wd} {H : Hp} {N : List Str} {vs : List V} {ds : List D} (rs : Rps K W H vs ds) (i : Nat) (s : Sl) (h : (rho0 N.length ds)[i]? = some s) : SlOk K W H (L2.start N vs) i s := by
  unfold rho0 at h
  by_cases hi : i < ds.length
  · rw [List.getElem?_append_left (by simpa using hi), List.getElem?_map] at h
    obtain ⟨d, hd, rfl⟩ := Option.map_eq_some_iff.mp h
    obtain ⟨v, hv, rv⟩ := rs.get hd
    refine ⟨v, ?_, rv⟩
    unfold L2.start
    rw [List.getElem?_append_left (by simpa [rs.length] using hi), List.getElem?_map, hv]
    rfl
  · rw [List.getElem?_append_right (by simpa using hi), List.getElem?_replicate] at h
    split at h
    · cases h; trivial
    · cases h
section
variable {P : Program} {w : World} {K : PySem.W.Frag} {mg : Str → Option Value} {base : Heap}
theorem fn_ok {x qual : Str} {st : Stmt} {f : Addr} {fd : FuncData} {N ps : List Str} {k : Nat} {b : Stm} (F : Fun K x qual st f fd) (Sc : FnScope N ps (defScope st)) (hl : ps.length ≤ N.length)
    (hb : ∀ (cdv : Value) (A : Around) (outer : List Env) (s : Shared) (H : Hp) (E : XK), Room k (A.deeper (envOfC qual (defScope st) s.heap.objs.size f cdv)) → SS (cxOf CX0 P w K mg base N qual (defScope st) f cdv A outer s H E).nox (defBody st) b) :
    FnOk P w K mg base CX0 (k + 1) f fd ps (spD ⟨K, w, P⟩ ps.length (fnD N.length b)) := by
  refine F.ok Sc (fun vs H Q E h => ?_) (fun cdv A outer s H vs Q E hr h => ?_)
  · obtain ⟨W, ds, S, d, S', hn, rs, _⟩ := h
    rw [rs.length]; exact hn
  · obtain ⟨W, ds, S, d, S', hn, rs, st0, wf, hf, k0⟩ := h
    refine ⟨_, hb cdv A outer s H E hr, ?_⟩
    have m0 : ∀ b, Mu (⟨W.θ, Mu W, fun _ => none⟩ : Wd) b ↔ Mu W b := fun b => by
      constructor
      · rintro (m | m | ⟨j, m⟩)
        · exact m
        · exact .inr (.inl m)
        · cases m
      · exact .inl
    have kp0 : Kps ⟨K, w, P⟩ W H (⟨W.θ, Mu W, fun _ => none⟩ : Wd) H := Kps.less rfl fun b m => (m0 b).mp m
    have wf0 : WfW (⟨W.θ, Mu W, fun _ => none⟩ : Wd) H := ⟨wf.nd, (fun i j a h => (by cases h)), (fun i a h => (by cases h)), fun a m => wf.dom a ((m0 a).mp m)⟩
    have rs0 := rs.keeps kp0
    have rl0 : Rel ⟨K, w, P⟩ (⟨W.θ, Mu W, fun _ => none⟩ : Wd) H (L2.start N vs) (rho0 N.length ds) S := by
      refine ⟨?_, rho0_slot rs0, st0.keeps rfl kp0 fun _ _ => rfl, wf0⟩
      rw [rho0_length (by rw [hn]; exact hl)]
      unfold L2.start
      rw [List.length_append, List.length_map, List.length_replicate, rs.length]
      omega
    unfold fnD at hf
    cases e1 : b (rho0 N.length ds) S with
    | none => rw [e1] at hf; cases hf
    | some o =>
      rw [e1] at hf
      refine ⟨_, _, S, o, rl0, e1, ?_⟩
      have fin : ∀ {W' : Wd} {H' : Hp} {S1 : Sto} {v : V} {d : D}, StepS (⟨W.θ, Mu W, fun _ => none⟩ : Wd) H W' H' → StOk ⟨K, w, P⟩ W' H' S1 → Rp ⟨K, w, P⟩ W' H' v d → S1.length = S.length → StepE W.θ H H' ∧ StOk ⟨K, w, P⟩ W H' S1 ∧ Rp ⟨K, w, P⟩ W H' v d := fun {W' H' S1 v d} s st r hlen => by
        obtain ⟨t, ht⟩ := s.th
        have e : W'.θ = W.θ := by
          have h1 := st.1
          have h2 := st0.1
          have h3 := congrArg List.length ht
          rw [List.length_append] at h3
          have h4 : (⟨W.θ, Mu W, fun _ => none⟩ : Wd).θ.length = W.θ.length := rfl
          have : t.length = 0 := by omega
          rw [List.length_eq_zero_iff.mp this, List.append_nil] at ht
          exact ht
        have kl : Kps ⟨K, w, P⟩ W' H' W H' := Kps.less e.symm fun b m => .inl (by rw [s.m0]; exact m)
        refine ⟨⟨fun b u h n => (s.keep b u h fun z => ?_).1, s.tups, s.frzs, s.dom⟩, st.keeps e.symm kl fun _ _ => rfl, r.keeps kl⟩
        rcases z with z | ⟨j, z⟩
        · exact n z
        · cases z
      cases o with
      | nx ρ' S1 =>
        unfold fnOut at hf
        by_cases hlen : S1.length = S.length
        · simp only [if_pos hlen] at hf
          cases hf
          intro W' σ' H' s r
          obtain ⟨q1, q2, q3⟩ := fin (v := .non) (d := .non) s r.st .non hlen
          exact k0 .non H' q1 q2 q3
        · simp only [if_neg hlen] at hf; cases hf
      | rt d' S1 =>
        unfold fnOut at hf
        by_cases hlen : S1.length = S.length
        · simp only [if_pos hlen] at hf
          cases hf
          intro W' v H' s st wf' r
          obtain ⟨q1, q2, q3⟩ := fin s st r hlen
          exact k0 v H' q1 q2 q3
        · simp only [if_neg hlen] at hf; cases hf
      | bk _ _ => cases hf
      | ct _ _ => cases hf
end
def eCall (F : Fn) (fs : Ars) : Ex := fun ρ S => (fs ρ S).bind fun p => F p.1 p.2
section
variable {X : Cx} {e : Expr} {fs : Ars}
theorem e_call {F : Fn} {n : Nat} (h : PE X e (tCall (spD (FX X) n F) [] E0 (tA (FX X) fs))) (hn : ∀ (ρ : Rho) (S S' : Sto) (ds : List D), fs ρ S = some (ds, S') → ds.length = n) : E X e (eCall F fs) := pe_imp h fun σ H Q ⟨W, ρ, S, d, S', rl, hf, k⟩ => by
  unfold eCall at hf
  cases e1 : fs ρ S with
  | none => rw [e1] at hf; cases hf
  | some p =>
    rw [e1, Option.bind_some] at hf
    refine ⟨W, ρ, S, p.1, p.2, rl, e1, fun vs H1 s1 st1 r1 => ?_⟩
    show spD (FX X) n F (vs ++ []) H1 Q E0
    rw [List.append_nil]
    exact ⟨W, p.1, p.2, d, S', hn _ _ _ _ e1, r1, st1, rl.wf.stepE s1, hf, fun v H2 s2 st2 r2 => k v H2 (s1.trans s2) st2 r2⟩
end
end DL

set_option Elab.async false
set_option linter.all false
set_option maxRecDepth 100000
namespace DL
open PySem PySem.Spec PyProof.Rows L2

/-! ## 11. operators -/
section
variable {K : Fw} {W : Wd} {H : Hp}
theorem rp_bl {v : V} {b : Bool} (r : Rq K W H v (.bl b)) : v = .bl b := by
  cases r with
  | of r => cases r; rfl
theorem rq_non {v : V} (r : Rq K W H v .non) : v = .non := by
  cases r with
  | of r => cases r; rfl
theorem rq_str {v : V} {x : Str} (r : Rq K W H v (.str x)) : v = .str x := by
  cases r with
  | of r => cases r; rfl
theorem rq_ty {v : V} {x : String} (r : Rq K W H v (.ty x)) : v = .ty x := by
  cases r with
  | of r => cases r; rfl
/-- an operator of two ints -/
def liftI (g : Int → Int → Option D) : D → D → Option D
  | .int i, .int j => g i j
  | _, _ => none
theorem liftI_split {g : Int → Int → Option D} {x y d : D} (h : liftI g x y = some d) : ∃ i j, x = .int i ∧ y = .int j ∧ g i j = some d := by
  unfold liftI at h
  split at h
  · exact ⟨_, _, rfl, rfl, h⟩
  · cases h
theorem int_d {C : Int → Int → Prop} {f : Int → Int → Int} {g : Int → Int → Option D} (hg : ∀ i j d, g i j = some d → C i j ∧ d = .int (f i j)) : OpD K (rI C fun i j => .int (f i j)) (liftI g) := fun W H v1 v2 d1 d2 d Q wf r1 r2 h k => by
  obtain ⟨i, j, rfl, rfl, e⟩ := liftI_split h
  obtain ⟨c, rfl⟩ := hg i j d e
  exact ⟨i, j, rq_int r1, rq_int r2, c, k _ H (.refl _) (.int _)⟩
theorem int0_d {f : Int → Int → Int} : OpD K (rI0 fun i j => .int (f i j)) (liftI fun i j => some (.int (f i j))) := fun W H v1 v2 d1 d2 d Q wf r1 r2 h k => by
  obtain ⟨i, j, rfl, rfl, e⟩ := liftI_split h
  cases e
  exact ⟨i, j, rq_int r1, rq_int r2, k _ H (.refl _) (.int _)⟩
theorem intB_d {f : Int → Int → Bool} : OpD K (rI0 fun i j => .bl (f i j)) (liftI fun i j => some (.bl (f i j))) := fun W H v1 v2 d1 d2 d Q wf r1 r2 h k => by
  obtain ⟨i, j, rfl, rfl, e⟩ := liftI_split h
  cases e
  exact ⟨i, j, rq_int r1, rq_int r2, k _ H (.refl _) (.bl _)⟩
def D.sub : D → D → Option D := liftI fun i j => some (.int (i - j))
theorem sub_d : OpD K (rI0 fun i j => .int (i - j)) D.sub := int0_d
def okMul (i j : Int) : Bool := decide (i.natAbs.log2 + j.natAbs.log2 < 1000000)
def D.mul : D → D → Option D := liftI fun i j => if okMul i j = true then some (.int (i * j)) else none
theorem mul_d : OpD K (rI CMulW fun i j => .int (i * j)) D.mul := int_d fun i j d h => by
  by_cases c : okMul i j = true
  · simp only [if_pos c] at h; cases h; exact ⟨of_decide_eq_true (p := i.natAbs.log2 + j.natAbs.log2 < 1000000) c, rfl⟩
  · simp only [if_neg c] at h; cases h
def okDiv (j : Int) : Bool := decide (0 < j ∧ j.natAbs.log2 < 9000)
def D.fdiv : D → D → Option D := liftI fun i j => if okDiv j = true then some (.int (i / j)) else none
theorem fdiv_d : OpD K (rI CDivW fun i j => .int (i / j)) D.fdiv := int_d fun i j d h => by
  by_cases c : okDiv j = true
  · simp only [if_pos c] at h; cases h; exact ⟨of_decide_eq_true (p := 0 < j ∧ j.natAbs.log2 < 9000) c, rfl⟩
  · simp only [if_neg c] at h; cases h
def D.mod : D → D → Option D := liftI fun i j => if j ≠ 0 then some (.int (i.fmod j)) else none
theorem mod_d : OpD K (rI (fun _ j => j ≠ 0) fun i j => .int (i.fmod j)) D.mod := int_d fun i j d h => by
  by_cases c : j ≠ 0
  · simp only [if_pos c] at h; cases h; exact ⟨c, rfl⟩
  · simp only [if_neg c] at h; cases h
def D.pow : D → D → Option D := liftI fun i j => if 0 ≤ j ∧ j ≤ 1000000 ∧ i.natAbs < 2 ^ 64 then some (.int (i ^ j.toNat)) else none
theorem pow_d : OpD K (rI CPow fun i j => .int (i ^ j.toNat)) D.pow := int_d fun i j d h => by
  by_cases c : 0 ≤ j ∧ j ≤ 1000000 ∧ i.natAbs < 2 ^ 64
  · simp only [if_pos c] at h; cases h; exact ⟨c, rfl⟩
  · simp only [if_neg c] at h; cases h
def D.lt : D → D → Option D := liftI fun i j => some (.bl (decide (i < j)))
def D.le : D → D → Option D := liftI fun i j => some (.bl (decide (i ≤ j)))
def D.gt : D → D → Option D := liftI fun i j => some (.bl (decide (j < i)))
def D.ge : D → D → Option D := liftI fun i j => some (.bl (decide (j ≤ i)))
theorem lt_d : OpD K (rI0 fun i j => .bl (decide (i < j))) D.lt := intB_d
theorem le_d : OpD K (rI0 fun i j => .bl (decide (i ≤ j))) D.le := intB_d
theorem gt_d : OpD K (rI0 fun i j => .bl (decide (j < i))) D.gt := intB_d
theorem ge_d : OpD K (rI0 fun i j => .bl (decide (j ≤ i))) D.ge := intB_d
/-- + of ints, tuples, lists, texts -/
def D.add : D → D → Option D
  | .int i, .int j => some (.int (i + j))
  | .tup xs, .tup ys => if xs.length + ys.length ≤ sizeLine then some (.tup (xs ++ ys)) else none
  | .lst xs, .lst ys => if xs.length + ys.length ≤ sizeLine then some (.lst (xs ++ ys)) else none
  | .str x, .str y => if x.length + y.length ≤ sizeLine then some (.str (x ++ y)) else none
  | _, _ => none
def rAddD (K : PySem.W.Frag) : R2 := fun x y H Q => rI0 (fun i j => .int (i + j)) x y H Q ∨ rCatZ K x y H Q ∨ rCat x y H Q ∨ ∃ i j, x = .str i ∧ y = .str j ∧ i.length + j.length ≤ sizeLine ∧ Q (.str (i ++ j)) H
theorem op_addD {X : Cx} : OpR X (binaryOp .Add) (rAddD X.K) := op_add.or (op_catZ.or (op_cat.or op_add_str))
theorem fresh_mu (wf : WfW W H) {p : Addr} (n : H p = none) : ¬ Mu W p := fun m => by
  obtain ⟨o, e⟩ := wf.dom p m
  rw [n] at e; cases e
theorem rq_lstH {v : V} {xs : List D} (r : Rq K W H v (.lst xs)) : ∃ a vs, v = .ref a ∧ H a = some (.lst vs) ∧ vs.length ≤ sizeLine ∧ Rps K W H vs xs := by
  cases r with
  | of r =>
    cases r with
    | lst n q z rs => exact ⟨_, _, rfl, q, z, rs⟩
  | lst n q z rs => exact ⟨_, _, rfl, q, z, rs⟩
theorem add_d : OpD K (rAddD K) D.add := fun W H v1 v2 d1 d2 d Q wf r1 r2 h k => by
  unfold D.add at h
  split at h
  · cases h
    exact .inl ⟨_, _, rq_int r1, rq_int r2, k _ H (.refl _) (.int _)⟩
  · rename_i xs ys
    by_cases c : xs.length + ys.length ≤ sizeLine
    · rw [if_pos c] at h
      cases h
      obtain ⟨a, vs, rfl, q1, z1, s1⟩ := rq_tup r1
      obtain ⟨b, ws, rfl, q2, z2, s2⟩ := rq_tup r2
      refine .inr (.inl ⟨a, b, vs, ws, rfl, rfl, q1.sqt, q2.sqt, by rw [s1.length, s2.length]; exact c, fun e => ?_, fun e1 e2 => ?_, fun e1 e2 p o hp ho => ?_⟩)
      · subst e
        cases s1
        exact k _ H (.refl _) (.tup q2 z2 s2)
      · subst e2
        cases s2
        refine k _ H (.refl _) (.tup q1 z1 ?_)
        rw [List.append_nil]; exact s1
      · have sm : Same H (upd H p (.frz o (.tup (vs ++ ws)))) := upd_Same hp
        exact k _ _ sm (.tup (.new ho) (by rw [List.length_append, s1.length, s2.length]; exact c) ((s1.append s2).stepE (.same sm)))
    · rw [if_neg c] at h; cases h
  · rename_i xs ys
    by_cases c : xs.length + ys.length ≤ sizeLine
    · rw [if_pos c] at h
      cases h
      obtain ⟨a, vs, rfl, q1, z1, s1⟩ := rq_lstH r1
      obtain ⟨b, ws, rfl, q2, z2, s2⟩ := rq_lstH r2
      refine .inr (.inr (.inl ⟨a, b, vs, ws, rfl, rfl, q1, q2, by rw [s1.length, s2.length]; exact c, fun p hp => ?_⟩))
      have sm : Same H (upd H p (.lst (vs ++ ws))) := upd_Same hp
      exact k _ _ sm (.lst (fresh_mu wf hp) upd_same (by rw [List.length_append, s1.length, s2.length]; exact c) ((s1.append s2).stepE (.same sm)))
    · rw [if_neg c] at h; cases h
  · rename_i x y
    by_cases c : x.length + y.length ≤ sizeLine
    · rw [if_pos c] at h
      cases h
      exact .inr (.inr (.inr ⟨x, y, rq_str r1, rq_str r2, c, k _ H (.refl _) (.str _)⟩))
    · rw [if_neg c] at h; cases h
  · cases h
def D.cat : D → D → Option D
  | .lst xs, .lst ys => if xs.length + ys.length ≤ sizeLine then some (.lst (xs ++ ys)) else none
  | _, _ => none
theorem cat_f : OpF K rCat D.cat := fun W H v1 v2 d1 d2 d Q wf r1 r2 h k => by
  unfold D.cat at h
  split at h
  · rename_i xs ys
    by_cases c : xs.length + ys.length ≤ sizeLine
    · rw [if_pos c] at h
      cases h
      obtain ⟨a, vs, rfl, q1, z1, s1⟩ := rq_lstH r1
      obtain ⟨b, ws, rfl, q2, z2, s2⟩ := rq_lstH r2
      exact ⟨a, b, vs, ws, rfl, rfl, q1, q2, by rw [s1.length, s2.length]; exact c, fun p hp => k p _ hp (by rw [List.length_append, s1.length, s2.length]; exact c) (s1.append s2)⟩
    · rw [if_neg c] at h; cases h
  · cases h
def D.isNon : D → Bool
  | .non => true
  | _ => false
def D.isN : D → D → Option D
  | x, .non => some (.bl x.isNon)
  | _, _ => none
def D.notN : D → D → Option D
  | x, .non => some (.bl (!x.isNon))
  | _, _ => none
theorem isN_v {v : V} {d : D} (r : Rq K W H v d) : decide (v = V.non) = d.isNon := by
  cases r with
  | of r => cases r <;> simp [D.isNon]
  | lst => simp [D.isNon]
  | dct => simp [D.isNon]
theorem isN_d : OpD K (fun x y H Q => y = .non ∧ Q (.bl (decide (x = .non))) H) D.isN := fun W H v1 v2 d1 d2 d Q wf r1 r2 h k => by
  unfold D.isN at h
  split at h
  · cases h
    exact ⟨rq_non r2, k _ H (.refl _) (by rw [isN_v r1]; exact .bl _)⟩
  · cases h
theorem notN_d : OpD K (fun x y H Q => y = .non ∧ Q (.bl (!decide (x = .non))) H) D.notN := fun W H v1 v2 d1 d2 d Q wf r1 r2 h k => by
  unfold D.notN at h
  split at h
  · cases h
    refine ⟨rq_non r2, k _ H (.refl _) ?_⟩
    rw [isN_v r1]
    exact .bl _
  · cases h

/-! ### == of data -/
mutual
def D.toP : D → PyData
  | .non => .none
  | .bl b => .bool b
  | .int i => .int i
  | .str x => .str x
  | .tup xs => .tuple (D.toPs xs)
  | .lst xs => .list (D.toPs xs)
  | .ty _ => .none
  | .ref _ => .none
  | .scr _ => .none
  | .dct _ _ => .none
def D.toPs : List D → List PyData
  | [] => []
  | x :: xs => x.toP :: D.toPs xs
end
mutual
/-- data to be compared: nested no deeper than n -/
def D.fit : D → Nat → Bool
  | .non, _ => true
  | .bl _, _ => true
  | .int _, _ => true
  | .str _, _ => true
  | .tup xs, n + 1 => D.fits xs n
  | .lst xs, n + 1 => D.fits xs n
  | _, _ => false
def D.fits : List D → Nat → Bool
  | [], _ => true
  | x :: xs, n => x.fit n && D.fits xs n
end
mutual
theorem fit_dp {v : V} : ∀ {d : D} {n : Nat}, d.fit n = true → Rp K W H v d → Dp K H v d.toP
  | .non, _, _, r => by cases r; exact .non
  | .bl b, _, _, r => by cases r; exact .bl b
  | .int i, _, _, r => by cases r; exact .int i
  | .str x, _, _, r => by cases r; exact .str x
  | .tup xs, n + 1, h, r => by
    cases r with
    | tup q z rs => exact .tup q.sqt (fits_dp (n := n) (by simpa [D.fit] using h) rs)
  | .lst xs, n + 1, h, r => by
    cases r with
    | lst m q z rs => exact .lst (.of q) (fits_dp (n := n) (by simpa [D.fit] using h) rs)
  | .tup xs, 0, h, _ => by simp [D.fit] at h
  | .lst xs, 0, h, _ => by simp [D.fit] at h
  | .ty _, _, h, _ => by simp [D.fit] at h
  | .ref _, _, h, _ => by simp [D.fit] at h
  | .scr _, _, h, _ => by simp [D.fit] at h
  | .dct _ _, _, h, _ => by simp [D.fit] at h
theorem fits_dp : ∀ {ds : List D} {vs : List V} {n : Nat}, D.fits ds n = true → Rps K W H vs ds → DpAll K H vs (D.toPs ds)
  | [], _, _, _, r => by cases r; exact .nil
  | d :: ds, _, n, h, r => by
    have h' : d.fit n = true ∧ D.fits ds n = true := by simpa [D.fits] using h
    cases r with
    | cons a b => exact .cons (fit_dp h'.1 a) (fits_dp h'.2 b)
end
theorem fit_dq {v : V} {d : D} {n : Nat} (h : d.fit n = true) (r : Rq K W H v d) : Dp K H v d.toP := by
  cases r with
  | of r => exact fit_dp h r
  | lst m q z rs =>
    cases n with
    | zero => simp [D.fit] at h
    | succ n => exact .lst (.of q) (fits_dp (n := n) (by simpa [D.fit] using h) rs)
  | dct => simp [D.fit] at h
mutual
theorem toP_plain : ∀ d : D, d.toP.plain = true
  | .non => rfl
  | .bl b => rfl
  | .int i => rfl
  | .str x => rfl
  | .tup xs => by simp only [D.toP, PyData.plain]; exact toPs_plain xs
  | .lst xs => by simp only [D.toP, PyData.plain]; exact toPs_plain xs
  | .ty _ => rfl
  | .ref _ => rfl
  | .scr _ => rfl
  | .dct _ _ => rfl
theorem toPs_plain : ∀ ds : List D, PyData.plainAll (D.toPs ds) = true
  | [] => rfl
  | d :: ds => by simp only [D.toPs, PyData.plainAll, toP_plain d, toPs_plain ds, Bool.and_self]
end
mutual
theorem fit_depth : ∀ {d : D} {n : Nat}, d.fit n = true → d.toP.depth ≤ n
  | .non, _, _ => by simp [D.toP, PyData.depth]
  | .bl b, _, _ => by simp [D.toP, PyData.depth]
  | .int i, _, _ => by simp [D.toP, PyData.depth]
  | .str x, _, _ => by simp [D.toP, PyData.depth]
  | .tup xs, n + 1, h => by
    have := fits_depth (ds := xs) (n := n) (by simpa [D.fit] using h)
    simp only [D.toP, PyData.depth]
    omega
  | .lst xs, n + 1, h => by
    have := fits_depth (ds := xs) (n := n) (by simpa [D.fit] using h)
    simp only [D.toP, PyData.depth]
    omega
  | .tup xs, 0, h => by simp [D.fit] at h
  | .lst xs, 0, h => by simp [D.fit] at h
  | .ty _, _, h => by simp [D.fit] at h
  | .ref _, _, h => by simp [D.fit] at h
  | .scr _, _, h => by simp [D.fit] at h
  | .dct _ _, _, h => by simp [D.fit] at h
theorem fits_depth : ∀ {ds : List D} {n : Nat}, D.fits ds n = true → PyData.depthAll (D.toPs ds) ≤ n
  | [], _, _ => by simp [D.toPs, PyData.depthAll]
  | d :: ds, n, h => by
    have h' : d.fit n = true ∧ D.fits ds n = true := by simpa [D.fits] using h
    have h1 := fit_depth h'.1
    have h2 := fits_depth h'.2
    simp only [D.toPs, PyData.depthAll]
    omega
end
def D.eqv (a b : D) : Bool := PyData.eqv a.toP b.toP
def D.eq (a b : D) : Option D := if (a.fit 60 && b.fit 60) = true then some (.bl (a.eqv b)) else none
def D.ne (a b : D) : Option D := if (a.fit 60 && b.fit 60) = true then some (.bl (!a.eqv b)) else none
def rEqP (K : PySem.W.Frag) : R2 := fun x y H Q => ∃ d e, Dp K H x d ∧ Dp K H y e ∧ d.plain = true ∧ e.plain = true ∧ d.depth ≤ 60 ∧ Q (.bl (PyData.eqv d e)) H
def rNeP (K : PySem.W.Frag) : R2 := fun x y H Q => ∃ d e, Dp K H x d ∧ Dp K H y e ∧ d.plain = true ∧ e.plain = true ∧ d.depth ≤ 60 ∧ Q (.bl (!PyData.eqv d e)) H
theorem op_eqP {X : Cx} (hu : X.A.units + 64 < cLine) : OpR X (compareOp .Eq) (rEqP X.K) := by
  intro pins s σ H x y v u Q I rx ry h
  obtain ⟨d, e, hd, he, sd, se, dd, q⟩ := h
  obtain ⟨as, r1⟩ := Dp.reads I d x v hd rx
  obtain ⟨bs, r2⟩ := Dp.reads I e y u he ry
  refine SeqAt.eq_plain r1 r2 sd se ?_ ⟨.bl _, H, I, rfl, q⟩
  have := Nat.min_le_left d.depth e.depth
  omega
theorem op_neP {X : Cx} (hu : X.A.units + 64 < cLine) : OpR X (compareOp .NotEq) (rNeP X.K) := by
  intro pins s σ H x y v u Q I rx ry h
  obtain ⟨d, e, hd, he, sd, se, dd, q⟩ := h
  obtain ⟨as, r1⟩ := Dp.reads I d x v hd rx
  obtain ⟨bs, r2⟩ := Dp.reads I e y u he ry
  refine SeqAt.ne_plain r1 r2 sd se ?_ ⟨.bl _, H, I, rfl, q⟩
  have := Nat.min_le_left d.depth e.depth
  omega
theorem eq_d : OpD K (rEqP K) D.eq := fun W H v1 v2 d1 d2 d Q wf r1 r2 h k => by
  unfold D.eq at h
  by_cases c : (d1.fit 60 && d2.fit 60) = true
  · rw [if_pos c] at h
    cases h
    have c' := Bool.and_eq_true_iff.mp c
    exact ⟨_, _, fit_dq c'.1 r1, fit_dq c'.2 r2, toP_plain _, toP_plain _, fit_depth c'.1, k _ H (.refl _) (.bl _)⟩
  · rw [if_neg c] at h; cases h
theorem ne_d : OpD K (rNeP K) D.ne := fun W H v1 v2 d1 d2 d Q wf r1 r2 h k => by
  unfold D.ne at h
  by_cases c : (d1.fit 60 && d2.fit 60) = true
  · rw [if_pos c] at h
    cases h
    have c' := Bool.and_eq_true_iff.mp c
    exact ⟨_, _, fit_dq c'.1 r1, fit_dq c'.2 r2, toP_plain _, toP_plain _, fit_depth c'.1, k _ H (.refl _) (.bl _)⟩
  · rw [if_neg c] at h; cases h
/-! ### in -/
def D.isIn (x y : D) : Option D := match y with
  | .lst ys => if (x.fit 50 && D.fits ys 50) = true then some (.bl (ys.any fun z => z.eqv x)) else none
  | .tup ys => if (x.fit 50 && D.fits ys 50) = true then some (.bl (ys.any fun z => z.eqv x)) else none
  | _ => none
def D.notIn (x y : D) : Option D := match y with
  | .lst ys => if (x.fit 50 && D.fits ys 50) = true then some (.bl (!ys.any fun z => z.eqv x)) else none
  | .tup ys => if (x.fit 50 && D.fits ys 50) = true then some (.bl (!ys.any fun z => z.eqv x)) else none
  | _ => none
def rInP (K : PySem.W.Frag) (neg : Bool) : R2 := fun x y H Q => ∃ d ds, Dp K H x d ∧ (Dp K H y (.list ds) ∨ Dp K H y (.tuple ds)) ∧ d.plain = true ∧ PyData.plainAll ds = true ∧ d.depth ≤ 50 ∧ Q (.bl (xor neg (ds.any fun z => PyData.eqv z d))) H
theorem op_inP {X : Cx} (hu : X.A.units + 64 < cLine) : OpR X (compareOp .In) (rInP X.K false) := by
  intro pins s σ H x y v u Q I rx ry h
  obtain ⟨d, ds, hd, he, sd, se, dd, q⟩ := h
  obtain ⟨as, r1⟩ := Dp.reads I d x v hd rx
  have m := Nat.min_le_right (PyData.depthAll ds) d.depth
  rcases he with he | he
  · obtain ⟨bs, r2⟩ := Dp.reads I _ y u he ry
    exact SeqAt.in_list_data r2 r1 se sd (by omega) ⟨.bl _, H, I, rfl, by simpa using q⟩
  · obtain ⟨bs, r2⟩ := Dp.reads I _ y u he ry
    exact SeqAt.in_tuple_data r2 r1 se sd (by omega) ⟨.bl _, H, I, rfl, by simpa using q⟩
theorem op_notInP {X : Cx} (hu : X.A.units + 64 < cLine) : OpR X (compareOp .NotIn) (rInP X.K true) := by
  intro pins s σ H x y v u Q I rx ry h
  obtain ⟨d, ds, hd, he, sd, se, dd, q⟩ := h
  obtain ⟨as, r1⟩ := Dp.reads I d x v hd rx
  have m := Nat.min_le_right (PyData.depthAll ds) d.depth
  rcases he with he | he
  · obtain ⟨bs, r2⟩ := Dp.reads I _ y u he ry
    exact SeqAt.notIn_list_data r2 r1 se sd (by omega) ⟨.bl _, H, I, rfl, by simpa using q⟩
  · obtain ⟨bs, r2⟩ := Dp.reads I _ y u he ry
    exact SeqAt.notIn_tuple_data r2 r1 se sd (by omega) ⟨.bl _, H, I, rfl, by simpa using q⟩
theorem toPs_map : ∀ ds : List D, D.toPs ds = ds.map D.toP
  | [] => rfl
  | d :: ds => by simp only [D.toPs, List.map_cons, toPs_map ds]
theorem in_d (neg : Bool) {g : D → D → Option D} (hg : ∀ x y d, g x y = some d → ∃ ys, (y = .lst ys ∨ y = .tup ys) ∧ x.fit 50 = true ∧ D.fits ys 50 = true ∧ d = .bl (xor neg (ys.any fun z => z.eqv x))) : OpD K (rInP K neg) g := fun W H v1 v2 d1 d2 d Q wf r1 r2 h k => by
  obtain ⟨ys, e, f1, f2, rfl⟩ := hg _ _ _ h
  refine ⟨d1.toP, D.toPs ys, fit_dq f1 r1, ?_, toP_plain _, toPs_plain _, fit_depth f1, k _ H (.refl _) ?_⟩
  · rcases e with rfl | rfl
    · obtain ⟨a, vs, rfl, q, z, rs⟩ := rq_lstH r2
      exact .inl (.lst (.of q) (fits_dp f2 rs))
    · obtain ⟨a, vs, rfl, q, z, rs⟩ := rq_tup r2
      exact .inr (.tup q.sqt (fits_dp f2 rs))
  · rw [toPs_map, List.any_map]
    exact .bl _
theorem isIn_d : OpD K (rInP K false) D.isIn := in_d false fun x y d h => by
  unfold D.isIn at h
  split at h
  · rename_i ys
    by_cases c : (x.fit 50 && D.fits ys 50) = true
    · rw [if_pos c] at h; cases h
      have c' := Bool.and_eq_true_iff.mp c
      exact ⟨ys, .inl rfl, c'.1, c'.2, by simp⟩
    · rw [if_neg c] at h; cases h
  · rename_i ys
    by_cases c : (x.fit 50 && D.fits ys 50) = true
    · rw [if_pos c] at h; cases h
      have c' := Bool.and_eq_true_iff.mp c
      exact ⟨ys, .inr rfl, c'.1, c'.2, by simp⟩
    · rw [if_neg c] at h; cases h
  · cases h
theorem notIn_d : OpD K (rInP K true) D.notIn := in_d true fun x y d h => by
  unfold D.notIn at h
  split at h
  · rename_i ys
    by_cases c : (x.fit 50 && D.fits ys 50) = true
    · rw [if_pos c] at h; cases h
      have c' := Bool.and_eq_true_iff.mp c
      exact ⟨ys, .inl rfl, c'.1, c'.2, by simp⟩
    · rw [if_neg c] at h; cases h
  · rename_i ys
    by_cases c : (x.fit 50 && D.fits ys 50) = true
    · rw [if_pos c] at h; cases h
      have c' := Bool.and_eq_true_iff.mp c
      exact ⟨ys, .inr rfl, c'.1, c'.2, by simp⟩
    · rw [if_neg c] at h; cases h
  · cases h
end
/-- -e of an int -/
def D.neg : D → Option D
  | .int i => some (.int (-i))
  | _ => none
def eUn (g : D → Option D) (f : Ex) : Ex := fun ρ S => (f ρ S).bind fun p => (g p.1).map fun z => (z, p.2)
theorem e_neg {X : Cx} {a : Expr} {f : Ex} {pos : Pos} (h : B X a f) : E X (.UnaryOp .USub a pos) (eUn D.neg f) := pe_imp (pe_un un_neg h) fun σ H Q ⟨W, ρ, S, d, S', rl, hf, k⟩ => by
  unfold eUn at hf
  cases e1 : f ρ S with
  | none => rw [e1] at hf; cases hf
  | some p =>
    rw [e1, Option.bind_some] at hf
    obtain ⟨x, S1⟩ := p
    cases x with
    | int i =>
      cases hf
      exact ⟨W, ρ, S, _, _, rl, e1, fun v H1 s1 st1 r1 => ⟨i, rq_int r1, k _ H1 s1 st1 (.int _)⟩⟩
    | _ => cases hf
end DL

set_option Elab.async false
set_option linter.all false
set_option maxRecDepth 100000
namespace DL
open PySem PySem.Spec PyProof.Rows L2

/-! ## 12. built-in functions -/
section
variable {K : Fw} {W : Wd} {H : Hp}
theorem rqs1 {vs : List V} {d : D} (r : Rqs K W H vs [d]) : ∃ v, vs = [v] ∧ Rq K W H v d := by
  cases r with
  | cons a b => cases b; exact ⟨_, rfl, a⟩
theorem rqs2 {vs : List V} {d d' : D} (r : Rqs K W H vs [d, d']) : ∃ v v', vs = [v, v'] ∧ Rq K W H v d ∧ Rq K W H v' d' := by
  cases r with
  | cons a b =>
    cases b with
    | cons a' b => cases b; exact ⟨_, _, rfl, a, a'⟩
def gGcd : List D → Option D
  | [.int a, .int b] => some (.int ((Nat.gcd a.natAbs b.natAbs : Nat) : Int))
  | _ => none
theorem gcd_d : CallD K rGcd gGcd := fun W H vs ds d Q wf r h k => by
  unfold gGcd at h
  split at h
  · cases h
    obtain ⟨v, v', rfl, r1, r2⟩ := rqs2 r
    exact ⟨_, _, by rw [rq_int r1, rq_int r2], k _ H (.refl _) (.int _)⟩
  · cases h
def gAbs : List D → Option D
  | [.int i] => some (.int (if i < 0 then -i else i))
  | _ => none
theorem abs_d : CallD K (fun xs H Q => ∃ i, xs = [.int i] ∧ Q (.int (if i < 0 then -i else i)) H) gAbs := fun W H vs ds d Q wf r h k => by
  unfold gAbs at h
  split at h
  · cases h
    obtain ⟨v, rfl, r1⟩ := rqs1 r
    exact ⟨_, by rw [rq_int r1], k _ H (.refl _) (.int _)⟩
  · cases h
def gMax2 : List D → Option D
  | [.int i, .int j] => some (.int (if j > i then j else i))
  | _ => none
theorem max2_d : CallD K (fun xs H Q => ∃ i j, xs = [.int i, .int j] ∧ Q (.int (if j > i then j else i)) H) gMax2 := fun W H vs ds d Q wf r h k => by
  unfold gMax2 at h
  split at h
  · cases h
    obtain ⟨v, v', rfl, r1, r2⟩ := rqs2 r
    exact ⟨_, _, by rw [rq_int r1, rq_int r2], k _ H (.refl _) (.int _)⟩
  · cases h
def gMin2 : List D → Option D
  | [.int i, .int j] => some (.int (if j < i then j else i))
  | _ => none
theorem min2_d : CallD K (fun xs H Q => ∃ i j, xs = [.int i, .int j] ∧ Q (.int (if j < i then j else i)) H) gMin2 := fun W H vs ds d Q wf r h k => by
  unfold gMin2 at h
  split at h
  · cases h
    obtain ⟨v, v', rfl, r1, r2⟩ := rqs2 r
    exact ⟨_, _, by rw [rq_int r1, rq_int r2], k _ H (.refl _) (.int _)⟩
  · cases h
def gInt : List D → Option D
  | [.int i] => some (.int i)
  | [.bl b] => some (.int (if b then 1 else 0))
  | _ => none
theorem int_c : CallD K (fun xs H Q => (∃ i, xs = [.int i] ∧ Q (.int i) H) ∨ ∃ k, xs = [.bl k] ∧ Q (.int (if k then 1 else 0)) H) gInt := fun W H vs ds d Q wf r h k => by
  unfold gInt at h
  split at h
  · cases h
    obtain ⟨v, rfl, r1⟩ := rqs1 r
    exact .inl ⟨_, by rw [rq_int r1], k _ H (.refl _) (.int _)⟩
  · cases h
    obtain ⟨v, rfl, r1⟩ := rqs1 r
    exact .inr ⟨_, by rw [rp_bl r1], k _ H (.refl _) (.int _)⟩
  · cases h
def gLen : List D → Option D
  | [.lst xs] => some (.int xs.length)
  | [.tup xs] => some (.int xs.length)
  | [.str x] => if x.length ≤ sizeLine then some (.int x.length) else none
  | _ => none
theorem len_d : CallD K (fun xs H Q => ∃ x n, xs = [x] ∧ LenV K x H n ∧ Q (.int (n : Nat)) H) gLen := fun W H vs ds d Q wf r h k => by
  unfold gLen at h
  split at h
  · cases h
    obtain ⟨v, rfl, r1⟩ := rqs1 r
    obtain ⟨a, ws, rfl, q, z, rs⟩ := rq_lstH r1
    exact ⟨_, ws.length, rfl, .inl ⟨_, .of q, rfl⟩, k _ H (.refl _) (by rw [rs.length]; exact .int _)⟩
  · cases h
    obtain ⟨v, rfl, r1⟩ := rqs1 r
    obtain ⟨a, ws, rfl, q, z, rs⟩ := rq_tup r1
    exact ⟨_, ws.length, rfl, .inr ⟨_, q.sqt, rfl⟩, k _ H (.refl _) (by rw [rs.length]; exact .int _)⟩
  · rename_i x
    by_cases z : x.length ≤ sizeLine
    · rw [if_pos z] at h; cases h
      obtain ⟨v, rfl, r1⟩ := rqs1 r
      exact ⟨.str x, x.length, by rw [rq_str r1], ⟨z, rfl⟩, k _ H (.refl _) (.int _)⟩
    · rw [if_neg z] at h; cases h
  · cases h
/-- all are ints -/
def intsOf : List D → Option (List Int)
  | [] => some []
  | .int i :: r => (intsOf r).map (i :: ·)
  | _ => none
theorem intsOf_rps : ∀ {ds : List D} {vs : List V} {ns : List Int}, intsOf ds = some ns → Rps K W H vs ds → vs = ns.map V.int
  | [], vs, ns, h, r => by cases h; cases r; rfl
  | .int i :: ds, vs, ns, h, r => by
    simp only [intsOf] at h
    obtain ⟨ms, h1, rfl⟩ := Option.map_eq_some_iff.mp h
    cases r with
    | cons a b => rw [rp_int a, intsOf_rps h1 b]; rfl
  | .non :: _, _, _, h, _ => by simp [intsOf] at h
  | .bl _ :: _, _, _, h, _ => by simp [intsOf] at h
  | .str _ :: _, _, _, h, _ => by simp [intsOf] at h
  | .ty _ :: _, _, _, h, _ => by simp [intsOf] at h
  | .tup _ :: _, _, _, h, _ => by simp [intsOf] at h
  | .lst _ :: _, _, _, h, _ => by simp [intsOf] at h
  | .ref _ :: _, _, _, h, _ => by simp [intsOf] at h
  | .scr _ :: _, _, _, h, _ => by simp [intsOf] at h
  | .dct _ _ :: _, _, _, h, _ => by simp [intsOf] at h
theorem intsOf_map : ∀ ns : List Int, intsOf (ns.map D.int) = some ns
  | [] => rfl
  | n :: ns => by simp [intsOf, intsOf_map ns]
/-- all are truth values -/
def boolsOf : List D → Option (List Bool)
  | [] => some []
  | .bl i :: r => (boolsOf r).map (i :: ·)
  | _ => none
theorem boolsOf_rps : ∀ {ds : List D} {vs : List V} {ns : List Bool}, boolsOf ds = some ns → Rps K W H vs ds → vs = ns.map V.bl
  | [], vs, ns, h, r => by cases h; cases r; rfl
  | .bl i :: ds, vs, ns, h, r => by
    simp only [boolsOf] at h
    obtain ⟨ms, h1, rfl⟩ := Option.map_eq_some_iff.mp h
    cases r with
    | cons a b => rw [rp_bl (.of a), boolsOf_rps h1 b]; rfl
  | .non :: _, _, _, h, _ => by simp [boolsOf] at h
  | .int _ :: _, _, _, h, _ => by simp [boolsOf] at h
  | .str _ :: _, _, _, h, _ => by simp [boolsOf] at h
  | .ty _ :: _, _, _, h, _ => by simp [boolsOf] at h
  | .tup _ :: _, _, _, h, _ => by simp [boolsOf] at h
  | .lst _ :: _, _, _, h, _ => by simp [boolsOf] at h
  | .ref _ :: _, _, _, h, _ => by simp [boolsOf] at h
  | .scr _ :: _, _, _, h, _ => by simp [boolsOf] at h
  | .dct _ _ :: _, _, _, h, _ => by simp [boolsOf] at h
theorem boolsOf_map : ∀ ns : List Bool, boolsOf (ns.map D.bl) = some ns
  | [] => rfl
  | n :: ns => by simp [boolsOf, boolsOf_map ns]
def gSum : List D → Option D
  | [.lst xs] => (intsOf xs).map fun ns => .int ns.sum
  | _ => none
theorem sum_d : CallD K (rSum K) gSum := fun W H vs ds d Q wf r h k => by
  unfold gSum at h
  split at h
  · obtain ⟨ns, e1, rfl⟩ := Option.map_eq_some_iff.mp h
    obtain ⟨v, rfl, r1⟩ := rqs1 r
    obtain ⟨a, ws, rfl, q, z, rs⟩ := rq_lstH r1
    exact ⟨a, ns, rfl, by rw [← intsOf_rps e1 rs]; exact .of q, k _ H (.refl _) (.int _)⟩
  · cases h
def gAll : List D → Option D
  | [.lst xs] => (boolsOf xs).map fun ns => .bl (ns.all id)
  | _ => none
theorem all_d : CallD K (rAll K) gAll := fun W H vs ds d Q wf r h k => by
  unfold gAll at h
  split at h
  · obtain ⟨ns, e1, rfl⟩ := Option.map_eq_some_iff.mp h
    obtain ⟨v, rfl, r1⟩ := rqs1 r
    obtain ⟨a, ws, rfl, q, z, rs⟩ := rq_lstH r1
    exact ⟨a, ns, rfl, by rw [← boolsOf_rps e1 rs]; exact .of q, k _ H (.refl _) (.bl _)⟩
  · cases h
def gAny : List D → Option D
  | [.lst xs] => (boolsOf xs).map fun ns => .bl (ns.any id)
  | _ => none
theorem any_d : CallD K (rAny K) gAny := fun W H vs ds d Q wf r h k => by
  unfold gAny at h
  split at h
  · obtain ⟨ns, e1, rfl⟩ := Option.map_eq_some_iff.mp h
    obtain ⟨v, rfl, r1⟩ := rqs1 r
    obtain ⟨a, ws, rfl, q, z, rs⟩ := rq_lstH r1
    exact ⟨a, ns, rfl, by rw [← boolsOf_rps e1 rs]; exact .of q, k _ H (.refl _) (.bl _)⟩
  · cases h
def gTuple : List D → Option D
  | [.lst xs] => some (.tup xs)
  | [.tup xs] => some (.tup xs)
  | _ => none
theorem tuple_d : CallD K (rTupleZ K) gTuple := fun W H vs ds d Q wf r h k => by
  unfold gTuple at h
  split at h
  · cases h
    obtain ⟨v, rfl, r1⟩ := rqs1 r
    obtain ⟨a, ws, rfl, q, z, rs⟩ := rq_lstH r1
    refine ⟨a, ws, rfl, .inl ⟨.of q, fun l o hl ho => ?_⟩⟩
    have sm : Same H (upd H l (.frz o (.tup ws))) := upd_Same hl
    exact k _ _ sm (.tup (.new ho) z (rs.stepE (.same sm)))
  · cases h
    obtain ⟨v, rfl, r1⟩ := rqs1 r
    obtain ⟨a, ws, rfl, q, z, rs⟩ := rq_tup r1
    exact ⟨a, ws, rfl, .inr ⟨q.sqt, k _ H (.refl _) (.tup q z rs)⟩⟩
  · cases h
def gList : List D → Option D
  | [.lst xs] => some (.lst xs)
  | [.tup xs] => some (.lst xs)
  | _ => none
theorem list_f : CallF K (fun xs H Q => ∃ p ys, xs = [.ref p] ∧ (SqL K H p ys ∨ SqT K H p ys) ∧ ∀ l, H l = none → Q (.ref l) (upd H l (.lst ys))) gList := fun W H vs ds d Q wf r h k => by
  unfold gList at h
  split at h
  · cases h
    obtain ⟨v, rfl, r1⟩ := rqs1 r
    obtain ⟨a, ws, rfl, q, z, rs⟩ := rq_lstH r1
    exact ⟨a, ws, rfl, .inl (.of q), fun l hl => k l _ hl z rs⟩
  · cases h
    obtain ⟨v, rfl, r1⟩ := rqs1 r
    obtain ⟨a, ws, rfl, q, z, rs⟩ := rq_tup r1
    exact ⟨a, ws, rfl, .inr q.sqt, fun l hl => k l _ hl z rs⟩
  · cases h
/-! isinstance -/
def D.isA : D → String → Option Bool
  | .non, n => kitB "NoneType" n
  | .bl _, n => kitB "bool" n
  | .int _, n => kitB "int" n
  | .str _, n => kitB "str" n
  | .tup _, n => kitB "tuple" n
  | .lst _, n => kitB "list" n
  | .dct _ _, n => kitB "dict" n
  | _, _ => none
theorem sqt_tyx {a : Addr} {vs : List V} (h : SqT K H a vs) : TyX K H (.ref a) (.type "tuple") := by
  rcases h with (h | ⟨o, h⟩) | ⟨o, its, n, h, hc, _⟩
  · exact .base (.tup h)
  · exact .fTuple h
  · exact .kTuple h hc
def gIsi : List D → Option D
  | [d, .ty n] => (d.isA n).map .bl
  | _ => none
theorem isi_d : CallD K (rIsi K) gIsi := fun W H vs ds d Q wf r h k => by
  unfold gIsi at h
  split at h
  · rename_i d1 n
    obtain ⟨b, e1, rfl⟩ := Option.map_eq_some_iff.mp h
    obtain ⟨v, v', rfl, r1, r2⟩ := rqs2 r
    have fin : ∀ {T : String}, TyX K H v (.type T) → kitB T n = some b → rIsi K [v, v'] H Q := fun t e => ⟨v, v', _, _, b, rfl, by rw [rq_ty r2]; exact .ty n, t, kit_ty e, k _ H (.refl _) (.bl _)⟩
    cases r1 with
    | of r1 =>
      cases r1 with
      | non => exact fin (.base .non) e1
      | bl b => exact fin (.base (.bl b)) e1
      | int i => exact fin (.base (.int i)) e1
      | str x => exact fin (.base (.str x)) e1
      | tup q z rs => exact fin (sqt_tyx q.sqt) e1
      | lst n q z rs => exact fin (.base (.lst q)) e1
      | dct n q z rs => exact fin (.base (.dK q)) e1
      | _ => cases e1
    | lst n q z rs => exact fin (.base (.lst q)) e1
    | dct n q z rs => exact fin (.base (.dK q)) e1
  · cases h
/-! sorted -/
def D.le' (a b : D) : Bool := !PySem.W.dataLt b.toP a.toP
def D.neTup : D → Bool
  | .tup (_ :: _) => true
  | _ => false
def D.plainKey : D → Bool
  | .bl _ => true
  | .int _ => true
  | .str _ => true
  | .lst _ => true
  | _ => false
def canSort (xs : List D) : Bool := xs.all (fun x => x.fit 40) && (xs.all fun x => xs.all fun y => PySem.W.alike x.toP y.toP) && (xs.all D.neTup || xs.all D.plainKey)
def gSorted : List D → Option D
  | [.lst xs] => if canSort xs = true then some (.lst (xs.mergeSort D.le')) else none
  | [.tup xs] => if canSort xs = true then some (.lst (xs.mergeSort D.le')) else none
  | _ => none
end
end DL
namespace DL
open PySem PySem.W PySem.Calls PyProof.Rows
section
variable {P : Program} {w : World} {A : Around} {E : Value → Shared → Prop} {s : Shared}
/-- sorted(x), x a list or a tuple of data: a new list at p, all else as it was -/
theorem sorted_seq (k : Kd) {β : Type} {F : Value → β → Prop} {enc : β → PyData} {vs : List Value} {bs : List β} {a : Addr} {Q : Value → Shared → Prop} (has : k.Has s.heap a vs.toArray) (each : EachIs F vs bs) (rd : EachIs (fun v b => ∃ as, Reads s.heap v (enc b) as) vs bs)
    (alike : AllAlike (bs.map enc)) (able : Sortable (bs.map enc)) (small : bs.length ≤ sizeLine) (room : ∀ b, b ∈ bs → A.units + 2 + (enc b).depth < cLine)
    (fin : ∀ (h1 h' : Heap) (c : Nat) (out : List Value), (∀ b o, s.heap.get? b = some o → h1.get? b = some o) → (∀ b o, h1.get? b = some o → h'.get? b = some o) → h'.get? h1.objs.size = some (seqObj "list" out.toArray c) → EachIs F out (bs.mergeSort (dataLe false enc)) → Q (.ref h1.objs.size) { s with heap := h' }) :
    wpAny (model P w) A (call (.builtin "sorted") [.ref a]) Q E s := by
  have len : vs.length ≤ sizeLine := by rw [each.length]; exact small
  have src : ∃ T o n, (T = "list" ∨ T = "tuple") ∧ s.heap.get? a = some o ∧ o.cls = .type T ∧ o.data = .seq vs.toArray n := match k, has with
    | .l, ⟨o, e, c, n, d⟩ => ⟨_, o, n, .inl rfl, e, c, d⟩
    | .t, ⟨o, e, c, n, d⟩ => ⟨_, o, n, .inr rfl, e, c, d⟩
  obtain ⟨T, o, n, hT, e0, c0, d0⟩ := src
  refine call_function_entry kind_sorted plain_sorted entry_sorted (args_sorted1 _) ?_
  unfold Builtin.«sorted»
  refine wpAny_bind (m := checkCount "sorted" 1 1 _) (wpAny_pure (wpAny_bind (wpAny_collect_seq a hT e0 c0 d0 (fun h1 old => wpAny_bind (wpAny_newList ?_ len)) (by simpa using len))))
  have at_ : (h1.push (seqObj "list" vs.toArray 0)).get? h1.objs.size = some (seqObj "list" vs.toArray 0) := Heap.get?_push_size _ rfl
  have mid : ∀ b o, s.heap.get? b = some o → (sortingHeap (h1.push (seqObj "list" vs.toArray 0)) h1.objs.size vs).get? b = some o := fun b o q => sortingHeap_old (Nat.ne_of_lt (Heap.lt_size (old b o q))) (Heap.get?_push_of_some _ (old b o q))
  have rd' : EachIs (fun v b => ∃ as, Reads (sortingHeap (h1.push (seqObj "list" vs.toArray 0)) h1.objs.size vs) v (enc b) as) vs bs := rd.mono fun _ _ ⟨as, r⟩ => ⟨as, PyProof.Rows.Reads.keeps mid r⟩
  obtain ⟨c, there⟩ := sortedHeap_at (out := (sortVals (dataKind (sortingHeap (h1.push (seqObj "list" vs.toArray 0)) h1.objs.size vs) (bs.map enc)) false vs vs).toArray) at_
  have S := SortsAt.data (prog := P) (w := w) (A := A.in1.in1) (s := { s with heap := sortingHeap (h1.push (seqObj "list" vs.toArray 0)) h1.objs.size vs }) (each_map (R := fun v d => ∃ as, Reads (sortingHeap (h1.push (seqObj "list" vs.toArray 0)) h1.objs.size vs) v d as) enc rd') alike able (bound_map room)
  refine wpAny_bind (wpAny_holding (wpAny_call_entry slot_list_sort ⟨_, at_, rfl⟩ entry_list_sort (list_sort_vals (s := { s with heap := h1.push (seqObj "list" vs.toArray 0) }) at_ S len ⟨_, rfl, wpAny_pure ⟨_, rfl, ?_⟩⟩) (args_list_sort _)))
  refine fin h1 _ c _ old (fun b o q => ?_) there (sortVals_data false each rd' alike)
  have lt := Heap.lt_size q
  exact (sortedHeap_old (Nat.ne_of_lt lt) (by rw [size_push']; exact Nat.lt_succ_of_lt lt)).trans (Heap.get?_push_of_some _ q)
end
end DL
namespace DL
open PySem PySem.Spec PyProof.Rows L2
/-- sorted(x), x a list or a tuple of data -/
def rSortedD (K : PySem.W.Frag) : List V → Hp → VK → Prop := fun xs H Q => ∃ (a : Addr) (vs : List V) (ps : List PyData), xs = [.ref a] ∧ (SqL K H a vs ∨ SqT K H a vs) ∧ DpAll K H vs ps ∧ PySem.W.AllAlike ps ∧ PySem.W.Sortable ps ∧ (∀ p ∈ ps, p.depth ≤ 40) ∧ vs.length ≤ sizeLine ∧
  ∀ p, H p = none → Q (.ref p) (upd H p (.lst (((vs.zip ps).mergeSort (PySem.W.dataLe false (·.2))).map (·.1))))
section
variable {X : Cx}
theorem each_of {α β γ : Type} {F : α → β → Prop} : ∀ {xs : List α} {us : List β}, Paired F xs us → ∀ {ps : List γ}, xs.length = ps.length → PySem.W.EachIs (fun u (b : α × γ) => F b.1 u) us (xs.zip ps)
  | _, _, .nil, [], _ => .nil
  | _, _, .cons a r, p :: ps, h => .cons a (each_of r (by simpa using h))
theorem dp_each {pins : List (Addr × Obj)} {σ : L2.St} {H : Hp} {s : Shared} (I : Inv X pins σ H s) : ∀ {vs : List V} {us : List Value} {ps : List PyData}, Vals vs us → DpAll X.K H vs ps → PySem.W.EachIs (fun u (b : V × PyData) => ∃ as, Reads s.heap u b.2 as) us (vs.zip ps)
  | _, _, _, .nil, .nil => .nil
  | _, _, _, .cons a r, .cons d t => .cons (Dp.reads I _ _ _ d a) (dp_each I r t)
theorem dpAll_length {K : PySem.W.Frag} {H : Hp} : ∀ {vs : List V} {ps : List PyData}, DpAll K H vs ps → vs.length = ps.length
  | _, _, .nil => rfl
  | _, _, .cons _ t => by simp [dpAll_length t]
theorem each_vals {γ : Type} : ∀ {us : List Value} {bs : List (V × γ)}, PySem.W.EachIs (fun u (b : V × γ) => RelV b.1 u) us bs → Vals (bs.map (·.1)) us
  | _, _, .nil => .nil
  | _, _, .cons a r => .cons a (each_vals r)
theorem zip_snd {α β : Type} : ∀ {xs : List α} {ys : List β}, xs.length = ys.length → (xs.zip ys).map (·.2) = ys
  | [], [], _ => rfl
  | _ :: xs, _ :: ys, h => by simp [zip_snd (xs := xs) (ys := ys) (by simpa using h)]
theorem cr_sortedD (hu : X.A.units + 64 < cLine) : CallR X (.builtin "sorted") (rSortedD X.K) := by
  rintro pins s σ H _ us Q I r ⟨a, vs, ps, rfl, src, dp, alike, able, deep, small, q⟩
  obtain ⟨_, rfl, e⟩ := vals1 r
  cases e
  have len := dpAll_length dp
  have snd : (vs.zip ps).map (·.2) = ps := zip_snd len
  have short : (vs.zip ps).length ≤ sizeLine := by rw [List.length_zip]; exact Nat.le_trans (Nat.min_le_left _ _) small
  obtain ⟨k, sq⟩ : ∃ k : Kd, k.Sq X.K H a vs := src.elim (fun x => ⟨.l, x⟩) fun x => ⟨.t, x⟩
  obtain ⟨its, rv, has⟩ := k.told I sq
  refine sorted_seq k (enc := fun b : V × PyData => b.2) has (each_of rv len) (dp_each I rv dp) (by rw [snd]; exact alike) (by rw [snd]; exact able) short (fun b hb => ?_) fun h1 h' c out old1 old2 at_ each => ?_
  · have := deep b.2 (List.of_mem_zip hb).2
    omega
  · have J : Inv X pins σ H { s with heap := h1 } := I.kept (t' := s.toks) old1
    refine ⟨.ref h1.objs.size, _, J.laid (t' := s.toks) (o := .lst (((vs.zip ps).mergeSort (PySem.W.dataLe false (·.2))).map (·.1))) old2 (Nat.le_refl _) ⟨?_, out, c, each_vals each, at_⟩, rfl, q _ (J.hok.fresh (Nat.le_refl _))⟩
    rw [List.length_map, List.length_mergeSort]
    exact short
end
section
variable {K : Fw} {W : Wd} {H : Hp}
theorem rps_zip : ∀ {vs : List V} {xs : List D}, Rps K W H vs xs → ∀ p ∈ vs.zip xs, Rp K W H p.1 p.2
  | _, _, .nil, p, h => by simp at h
  | _, _, .cons a b, p, h => by
    rw [List.zip_cons_cons, List.mem_cons] at h
    rcases h with rfl | h
    · exact a
    · exact rps_zip b p h
theorem rps_pairs : ∀ {l : List (V × D)}, (∀ p ∈ l, Rp K W H p.1 p.2) → Rps K W H (l.map (·.1)) (l.map (·.2))
  | [], _ => .nil
  | p :: l, h => .cons (h p List.mem_cons_self) (rps_pairs fun q hq => h q (List.mem_cons_of_mem _ hq))
theorem zip_map_snd {α β γ : Type} (f : β → γ) : ∀ (xs : List α) (ys : List β), xs.zip (ys.map f) = (xs.zip ys).map fun p => (p.1, f p.2)
  | [], _ => by simp
  | _ :: _, [] => by simp
  | x :: xs, y :: ys => by simp [zip_map_snd f xs ys]
theorem sort_pairs (vs : List V) (xs : List D) (h : vs.length = xs.length) :
    ((vs.zip (xs.map D.toP)).mergeSort (PySem.W.dataLe false (·.2))).map (·.1) = ((vs.zip xs).mergeSort fun p q => D.le' p.2 q.2).map (·.1) ∧ xs.mergeSort D.le' = ((vs.zip xs).mergeSort fun p q => D.le' p.2 q.2).map (·.2) := by
  constructor
  · rw [zip_map_snd, ← List.map_mergeSort (r := fun p q => D.le' p.2 q.2) (fun a _ b _ => rfl), List.map_map]
    rfl
  · rw [List.map_mergeSort (s := D.le') (fun a _ b _ => rfl), zip_snd h]
theorem neTup_toP {d : D} (h : d.neTup = true) : ∃ x r, d.toP = .tuple (x :: r) := by
  cases d with
  | tup xs =>
    cases xs with
    | nil => cases h
    | cons x xs => exact ⟨_, _, rfl⟩
  | _ => cases h
theorem plainKey_toP {d : D} (h : d.plainKey = true) : d.toP ≠ .none ∧ ∀ xs, d.toP ≠ .tuple xs := by
  cases d with
  | bl b => exact ⟨(fun z => nomatch z), (fun _ z => nomatch z)⟩
  | int b => exact ⟨(fun z => nomatch z), (fun _ z => nomatch z)⟩
  | str b => exact ⟨(fun z => nomatch z), (fun _ z => nomatch z)⟩
  | lst b => exact ⟨(fun z => nomatch z), (fun _ z => nomatch z)⟩
  | _ => cases h
theorem sorted_at {xs : List D} {a : Addr} {vs : List V} {Q : VK} (hs : SqL K H a vs ∨ SqT K H a vs) (z : vs.length ≤ sizeLine) (rs : Rps K W H vs xs) (c : canSort xs = true) (k : NewOk K W H Q (.lst (xs.mergeSort D.le'))) : rSortedD K [.ref a] H Q := by
  unfold canSort at c
  simp only [Bool.and_eq_true, List.all_eq_true] at c
  obtain ⟨⟨c1, c2⟩, c3⟩ := c
  have hfit : D.fits xs 40 = true := by
    have : ∀ ys : List D, (∀ x ∈ ys, x.fit 40 = true) → D.fits ys 40 = true := fun ys => by
      induction ys with
      | nil => intro _; rfl
      | cons y ys ih => intro h; simp only [D.fits, h y List.mem_cons_self, ih fun x hx => h x (List.mem_cons_of_mem _ hx), Bool.and_self]
    exact this xs c1
  obtain ⟨q1, q2⟩ := sort_pairs vs xs rs.length
  refine ⟨a, vs, D.toPs xs, rfl, hs, fits_dp hfit rs, ?_, ?_, ?_, z, fun p hp => ?_⟩
  · rw [toPs_map]
    intro d hd d' hd'
    obtain ⟨x, hx, rfl⟩ := List.mem_map.mp hd
    obtain ⟨y, hy, rfl⟩ := List.mem_map.mp hd'
    exact c2 x hx y hy
  · rw [toPs_map]
    rcases Bool.or_eq_true_iff.mp c3 with c3 | c3
    · refine .inl fun d hd => ?_
      obtain ⟨x, hx, rfl⟩ := List.mem_map.mp hd
      exact neTup_toP (List.all_eq_true.mp c3 x hx)
    · refine .inr fun d hd => ?_
      obtain ⟨x, hx, rfl⟩ := List.mem_map.mp hd
      exact plainKey_toP (List.all_eq_true.mp c3 x hx)
  · rw [toPs_map]
    intro d hd
    obtain ⟨x, hx, rfl⟩ := List.mem_map.mp hd
    exact fit_depth (c1 x hx)
  · rw [toPs_map, q1]
    have rs' : Rps K W H (((vs.zip xs).mergeSort fun p q => D.le' p.2 q.2).map (·.1)) (xs.mergeSort D.le') := by
      rw [q2]
      exact rps_pairs fun p hp => rps_zip rs p ((List.mergeSort_perm _ _).mem_iff.mp hp)
    refine k p _ hp ?_ rs'
    rw [List.length_map, List.length_mergeSort, List.length_zip]
    exact Nat.le_trans (Nat.min_le_left _ _) z
theorem sorted_f : CallF K (rSortedD K) gSorted := fun W H vs ds d Q wf r h k => by
  unfold gSorted at h
  split at h
  · rename_i xs
    by_cases c : canSort xs = true
    · rw [if_pos c] at h; cases h
      obtain ⟨v, rfl, r1⟩ := rqs1 r
      obtain ⟨a, ws, rfl, q, z, rs⟩ := rq_lstH r1
      exact sorted_at (.inl (.of q)) z rs c k
    · rw [if_neg c] at h; cases h
  · rename_i xs
    by_cases c : canSort xs = true
    · rw [if_pos c] at h; cases h
      obtain ⟨v, rfl, r1⟩ := rqs1 r
      obtain ⟨a, ws, rfl, q, z, rs⟩ := rq_tup r1
      exact sorted_at (.inr q.sqt) z rs c k
    · rw [if_neg c] at h; cases h
  · cases h
end
end DL

set_option Elab.async false
set_option linter.all false
set_option maxRecDepth 100000
/-! ## zip over drawn sources whose last pair is still in use -/
namespace DL
open PySem PySem.Spec PyProof.Rows L2
section
variable {P : Program} {w : World} {A : Around} {E : Value → Shared → Prop} {s : Shared} {z TI TO T i1 i2 : Addr} {f1 f2 : List Addr} {n1 n2 i : Nat} {P1 P2 : Nat → Value → Prop} {S1 S2 : Nat → Heap → Prop} {fl : Bool} {oT : Obj}
theorem held_item {Q : Fin → Shared → Prop} (S : ZipSep2 z TI TO i1 i2 f1 f2) (D1 : Draws P w A i1 f1 n1 P1 S1) (D2 : Draws P w A i2 f2 n2 P2 S2) (hz : IsZipHeld s.heap z TI TO T fl) (hT : s.heap.get? T = some oT) (hI : IsTupOf2 s.heap TI (.ref i1) (.ref i2))
    (a1 : S1 i s.heap) (a2 : S2 i s.heap) (l1 : i < n1) (l2 : i < n2)
    (next : ∀ u v h' tk, P1 i u → P2 i v → IsZipHeld h' z TI TO T true → S1 (i + 1) h' → S2 (i + 1) h' → h'.get? s.heap.objs.size = some (pairObj u v) → h'.objs.size = s.heap.objs.size + 1 →
      (∀ c o, c ≠ z → c ≠ i1 → c ≠ i2 → s.heap.get? c = some o → h'.get? c = some o) → Q (.done (.ret (.ref s.heap.objs.size))) { s with heap := h', toks := tk }) :
    wpAny (model P w) A (Builtin.«zip.__next__» ⟨[.ref z], []⟩) Q E s := by
  unfold Builtin.«zip.__next__»
  refine wpAny_bind (m := slotArgs "__next__" 0 _) (wpAny_pure ?_)
  refine wpAny_bind (wpAny_field hz rfl rfl ?_)
  refine wpAny_bind (wpAny_field hz rfl rfl ?_)
  refine wpAny_bind (wpAny_seqItems hI rfl ?_)
  refine wpAny_bind (wpAny_tupleHeld_zip hz hT fun h1 z1 o1 => ?_)
  have b1 := D1.over a1 o1 S.zf1
  have b2 := D2.over a2 o1 S.zf2
  simp only [Bool.false_eq_true, if_false, ← Array.forIn_toList, List.forIn_cons, List.forIn_nil]
  -- the first source
  refine wpAny_bind (wpAny_bind (wpAny_bind (wpAny_holding ?_)))
  show wpAny _ _ (Builtin.SmallTypes.nextOf (.ref i1) >>= fun x => pure (some x)) _ _ _
  refine wpAny_bind (D1.item i _ _ _ l1 b1 fun u h2 k2 pu c1 o2 => wpAny_pure (wpAny_pure (wpAny_bind (wpAny_bind (wpAny_holding ?_)))))
  show wpAny _ _ (Builtin.SmallTypes.nextOf (.ref i2) >>= fun x => pure (some x)) _ _ _
  refine wpAny_bind (D2.item i _ _ _ l2 (D2.over b2 o2 S.sep1_2) fun v h3 k3 pv c2 o3 => wpAny_pure (wpAny_pure (wpAny_pure ?_)))
  have e : h3.objs.size = s.heap.objs.size := o3.1.trans (o2.1.trans o1.1)
  refine wpAny_bind (wpAny_newTuple (wpAny_pure ?_) (show 2 ≤ sizeLine by decide))
  rw [show (h3.objs.size : Addr) = s.heap.objs.size from e]
  have on : ∀ c o, h3.get? c = some o → (h3.push (pairObj u v)).get? c = some o := fun c o => Heap.get?_push_of_some _
  have z3 : IsZipHeld h3 z TI TO T true := (o3.2 _ S.zi2).trans ((o2.2 _ S.zi1).trans z1)
  have w1 : S1 (i + 1) h3 := D1.over c1 o3 S.sep2_1
  refine next u v (h3.push (pairObj u v)) k3 pu pv (on _ _ z3) (D1.frame _ _ _ w1 fun b _ => on b) (D2.frame _ _ _ c2 fun b _ => on b) ?_ ?_ fun c o n n1 n2 x => on c o ?_
  · rw [← e]; exact Heap.get?_push_size _ rfl
  · rw [Heap.size_push, e]
  · exact o3.extBut c o n2 (o2.extBut c o n1 (o1.extBut c o n x))
theorem held_end {Q : Fin → Shared → Prop} (S : ZipSep2 z TI TO i1 i2 f1 f2) (D1 : Draws P w A i1 f1 n1 P1 S1) (D2 : Draws P w A i2 f2 n2 P2 S2) (hz : IsZipHeld s.heap z TI TO T fl) (hT : s.heap.get? T = some oT) (hI : IsTupOf2 s.heap TI (.ref i1) (.ref i2))
    (a1 : S1 i s.heap) (a2 : S2 i s.heap) (l1 : i ≤ n1) (l2 : i ≤ n2) (short : i = n1 ∨ i = n2)
    (stop : ∀ h' tk e, (∀ c o, c ≠ z → c ≠ i1 → c ≠ i2 → s.heap.get? c = some o → h'.get? c = some o) → (∃ o, h'.get? e = some o ∧ o.cls = .type "StopIteration") → E (.ref e) { s with heap := h', toks := tk }) :
    wpAny (model P w) A (Builtin.«zip.__next__» ⟨[.ref z], []⟩) Q E s := by
  unfold Builtin.«zip.__next__»
  refine wpAny_bind (m := slotArgs "__next__" 0 _) (wpAny_pure ?_)
  refine wpAny_bind (wpAny_field hz rfl rfl (wpAny_bind (wpAny_field hz rfl rfl (wpAny_bind (wpAny_seqItems hI rfl ?_)))))
  refine wpAny_bind (wpAny_tupleHeld_zip hz hT fun h1 z1 o1 => ?_)
  have b1 := D1.over a1 o1 S.zf1
  have b2 := D2.over a2 o1 S.zf2
  simp only [Bool.false_eq_true, if_false, ← Array.forIn_toList, List.forIn_cons, List.forIn_nil]
  refine wpAny_bind (wpAny_bind (wpAny_bind (wpAny_holding ?_)))
  show wpAny _ _ (Builtin.SmallTypes.nextOf (.ref i1) >>= fun x => pure (some x)) _ _ _
  by_cases c : i = n1
  · subst c
    exact wpAny_bind (D1.done _ _ _ b1 fun h2 e o2 => stop h2 s.toks e fun c o n n1 n2 x => o2 c o n1 (o1.extBut c o n x))
  · have c2 : i = n2 := short.resolve_left c
    subst c2
    refine wpAny_bind (D1.item i _ _ _ (by omega) b1 fun u h2 k2 pu c1 o2 => wpAny_pure (wpAny_pure (wpAny_bind (wpAny_bind (wpAny_holding ?_)))))
    show wpAny _ _ (Builtin.SmallTypes.nextOf (.ref i2) >>= fun x => pure (some x)) _ _ _
    exact wpAny_bind (D2.done _ _ _ (D2.over b2 o2 S.sep1_2) fun h3 e o3 => stop h3 k2 e fun c o n n1 n2 x => o3 c o n2 (o2.extBut c o n1 (o1.extBut c o n x)))
end
section
variable {P : Program} {w : World} {A : Around} {E : Value → Shared → Prop} {s : Shared} {z TI TO i1 i2 : Addr} {f1 f2 : List Addr} {n1 n2 i : Nat} {P1 P2 : Nat → Value → Prop} {S1 S2 : Nat → Heap → Prop}
/-- a zip at its place i; its last pair, if there is one, is in use, and is not d -/
def ZipRun (d z TI TO i1 i2 : Addr) (S1 S2 : Nat → Heap → Prop) (i : Nat) (h : Heap) : Prop :=
  IsTupOf2 h TI (.ref i1) (.ref i2) ∧ S1 i h ∧ S2 i h ∧ ((IsZip h z TI TO .none ∧ ∃ u v, IsTupOf2 h TO u v) ∨ ∃ T fl oT, IsZipHeld h z TI TO T fl ∧ h.get? T = some oT ∧ T ≠ d ∧ T ≠ z ∧ T ≠ i1 ∧ T ≠ i2)
variable {d : Addr}
theorem run_item {Q : Option Value → Shared → Prop} (S : ZipSep2 z TI TO i1 i2 f1 f2) (D1 : Draws P w A.in1 i1 f1 n1 P1 S1) (D2 : Draws P w A.in1 i2 f2 n2 P2 S2) (r : ZipRun d z TI TO i1 i2 S1 S2 i s.heap) (ld : d < s.heap.objs.size) (l1 : i < n1) (l2 : i < n2)
    (next : ∀ u v h' tk, P1 i u → P2 i v → ZipRun d z TI TO i1 i2 S1 S2 (i + 1) h' → h'.get? s.heap.objs.size = some (pairObj u v) → (∀ c o, c ∉ [z, TO, i1, i2] → s.heap.get? c = some o → h'.get? c = some o) →
      Q (some (.ref s.heap.objs.size)) { s with heap := h', toks := tk }) : wpAny (model P w) A (pyNext (.ref z)) Q E s := by
  obtain ⟨hI, a1, a2, ⟨hz, u0, v0, hO⟩ | ⟨T, fl, oT, hz, hT, td, tz, t1, t2⟩⟩ := r
  · have old : ∀ c, (∃ o, s.heap.get? c = some o) → s.heap.objs.size ≠ c := fun c ⟨o, e⟩ => Nat.ne_of_gt (Heap.lt_size e)
    refine wpAny_pyNext_zipD2_item S D1 D2 hz hI hO a1 a2 l1 l2 fun u v h' tk pu pv z' _ w1 w2 e _ mv => ?_
    refine next u v h' tk pu pv ⟨mv TI _ S.TIz S.TITO S.TIi1 S.TIi2 hI, w1, w2, .inr ⟨_, false, _, z', e, Nat.ne_of_gt ld, old z ⟨_, hz⟩, old i1 (D1.live _ _ a1), old i2 (D2.live _ _ a2)⟩⟩ e fun c o n => ?_
    simp only [List.mem_cons, List.not_mem_nil, or_false, not_or] at n
    exact mv c o n.1 n.2.1 n.2.2.1 n.2.2.2
  · have ty : s.TypeIs (.ref z) "zip" := ⟨_, hz, rfl⟩
    unfold pyNext
    refine wpAny_bind (wpAny_attempt (wpAny_callSpecial?_slot (name := Str.ofString "__next__") ty F.slot_zip_next (wpAny_call_entry F.slot_zip_next ty F.entry_zip_next ?_ (F.args_zip_next_1 _))))
    refine held_item S D1 D2 hz hT hI a1 a2 l1 l2 fun u v h' tk pu pv z' w1 w2 e _ mv => ⟨_, rfl, wpAny_pure ?_⟩
    refine next u v h' tk pu pv ⟨mv TI _ S.TIz S.TIi1 S.TIi2 hI, w1, w2, .inr ⟨T, true, oT, z', mv T _ tz t1 t2 hT, td, tz, t1, t2⟩⟩ e fun c o n => ?_
    simp only [List.mem_cons, List.not_mem_nil, or_false, not_or] at n
    exact mv c o n.1 n.2.2.1 n.2.2.2
theorem run_end {Q : Option Value → Shared → Prop} (S : ZipSep2 z TI TO i1 i2 f1 f2) (D1 : Draws P w A.in1 i1 f1 n1 P1 S1) (D2 : Draws P w A.in1 i2 f2 n2 P2 S2) (r : ZipRun d z TI TO i1 i2 S1 S2 i s.heap) (l1 : i ≤ n1) (l2 : i ≤ n2) (short : i = n1 ∨ i = n2)
    (stop : ∀ h' tk, (∀ c o, c ∉ [z, TO, i1, i2] → s.heap.get? c = some o → h'.get? c = some o) → Q none { s with heap := h', toks := tk }) : wpAny (model P w) A (pyNext (.ref z)) Q E s := by
  obtain ⟨hI, a1, a2, ⟨hz, u0, v0, hO⟩ | ⟨T, fl, oT, hz, hT, _⟩⟩ := r
  · refine wpAny_pyNext_zipD2_end S D1 D2 hz hI hO a1 a2 l1 l2 short fun h' tk mv => stop h' tk fun c o n => ?_
    simp only [List.mem_cons, List.not_mem_nil, or_false, not_or] at n
    exact mv c o n.1 n.2.1 n.2.2.1 n.2.2.2
  · have ty : s.TypeIs (.ref z) "zip" := ⟨_, hz, rfl⟩
    unfold pyNext
    refine wpAny_bind (wpAny_attempt (wpAny_callSpecial?_slot (name := Str.ofString "__next__") ty F.slot_zip_next (wpAny_call_entry F.slot_zip_next ty F.entry_zip_next ?_ (F.args_zip_next_1 _))))
    refine held_end S D1 D2 hz hT hI a1 a2 l1 l2 short fun h' tk e mv ⟨o, ho, cl⟩ => ?_
    refine wpAny_bind (wpAny_isInstance (T := "StopIteration") (b := true) ⟨o, ho, cl⟩ isSubtype_stop (wpAny_pure (stop h' tk fun c o n => ?_)))
    simp only [List.mem_cons, List.not_mem_nil, or_false, not_or] at n
    exact mv c o n.1 n.2.2.1 n.2.2.2
end
abbrev SrcAt (k : Kd) (it a : Addr) (us : Array Value) (i : Nat) (h : Heap) : Prop := 0 ≤ i ∧ k.Wk h it a i ∧ k.Has h a us
theorem srcAt_move (k : Kd) {it a : Addr} {us : Array Value} {i : Nat} {h h' : Heap} (x : SrcAt k it a us i h) (m1 : ∀ o, h.get? it = some o → h'.get? it = some o) (m2 : ∀ o, h.get? a = some o → h'.get? a = some o) : SrcAt k it a us i h' :=
  ⟨x.1, k.wk_at x.2.1 m1, k.has_at x.2.2 m2⟩
theorem has_there (k : Kd) {h : Heap} {a : Addr} {us : Array Value} (x : k.Has h a us) : ∃ o, h.get? a = some o := match k, x with
  | .l, ⟨o, e, _⟩ => ⟨o, e⟩
  | .t, ⟨o, e, _⟩ => ⟨o, e⟩
/-- the run of a zip over two sources stays where what it reads stays -/
theorem zipRun_move (k1 k2 : Kd) {d z TI TO i1 i2 a b : Addr} {us vs : Array Value} {i : Nat} {h h' : Heap} (r : ZipRun d z TI TO i1 i2 (SrcAt k1 i1 a us) (SrcAt k2 i2 b vs) i h) (nd : d ∉ [z, TI, TO, i1, i2, a, b])
    (mv : ∀ c o, c ≠ d → h.get? c = some o → h'.get? c = some o) : ZipRun d z TI TO i1 i2 (SrcAt k1 i1 a us) (SrcAt k2 i2 b vs) i h' := by
  simp only [List.mem_cons, List.not_mem_nil, or_false, not_or] at nd
  obtain ⟨dz, dI, dO, d1, d2, da, db⟩ := nd
  obtain ⟨r1, r2, r3, r4⟩ := r
  refine ⟨mv _ _ (Ne.symm dI) r1, srcAt_move k1 r2 (fun o => mv _ o (Ne.symm d1)) (fun o => mv _ o (Ne.symm da)), srcAt_move k2 r3 (fun o => mv _ o (Ne.symm d2)) (fun o => mv _ o (Ne.symm db)), ?_⟩
  rcases r4 with ⟨x, u, v, y⟩ | ⟨T, fl, oT, x, y, td, rest⟩
  · exact .inl ⟨mv _ _ (Ne.symm dz) x, u, v, mv _ _ (Ne.symm dO) y⟩
  · exact .inr ⟨T, fl, oT, mv _ _ (Ne.symm dz) x, mv _ _ td y, td, rest⟩
end DL

set_option Elab.async false
set_option linter.all false
set_option maxRecDepth 100000
set_option maxHeartbeats 1000000
/-! ## what an iterator without a length gives, gathered into a list and a tuple: each step is told what was gathered -/
namespace DL
open PySem PySem.Spec PyProof.Rows L2
abbrev IsL (h : Heap) (S : Addr) (acc : Array Value) (c : Nat) : Prop := h.get? S = some { cls := .type "list", dict := none, data := .seq acc c, slots := #[] }
/-- what an iterator gives, gathered into the list at S; St knows what is gathered -/
structure Gath (prog : Program) (w : World) (A : Around) (I S n : Nat) (St : Nat → Array Value → Shared → Prop) (Fi : Array Value → Shared → Prop) : Prop where
  item : ∀ (i : Nat) (acc : Array Value) (c : Nat) (s : Shared) (Q : Option Value → Shared → Prop) (E : Value → Shared → Prop), i < n → St i acc s → IsL s.heap S acc c →
    (∀ v s', St (i + 1) (acc.push v) s' → IsL s'.heap S acc c → Q (some v) s') → wpAny (model prog w) A (pyNext (.ref I)) Q E s
  done : ∀ (acc : Array Value) (c : Nat) (s : Shared) (Q : Option Value → Shared → Prop) (E : Value → Shared → Prop), St n acc s → IsL s.heap S acc c →
    (∀ s', Fi acc s' → IsL s'.heap S acc c → Q none s') → wpAny (model prog w) A (pyNext (.ref I)) Q E s
  frame : ∀ (i : Nat) (acc : Array Value) (s : Shared) (h' : Heap), St i acc s → (∀ b o, b ≠ S → s.heap.get? b = some o → h'.get? b = some o) → St i acc { s with heap := h' }
section
variable {P : Program} {w : World} {A : Around} {R : Result → Shared → Prop} {I S n : Nat} {St : Nat → Array Value → Shared → Prop} {Fi : Array Value → Shared → Prop}
theorem gath_loop (G : Gath P w A.in1 I S n St Fi) (small : n ≤ sizeLine) (res : Value) (i : Nat) (s : Shared) (acc : Array Value) (c : Nat) (le : i ≤ n) (sz : acc.size = i) (st : St i acc s) (ls : IsL s.heap S acc c)
    (out : ∀ s' acc' c', acc'.size = n → Fi acc' s' → IsL s'.heap S acc' c' → R (.ok (.ret res)) s') : codeAny (model P w) A (.builtin "list.extend.loop" ⟨[.ref S, .ref I, res], []⟩) R s := by
  refine codeAny_builtin F.entry_extend_loop ?_
  rw [Around.under_plainId F.plain_extend_loop _]
  refine wpAny_bind (m := pyNext (.ref I)) ?_
  rcases Nat.lt_or_ge i n with lt | ge
  · refine G.item i acc c s _ _ lt st ls fun v s' st' ls' => wpAny_bind (m := updateSeq S (·.push v)) (wpAny_updateSeq ls' rfl ?_ (by omega) (by show (acc.push v).size ≤ sizeLine + 1; simp; omega))
    exact wpAny_pure ⟨plainId_quiet F.plain_extend_loop _, gath_loop G small res (i + 1) _ (acc.push v) _ lt (by simp [sz]) (G.frame _ _ s' _ st' fun b o ne e => (Heap.get?_update_other _ _ ne.symm).trans e) (Heap.get?_update_self _ ls' rfl) out⟩
  · obtain rfl : i = n := Nat.le_antisymm le ge
    exact G.done acc c s _ _ st ls fun s' f ls' => wpAny_pure (out s' acc c sz f ls')
termination_by n - i
end
section
variable {P : Program} {w : World} {A : Around} {E : Value → Shared → Prop} {s : Shared} {I n : Nat} {St : Nat → Array Value → Shared → Prop} {Fi : Array Value → Shared → Prop}
theorem zip_no_len : typeLookup (.type "zip") "__len__" = pure none := by
  rw [typeLookup_type, builtinLookup_eq_fast]
  kernel_rfl
theorem zip_no_hint : typeLookup (.type "zip") "__length_hint__" = pure none := by
  rw [typeLookup_type, builtinLookup_eq_fast]
  kernel_rfl
/-- a zip tells no length -/
theorem zip_hint {Q : Bool → Shared → Prop} (zt : s.TypeIs (.ref I) "zip") (q : Q true s) : wpAny (model P w) A (Builtin.List.listLengthHint (.ref I)) Q E s := by
  unfold Builtin.List.listLengthHint
  exact wpAny_bind (wpAny_specialOf zt zip_no_len (wpAny_bind (m := specialOf (.ref I) "__length_hint__") (wpAny_specialOf zt zip_no_hint (wpAny_pure q))))
theorem gath_collect {Q : List Value → Shared → Prop} (G : Gath P w A.in1 I s.heap.objs.size n St Fi) (self : ∀ A' s' Q' E', St 0 #[] s' → Q' (.ref I) s' → wpAny (model P w) A' (pyIter (.ref I)) Q' E' s')
    (ty : ∀ i a s, St i a s → s.TypeIs (.ref I) "zip") (low : I < s.heap.objs.size) (st : ∀ h', (∀ b o, s.heap.get? b = some o → h'.get? b = some o) → h'.objs.size = s.heap.objs.size + 1 → St 0 #[] { s with heap := h' })
    (fin : ∀ s' acc, acc.size = n → Fi acc s' → Q acc.toList s') (small : n ≤ sizeLine) : wpAny (model P w) A (collect (.ref I)) Q E s := by
  unfold collect
  refine wpAny_bind (wpAny_runValue (codeAny_builtin F.entry_proto_collect ?_))
  rw [Around.under_plainId F.plain_proto_collect _]
  refine wpAny_bind (m := newList []) (wpAny_newObj_type (wpAny_pure ⟨plainId_quiet F.plain_list_iadd _, codeAny_builtin F.entry_list_iadd ?_⟩))
  rw [Around.under_plainId F.plain_list_iadd _]
  have room := st (s.heap.push { cls := .type "list", data := .seq #[] }) (fun _ _ => Heap.get?_push_of_some _) (Heap.size_push ..)
  have zt := ty 0 _ _ room
  have l0 : IsL (s.heap.push { cls := .type "list", data := .seq #[] }) s.heap.objs.size #[] 0 := Heap.get?_push_size _ rfl
  have other : Builtin.List.listSameRef (.ref s.heap.objs.size) (.ref I) = false := by simp [Builtin.List.listSameRef, Nat.ne_of_gt low]
  show wpAny _ _ (Builtin.List.listExtendWith (.ref s.heap.objs.size) (.ref I) (.ref s.heap.objs.size)) _ _ _
  unfold Builtin.List.listExtendWith
  refine wpAny_bind (wpAny_typeOf zt ?_)
  simp only [other, show (Value.type "zip" == Value.type "list") = false by decide, show (Value.type "zip" == Value.type "tuple") = false by decide, Bool.or_self, Bool.false_eq_true, if_false]
  refine wpAny_bind (self _ _ _ _ room (wpAny_bind (wpAny_holding (zip_hint zt ?_))))
  refine wpAny_bind (m := rule _) (wpAny_rule (wpAny_bind (m := Builtin.List.listTouch (.ref s.heap.objs.size)) (wpAny_bind (m := updateSeq s.heap.objs.size (·.push .none)) (wpAny_updateSeq l0 rfl ?_))))
  have l1 := Heap.get?_update_self (Obj.mapSeq (·.push Value.none)) l0 rfl
  refine wpAny_updateSeq l1 rfl (wpAny_pure ⟨plainId_quiet F.plain_extend_loop _, ?_⟩)
  refine gath_loop G small _ 0 _ #[] _ (Nat.zero_le n) rfl (G.frame 0 #[] ({ s with heap := s.heap.push { cls := .type "list", data := .seq #[] } }) _ room fun b o ne e => ?_) (Heap.get?_update_self (Obj.mapSeq (·.pop)) l1 rfl) fun s' acc' c' sz f ls => wpAny_bind (m := load s.heap.objs.size) (wpAny_load ls (wpAny_pure (fin s' acc' sz f)))
  exact (Heap.get?_update_other _ _ ne.symm).trans ((Heap.get?_update_other _ _ ne.symm).trans e)
theorem gath_tuple {Q : Value → Shared → Prop} (G : Gath P w A.in1.in1.in1 I s.heap.objs.size n St Fi) (self : ∀ A' s' Q' E', St 0 #[] s' → Q' (.ref I) s' → wpAny (model P w) A' (pyIter (.ref I)) Q' E' s')
    (ty : ∀ i a s, St i a s → s.TypeIs (.ref I) "zip") (zt : s.TypeIs (.ref I) "zip") (low : I < s.heap.objs.size) (st : ∀ h', (∀ b o, s.heap.get? b = some o → h'.get? b = some o) → h'.objs.size = s.heap.objs.size + 1 → St 0 #[] { s with heap := h' })
    (fin : ∀ s' acc, acc.size = n → Fi acc s' → Q (.ref s'.heap.objs.size) { s' with heap := s'.heap.push { cls := .type "tuple", data := .seq acc.toList.toArray } }) (small : n ≤ sizeLine) :
    wpAny (model P w) A (call (.type "tuple") [.ref I]) Q E s := by
  refine callType_codes (Q₁ := fun v s1 => s1.TypeIs v "tuple" ∧ Q v s1) F.called_tuple (F.typeCall_tuple_1 _) F.entry_object_init ?_
    fun v s1 got => ⟨got.1, F.args_object_init_2 v _, object_init_meets F.called_tuple.init.lookup F.called_tuple.made (by decide) P w A.in1 _ s1 ⟨got.1, rfl, got.2⟩⟩
  refine codeAny_of_tree (wpAny_bind (m := checkBuiltinCall "tuple.__new__" _) (wpAny_of_eq (F.newCall_tuple_1 _) (wpAny_pure ⟨plainId_quiet F.plain_tuple_new _, codeAny_builtin F.entry_tuple_new ?_⟩)))
  rw [Around.under_plainId F.plain_tuple_new _]
  have f1 := sub_tuple_self
  have f2 := init_tuple_lookup
  have f3 := madeHere_tuple
  have f4 : (Value.type "zip" == Value.type "tuple") = false := by decide
  wp_walk using wpAny_typeOf zt, gath_collect G self ty low st
  all_goals first | exact small | skip
  intro s' acc sz f
  refine wpAny_bind (wpAny_pure (wpAny_bind (m := Builtin.Tuple.tupleExact _) (wpAny_newObj_type (wpAny_pure ⟨⟨_, Heap.get?_push_size _ rfl, rfl⟩, fin s' acc sz f⟩) ?_)))
  show acc.toList.toArray.size ≤ sizeLine
  simpa [sz] using small
end
/-! ### tuple(zip(x, y)) of two tuples -/
/-- the pairs that were gathered: each a new tuple of the items at its place -/
structure ZGot (X : Cx) (pins : List (Addr × Obj)) (σ : L2.St) (H : Hp) (xs ys : List V) (i : Nat) (acc : Array Value) (s : Shared) (Hi : Hp) (ts : List V) : Prop where
  inv : Inv X pins σ Hi s
  sm : Same H Hi
  rel : Vals ts acc.toList
  len : ts.length = i
  prs : ∀ (j : Nat) (v : V), ts[j]? = some v → ∃ (T : Addr) (o : Obj) (x y : V), v = .ref T ∧ Hi T = some (.frz o (.tup [x, y])) ∧ o.dict = none ∧ xs[j]? = some x ∧ ys[j]? = some y
theorem ZGot.more {X : Cx} {pins : List (Addr × Obj)} {σ : L2.St} {H Hi : Hp} {xs ys ts : List V} {i : Nat} {acc : Array Value} {s s' : Shared} {T : Addr} {o : Obj} {x y : V} (g : ZGot X pins σ H xs ys i acc s Hi ts) (n : Hi T = none) (od : o.dict = none) (hx : xs[i]? = some x) (hy : ys[i]? = some y)
    (I : Inv X pins σ (upd Hi T (.frz o (.tup [x, y]))) s') : ZGot X pins σ H xs ys (i + 1) (acc.push (.ref T)) s' (upd Hi T (.frz o (.tup [x, y]))) (ts ++ [.ref T]) where
  inv := I
  sm := fun b u e => (upd_ne (ne_of_none (g.sm b u e) n)).trans (g.sm b u e)
  rel := by
    rw [Array.toList_push]
    exact g.rel.append (.cons rfl .nil)
  len := by rw [List.length_append, g.len]; rfl
  prs := fun j v e => by
    rcases Nat.lt_or_ge j ts.length with lt | ge
    · rw [List.getElem?_append_left lt] at e
      obtain ⟨T', o', x', y', a1, a2, r⟩ := g.prs j v e
      exact ⟨T', o', x', y', a1, (upd_ne (ne_of_none a2 n)).trans a2, r⟩
    · rw [List.getElem?_append_right ge] at e
      obtain ⟨z, rfl⟩ := List.getElem?_eq_some_iff.mp e
      have jl : j = ts.length := by simp only [List.length_cons, List.length_nil] at z; omega
      subst jl
      exact ⟨T, o, x, y, by simp, upd_same, od, by rw [g.len]; exact hx, by rw [g.len]; exact hy⟩
/-- what tuple(zip(x, y)) makes of the pair of argument tuples -/
def rTupZip (K : PySem.W.Frag) (vs : List V) (H : Hp) (Q : VK) : Prop := ∃ a b xs ys, vs = [.ref a, .ref b] ∧ SqT K H a xs ∧ SqT K H b ys ∧ xs.length ≤ sizeLine ∧
  ∀ (H' : Hp) (ts : List V) (p : Addr) (o : Obj), Same H H' → ts.length = min xs.length ys.length →
    (∀ (j : Nat) (v : V), ts[j]? = some v → ∃ (T : Addr) (o : Obj) (x y : V), v = .ref T ∧ H' T = some (.frz o (.tup [x, y])) ∧ o.dict = none ∧ xs[j]? = some x ∧ ys[j]? = some y) →
    H' p = none → o.dict = none → Q (.ref p) (upd H' p (.frz o (.tup ts)))
theorem pe_tupzip {X : Cx} {e e2 : Expr} {ta : TA} {p q pos qpos : Pos} (hcalm : X.calm = true) (hgT : Gl X "tuple") (hmT : X.mg "tuple" = none) (hg : Gl X "zip") (hm : X.mg "zip" = none) (ha : PA X [e, e2] ta)
    (hs : starEach [e, e2] X.env = (false, eval e X.env) :: starEach [e2] X.env := by rfl) (hpl : (backTo pos (starEach [e2] X.env)).any (·.1) = false := by rfl)
    (hsT : starEach [(.Call (.Name "zip" q) [e, e2] [] pos)] X.env = [(false, eval (.Call (.Name "zip" q) [e, e2] [] pos) X.env)] := by rfl) :
    PE X (.Call (.Name "tuple" p) [.Call (.Name "zip" q) [e, e2] [] pos] [] qpos) (tCB (rTupZip X.K) ta) := by
  refine ⟨fun pins s σ H Q I w => wpAny_Call_Name_kw (ld_blt I hgT hmT (by rfl) (PyProof.Rows.callWith_type1 ?_ hsT rfl) (by decide) (by decide))⟩
  rw [hsT]
  refine Calls.spliced_cons (Call_ (ld_blt I hg hm PyProof.Rows.boot_zip (PyProof.Rows.callWith_type1 (thn (ha.run pos pins s σ H _ I w) ?_) hs hpl)))
  rintro us s1 ⟨_, H1, J, r, a, b, xs, ys, rfl, qx, qy, small, q⟩
  obtain ⟨_, _, rfl, e1, e2⟩ := refs2 r
  cases e1
  cases e2
  obtain ⟨us, rx, px, _⟩ := J.tuple qx
  obtain ⟨vs, ry, py, _⟩ := J.tuple qy
  have la : a < s1.heap.objs.size := Kd.t.has_lt (vs := us.toArray) px
  have lb : b < s1.heap.objs.size := Kd.t.has_lt (vs := vs.toArray) py
  refine zip_begins2 (Kd.t.begins a us.toArray) (Kd.t.begins b vs.toArray) px py fun h' z p o w1 w2 sz old => Calls.spliced_nil ?_
  have S := zip_sep2 (N := s1.heap.objs.size) (fp1 := [a]) (fp2 := [b]) (fun c hc => List.mem_singleton.mp hc ▸ la) (fun c hc => List.mem_singleton.mp hc ▸ lb)
  have x1 : Kd.t.Has h' a us.toArray := Kd.t.has_at px (old a)
  have y1 : Kd.t.Has h' b vs.toArray := Kd.t.has_at py (old b)
  have nx := k1_apart .t x1 (Kd.t.wk0 w1)
  have ny := k1_apart .t y1 (Kd.t.wk0 w2)
  have cells : ∀ c ∈ [s1.heap.objs.size + 4, s1.heap.objs.size + 3, s1.heap.objs.size, s1.heap.objs.size + 1, h'.objs.size], s1.heap.objs.size ≤ c ∧ c ≤ h'.objs.size := fun c hc => by
    simp only [List.mem_cons, List.not_mem_nil, or_false] at hc
    rcases hc with rfl | rfl | rfl | rfl | rfl <;> rw [sz] <;> constructor <;> first | exact Nat.le_add_right _ _ | exact Nat.le_refl _ | exact Nat.add_le_add_left (by decide) _
  have lx : us.toArray.size = xs.length := List.size_toArray.trans rx.length.symm
  have ly : vs.toArray.size = ys.length := List.size_toArray.trans ry.length.symm
  have off : h'.objs.size ∉ [s1.heap.objs.size + 4, s1.heap.objs.size + 3, s1.heap.objs.size, s1.heap.objs.size + 1] := by
    rw [sz]
    simp only [List.mem_cons, List.not_mem_nil, or_false, not_or]
    refine ⟨?_, ?_, ?_, ?_⟩ <;> exact fun e => by have e : s1.heap.objs.size + 5 = _ := e; omega
  have off2 : h'.objs.size ∉ [s1.heap.objs.size + 4, s1.heap.objs.size + 2, s1.heap.objs.size + 3, s1.heap.objs.size, s1.heap.objs.size + 1, a, b] := by
    have la' : a < s1.heap.objs.size + 5 := Nat.lt_of_lt_of_le la (Nat.le_add_right _ _)
    have lb' : b < s1.heap.objs.size + 5 := Nat.lt_of_lt_of_le lb (Nat.le_add_right _ _)
    rw [sz]
    simp only [List.mem_cons, List.not_mem_nil, or_false, not_or]
    refine ⟨?_, ?_, ?_, ?_, ?_, Nat.ne_of_gt la', Nat.ne_of_gt lb'⟩ <;> exact fun e => by have e : s1.heap.objs.size + 5 = _ := e; omega
  have D1 : Draws X.prog X.w X.A.in1.in1.in1.in1 s1.heap.objs.size [s1.heap.objs.size, a] us.toArray.size (fun i x => us.toArray[i]? = some x) (SrcAt .t s1.heap.objs.size a us.toArray) := by
    have z := Kd.t.draws (P := X.prog) (w := X.w) (A := X.A.in1.in1.in1.in1) (J.ok.hd hcalm) nx us.toArray 0
    rwa [Nat.zero_max] at z
  have D2 : Draws X.prog X.w X.A.in1.in1.in1.in1 (s1.heap.objs.size + 1) [s1.heap.objs.size + 1, b] vs.toArray.size (fun i x => vs.toArray[i]? = some x) (SrcAt .t (s1.heap.objs.size + 1) b vs.toArray) := by
    have z := Kd.t.draws (P := X.prog) (w := X.w) (A := X.A.in1.in1.in1.in1) (J.ok.hd hcalm) ny vs.toArray 0
    rwa [Nat.zero_max] at z
  have start : ZGot X pins σ H1 xs ys 0 #[] { s1 with heap := h' } H1 [] := ⟨J.kept (t' := s1.toks) old, fun _ _ e => e, .nil, rfl, fun j v e => by simp at e⟩
  have G : Gath X.prog X.w X.A.in1.in1.in1 (s1.heap.objs.size + 4) h'.objs.size (min us.toArray.size vs.toArray.size)
      (fun i acc s' => ∃ Hi ts, ZGot X pins σ H1 xs ys i acc s' Hi ts ∧ (∀ c ∈ [s1.heap.objs.size + 4, s1.heap.objs.size + 3, s1.heap.objs.size, s1.heap.objs.size + 1, h'.objs.size], FpOk X pins Hi c) ∧
        ZipRun h'.objs.size (s1.heap.objs.size + 4) (s1.heap.objs.size + 2) (s1.heap.objs.size + 3) s1.heap.objs.size (s1.heap.objs.size + 1) (SrcAt .t s1.heap.objs.size a us.toArray) (SrcAt .t (s1.heap.objs.size + 1) b vs.toArray) i s'.heap ∧
        (i = 0 → IsZip s'.heap (s1.heap.objs.size + 4) (s1.heap.objs.size + 2) (s1.heap.objs.size + 3) .none))
      (fun acc s' => ∃ Hi ts, ZGot X pins σ H1 xs ys (min us.toArray.size vs.toArray.size) acc s' Hi ts) := by
    have wide : ∀ c, c ∉ [s1.heap.objs.size + 4, s1.heap.objs.size + 3, s1.heap.objs.size, s1.heap.objs.size + 1, h'.objs.size] → c ∉ [s1.heap.objs.size + 4, s1.heap.objs.size + 3, s1.heap.objs.size, s1.heap.objs.size + 1] := fun c n m => n (List.mem_append_left [h'.objs.size] m)
    refine ⟨?_, ?_, ?_⟩
    · rintro i acc c s' Q' E' lt ⟨Hi, ts, g, fp, run, _⟩ ls next
      have top : h'.objs.size < s'.heap.objs.size := Heap.lt_size ls
      have li := Nat.lt_of_lt_of_le lt (Nat.min_le_left _ _)
      have lj := Nat.lt_of_lt_of_le lt (Nat.min_le_right _ _)
      have hx : xs[i]? = some xs[i] := List.getElem?_eq_getElem (lx ▸ li)
      have hy : ys[i]? = some ys[i] := List.getElem?_eq_getElem (ly ▸ lj)
      refine run_item S D1 D2 run top li lj fun u v h2 tk hu hv run' e mv => next _ _ ⟨_, _, g.more (g.inv.hok.fresh (Nat.le_refl _)) rfl hx hy (pair_new (s := s') g.inv fp (fun c o n => mv c o (wide c n)) e (vals_arr rx hx hu) (vals_arr ry hy hv)), fun c hc => ?_, run', fun z => absurd z (Nat.succ_ne_zero i)⟩ (mv _ _ off ls)
      exact ⟨(upd_ne (Nat.ne_of_lt (Nat.lt_of_le_of_lt (cells c hc).2 top))).trans (fp c hc).1, (fp c hc).2⟩
    · rintro acc c s' Q' E' ⟨Hi, ts, g, fp, run, _⟩ ls stop
      exact run_end S D1 D2 run (Nat.min_le_left _ _) (Nat.min_le_right _ _) (by omega) fun h2 tk mv => stop _ ⟨Hi, ts, { g with inv := g.inv.turnedL (fun c o n => mv c o (wide c n)) fp }⟩ (mv _ _ off ls)
    · rintro i acc s' h2 ⟨Hi, ts, g, fp, run, first⟩ mv
      have nS : ∀ c, c ∉ [s1.heap.objs.size + 4, s1.heap.objs.size + 3, s1.heap.objs.size, s1.heap.objs.size + 1, h'.objs.size] → c ≠ h'.objs.size := fun c n e => n (by simp [e])
      exact ⟨Hi, ts, { g with inv := g.inv.turnedL (t' := s'.toks) (fun c o n => mv c o (nS c n)) fp }, fp, zipRun_move .t .t run off2 mv, fun e => mv _ _ (fun q => off (by simp [← q])) (first e)⟩
  refine gath_tuple (s := { s1 with heap := h' }) G (fun A' s' Q' E' ⟨_, _, _, _, _, first⟩ go => wpAny_pyIter_zip (first rfl) go) (fun i acc s' ⟨_, _, _, _, run, _⟩ => ?_) ⟨_, z, rfl⟩ ?_ (fun h2 mv _ => ⟨H1, [], ⟨(J.kept (t' := s1.toks) old).kept (t' := s1.toks) mv, start.sm, start.rel, start.len, start.prs⟩, fun c hc => J.fpOk (cells c hc).1 (J.hok.fresh (cells c hc).1), ?_, fun _ => mv _ _ z⟩) ?_ ?_
  · rcases run.2.2.2 with ⟨zz, _⟩ | ⟨_, _, _, zz, _⟩ <;> exact ⟨_, zz, rfl⟩
  · show s1.heap.objs.size + 4 < h'.objs.size
    rw [sz]; exact Nat.lt_succ_self _
  · exact ⟨mv _ _ p, srcAt_move .t ⟨Nat.le_refl _, Kd.t.wk0 w1, x1⟩ (mv _) (mv _), srcAt_move .t ⟨Nat.le_refl _, Kd.t.wk0 w2, y1⟩ (mv _) (mv _), .inl ⟨mv _ _ z, _, _, mv _ _ o⟩⟩
  · rintro s' acc _ ⟨Hi, ts, g⟩
    have tl : ts.length = min xs.length ys.length := by rw [g.len, lx, ly]
    exact tup_end g.inv g.rel (by rw [tl]; exact Nat.le_trans (Nat.min_le_left _ _) small) fun pp oo n d => q Hi ts pp oo g.sm tl g.prs n d
  · rw [lx]; exact Nat.le_trans (Nat.min_le_left _ _) small
end DL

set_option Elab.async false
set_option linter.all false
set_option maxRecDepth 100000
namespace DL
open PySem PySem.Spec PyProof.Rows L2

/-! ## 13. tuple(zip(x, y)) -/
def zipPair (xs ys : List D) : List D := (xs.zip ys).map fun p => .tup [p.1, p.2]
def gTupZip : List D → Option D
  | [.tup xs, .tup ys] => some (.tup (zipPair xs ys))
  | _ => none
section
variable {K : Fw} {W : Wd} {H : Hp}
theorem rps_of : ∀ {vs : List V} {ds : List D}, vs.length = ds.length → (∀ (j : Nat) (v : V) (d : D), vs[j]? = some v → ds[j]? = some d → Rp K W H v d) → Rps K W H vs ds
  | [], [], _, _ => .nil
  | v :: vs, d :: ds, h, k => .cons (k 0 v d rfl rfl) (rps_of (by simpa using h) fun j v' d' e e' => k (j + 1) v' d' (by simpa using e) (by simpa using e'))
theorem tupzip_d : CallD K (rTupZip K) gTupZip := fun W H vs ds d Q wf r h k => by
  unfold gTupZip at h
  split at h
  · rename_i xs ys
    cases h
    obtain ⟨v, v', rfl, r1, r2⟩ := rqs2 r
    obtain ⟨a, ws, rfl, q, z, rs⟩ := rq_tup r1
    obtain ⟨a', ws', rfl, q', z', rs'⟩ := rq_tup r2
    refine ⟨a, a', ws, ws', rfl, q.sqt, q'.sqt, z, fun H' ts p o sm hl hp hn ho => ?_⟩
    have l1 := rs.length
    have l2 := rs'.length
    have sm2 : Same H' (upd H' p (.frz o (.tup ts))) := upd_Same hn
    refine k _ _ (fun b u e => sm2 b u (sm b u e)) (.tup (.new ho) (by omega) (rps_of ?_ fun j v d e e' => ?_))
    · rw [hl]; unfold zipPair; rw [List.length_map, List.length_zip]; omega
    · obtain ⟨T, o', x, y, rfl, hT, hd, hx, hy⟩ := hp j v e
      unfold zipPair at e'
      rw [List.getElem?_map] at e'
      obtain ⟨pp, ep, rfl⟩ := Option.map_eq_some_iff.mp e'
      obtain ⟨dx, hdx, rx⟩ := rs.get' hx
      obtain ⟨dy, hdy, ry⟩ := rs'.get' hy
      obtain ⟨e3, e4⟩ := List.getElem?_zip_eq_some.mp ep
      rw [hdx] at e3
      rw [hdy] at e4
      cases e3
      cases e4
      have sm3 : Same H (upd H' p (.frz o (.tup ts))) := fun b u e => sm2 b u (sm b u e)
      exact .tup (.inl ⟨o', sm2 _ _ hT, hd⟩) (by show 2 ≤ sizeLine; decide) (.cons (rx.stepE (.same sm3)) (.cons (ry.stepE (.same sm3)) .nil))
  · cases h
end

/-! ## 14. dict(x), x a tuple of pairs -/
/-- dict(xs), xs a list or a tuple of pairs: later pairs win -/
def rDictZ (K : PySem.W.Frag) : List V → Hp → VK → Prop := fun xs H Q => ∃ (a : Addr) (ps : List Addr) (kvs : List (Key × V)), xs = [.ref a] ∧ TupAt K H a (ps.map V.ref) ∧ Paired (fun p kv => SqT K H p [kV kv.1, kv.2]) ps kvs ∧ ps.length ≤ sizeLine ∧
  ∀ p, H p = none → Q (.ref p) (upd H p (.dK (mergeK [] kvs)))
section
variable {X : Cx}
theorem pairs_ofZ {pins : List (Addr × Obj)} {σ : L2.St} {H : Hp} {s : Shared} (I : Inv X pins σ H s) : ∀ {ps : List Addr} {kvs : List (Key × V)}, Paired (fun p kv => SqT X.K H p [kV kv.1, kv.2]) ps kvs →
    ∃ (prs : List (Key × Value)) (vps : List (Value × Value)), KV kvs prs ∧ prs.length = ps.length ∧ vps.length = ps.length ∧ ∀ (j : Nat) (q : Value × Value), vps[j]? = some q → ∃ (b : Addr) (k : Key), ps[j]? = some b ∧ IsTup s.heap b #[q.1, q.2] ∧ prs[j]? = some (k, q.2) ∧ keyIs k q.1 = true
  | _, _, .nil => ⟨[], [], .nil, rfl, rfl, fun j q e => by simp at e⟩
  | _, _, .cons (a := p) (b := kv) h t => by
    obtain ⟨prs, vps, r, hl, hl2, hp⟩ := pairs_ofZ I t
    obtain ⟨its, rv, ht, _⟩ := I.tuple h
    obtain ⟨u, y, ei, ru, ry⟩ := vals2 rv
    subst ei
    refine ⟨(kv.1, y) :: prs, (u, y) :: vps, .cons ⟨rfl, ry⟩ r, by rw [List.length_cons, List.length_cons, hl], by rw [List.length_cons, List.length_cons, hl2], fun j q e => ?_⟩
    cases j with
    | zero =>
      have e' : (u, y) = q := Option.some.inj e
      subst e'
      exact ⟨p, kv.1, rfl, ht, rfl, kV_is (P := X.prog) (w := X.w) ru⟩
    | succ j =>
      obtain ⟨b, k, e1, e2, e3, e4⟩ := hp j q (by simpa using e)
      exact ⟨b, k, by simpa using e1, e2, by simpa using e3, e4⟩
theorem TupAt.plain {pins : List (Addr × Obj)} {σ : L2.St} {H : Hp} {s : Shared} (I : Inv X pins σ H s) {a : Addr} {vs : List V} (h : TupAt X.K H a vs) : ∃ its : Array Value, PlainSeq "tuple" s.heap a its ∧ Vals vs its.toList := by
  rcases h with ⟨o, h, hd⟩ | ⟨o, its, n, h1, h2, hd, h3, h4, h5⟩
  · have q := I.hok a _ h
    obtain ⟨e, z, vs', r, o', e', c, n, dd⟩ := q
    rw [e] at e'
    cases e'
    exact ⟨_, ⟨o, n, e, c, hd, dd⟩, r⟩
  · exact ⟨its, ⟨o, n, I.kIn a o h1, h2, hd, h3⟩, h5⟩
theorem call_dictZ (hcalm : X.calm = true) : CallR X (.type "dict") (rDictZ X.K) := by
  intro pins s σ H xs us Q I r q
  obtain ⟨a, ps, kvs, ex, hq, hp, hz, q⟩ := q
  subst ex
  obtain ⟨u, eu, rx⟩ := vals1 r
  subst eu
  cases rx
  obtain ⟨its, hpl, rv⟩ := TupAt.plain I hq
  have ei := refs_at rv
  obtain ⟨prs, vps, rel, hl, hl2, hpr⟩ := pairs_ofZ I hp
  have hits : ∀ (j : Nat) (b : Addr), ps[j]? = some b → its[j]? = some (.ref b) := fun j b e => by
    rw [← Array.getElem?_toList, ei, List.getElem?_map, e]; rfl
  have hsz : its.size = ps.length := by rw [← Array.length_toList, ei, List.length_map]
  have items : PySem.PairItems s.heap its (fun j => ps.getD j 0) vps := ⟨by rw [hsz, hl2], fun j k v e => by
    obtain ⟨b, kk, e1, e2, e3, e4⟩ := hpr j (k, v) e
    have eb : ps.getD j 0 = b := by rw [List.getD_eq_getElem?_getD, e1]; rfl
    refine ⟨?_, ?_⟩
    · show its[j]? = some (.ref (ps.getD j 0)); rw [eb]; exact hits j b e1
    · show PySem.PairAt s.heap (ps.getD j 0) k v; rw [eb]; exact .inl e2⟩
  refine PySem.call_dict_pairs (knd := mixKind X.prog X.w) (kvs := prs) (PySem.PairArg.tuple (prog := X.prog) (w := X.w) a its (fun j => ps.getD j 0) vps) (I.ok.hd hcalm) ⟨hpl, items⟩ ⟨by rw [hl, hl2], fun i key v hr => ?_⟩ (by rw [hl2]; exact hz) fun h' tk hd' k => ?_
  · obtain ⟨b, kk, e1, e2, e3, e4⟩ := hpr i (key, v) hr
    exact ⟨kk, e3, e4⟩
  · have hm : (s.heap.objs.size == sysModules) = false := beq_eq_false_iff_ne.mpr (Nat.ne_of_gt I.big)
    have hlen : (mergeK [] kvs).length ≤ sizeLine := by
      refine Nat.le_trans (length_mergeK kvs []) ?_
      rw [List.length_nil, Nat.zero_add, rel.length, hl]
      exact hz
    exact ⟨.ref s.heap.objs.size, upd H s.heap.objs.size (.dK (mergeK [] kvs)), I.laid (t' := tk) (fun b o e => k b o (by simp) e) (Nat.le_refl _) (show ObjOk X.prog X.w _ _ _ (.dK (mergeK [] kvs)) from ⟨hlen, hm, merged [] prs, KV.merge rel .nil, hd'⟩), rfl, q _ (I.hok.fresh (Nat.le_refl _))⟩
end
def D.key : D → Option Key
  | .int i => some (.inl i)
  | .str x => some (.inr x)
  | _ => none
def pairsOf : List D → Option (List (Key × D))
  | [] => some []
  | .tup [k, v] :: r => k.key.bind fun q => (pairsOf r).map ((q, v) :: ·)
  | _ => none
def putD (kvs : List (Key × D)) (k : Key) (v : D) : List (Key × D) :=
  if (kvs.any fun kv => decide (kv.1 = k)) = true then kvs.map (fun kv => if kv.1 = k then (kv.1, v) else kv) else kvs ++ [(k, v)]
def mergeD (kvs more : List (Key × D)) : List (Key × D) := more.foldl (fun acc kv => putD acc kv.1 kv.2) kvs
def gDict : List D → Option D
  | [.tup xs] => (pairsOf xs).map fun kvs => .dct ((mergeD [] kvs).map (·.1)) ((mergeD [] kvs).map (·.2))
  | _ => none
section
variable {K : Fw} {W : Wd} {H : Hp}
abbrev RKV (K : Fw) (W : Wd) (H : Hp) : List (Key × V) → List (Key × D) → Prop := Paired fun p q => p.1 = q.1 ∧ Rp K W H p.2 q.2
theorem rkv_any {k : Key} : ∀ {ps : List (Key × V)} {qs : List (Key × D)}, RKV K W H ps qs → (ps.any fun kv => decide (kv.1 = k)) = (qs.any fun kv => decide (kv.1 = k))
  | _, _, .nil => rfl
  | _, _, .cons a b => by simp only [List.any_cons, a.1, rkv_any b]
theorem rkv_app : ∀ {ps : List (Key × V)} {qs : List (Key × D)} {ps' : List (Key × V)} {qs' : List (Key × D)}, RKV K W H ps qs → RKV K W H ps' qs' → RKV K W H (ps ++ ps') (qs ++ qs')
  | _, _, _, _, .nil, h => h
  | _, _, _, _, .cons a b, h => .cons a (rkv_app b h)
theorem rkv_map {k : Key} {v : V} {d : D} (r : Rp K W H v d) : ∀ {ps : List (Key × V)} {qs : List (Key × D)}, RKV K W H ps qs → RKV K W H (ps.map fun kv => if kv.1 = k then (kv.1, v) else kv) (qs.map fun kv => if kv.1 = k then (kv.1, d) else kv)
  | _, _, .nil => .nil
  | _, _, .cons (a := p) (b := q) a b => by
    refine .cons ?_ (rkv_map r b)
    by_cases e : q.1 = k
    · simp only [a.1, e, if_pos]; exact ⟨trivial, r⟩
    · simp only [a.1, if_neg e]; exact ⟨trivial, a.2⟩
theorem rkv_put {k : Key} {v : V} {d : D} {ps : List (Key × V)} {qs : List (Key × D)} (h : RKV K W H ps qs) (r : Rp K W H v d) : RKV K W H (putK ps k v) (putD qs k d) := by
  unfold putK putD
  rw [rkv_any h]
  split
  · exact rkv_map r h
  · exact rkv_app h (.cons ⟨rfl, r⟩ .nil)
theorem rkv_merge : ∀ {ps : List (Key × V)} {qs : List (Key × D)} {acc : List (Key × V)} {acc' : List (Key × D)}, RKV K W H ps qs → RKV K W H acc acc' → RKV K W H (mergeK acc ps) (mergeD acc' qs)
  | _, _, _, _, .nil, h => h
  | _, _, acc, acc', .cons (a := p) (b := q) a b, h => by
    have : RKV K W H (putK acc p.1 p.2) (putD acc' q.1 q.2) := by rw [a.1]; exact rkv_put h a.2
    show RKV K W H (mergeK (putK acc p.1 p.2) _) (mergeD (putD acc' q.1 q.2) _)
    exact rkv_merge b this
theorem rkv_rps : ∀ {ps : List (Key × V)} {qs : List (Key × D)}, RKV K W H ps qs → ps = (qs.map (·.1)).zip (ps.map (·.2)) ∧ Rps K W H (ps.map (·.2)) (qs.map (·.2))
  | _, _, .nil => ⟨rfl, .nil⟩
  | _, _, .cons (a := p) (b := q) a b => by
    obtain ⟨h1, h2⟩ := rkv_rps b
    refine ⟨?_, .cons a.2 h2⟩
    rw [List.map_cons, List.map_cons, List.zip_cons_cons, ← h1, ← a.1]
theorem key_v {v : V} {d : D} {k : Key} (r : Rp K W H v d) (h : d.key = some k) : v = kV k := by
  cases d with
  | int i => cases h; exact rp_int r
  | str x => cases h; exact rq_str (.of r)
  | _ => cases h
theorem pairs_rps : ∀ {ds : List D} {vs : List V} {kvs : List (Key × D)}, pairsOf ds = some kvs → Rps K W H vs ds →
    ∃ (ps : List Addr) (kvs' : List (Key × V)), vs = ps.map V.ref ∧ Paired (fun p kv => SqT K H p [kV kv.1, kv.2]) ps kvs' ∧ RKV K W H kvs' kvs
  | [], _, _, h, r => by cases h; cases r; exact ⟨[], [], rfl, .nil, .nil⟩
  | .tup [k, v] :: ds, _, kvs, h, r => by
    simp only [pairsOf] at h
    obtain ⟨q, e1, h⟩ := Option.bind_eq_some_iff.mp h
    obtain ⟨kvs1, e2, rfl⟩ := Option.map_eq_some_iff.mp h
    cases r with
    | cons a b =>
      obtain ⟨ps, kvs', rfl, p1, p2⟩ := pairs_rps e2 b
      obtain ⟨t, ws, rfl, ht, _, rs⟩ := rq_tup (.of a)
      cases rs with
      | cons ra rb =>
        cases rb with
        | cons rb rc =>
          cases rc
          cases key_v ra e1
          exact ⟨t :: ps, (q, _) :: kvs', rfl, .cons ht.sqt p1, .cons ⟨rfl, rb⟩ p2⟩
  | .tup [] :: _, _, _, h, _ => by simp [pairsOf] at h
  | .tup [_] :: _, _, _, h, _ => by simp [pairsOf] at h
  | .tup (_ :: _ :: _ :: _) :: _, _, _, h, _ => by simp [pairsOf] at h
  | .int _ :: _, _, _, h, _ => by simp [pairsOf] at h
  | .non :: _, _, _, h, _ => by simp [pairsOf] at h
  | .bl _ :: _, _, _, h, _ => by simp [pairsOf] at h
  | .str _ :: _, _, _, h, _ => by simp [pairsOf] at h
  | .ty _ :: _, _, _, h, _ => by simp [pairsOf] at h
  | .lst _ :: _, _, _, h, _ => by simp [pairsOf] at h
  | .ref _ :: _, _, _, h, _ => by simp [pairsOf] at h
  | .scr _ :: _, _, _, h, _ => by simp [pairsOf] at h
  | .dct _ _ :: _, _, _, h, _ => by simp [pairsOf] at h
theorem dict_f : CallF K (rDictZ K) gDict := fun W H vs ds d Q wf r h k => by
  unfold gDict at h
  split at h
  · obtain ⟨kvs, e1, rfl⟩ := Option.map_eq_some_iff.mp h
    obtain ⟨v, rfl, r1⟩ := rqs1 r
    obtain ⟨a, ws, rfl, q, z, rs⟩ := rq_tup r1
    obtain ⟨ps, kvs', rfl, p1, p2⟩ := pairs_rps e1 rs
    refine ⟨a, ps, kvs', rfl, q, p1, by simpa using z, fun p hp => ?_⟩
    obtain ⟨m1, m2⟩ := rkv_rps (rkv_merge p2 .nil)
    rw [m1]
    exact k p _ hp (by rw [List.length_map, List.length_map]; have := m2.length; simpa using this.symm) m2
  · cases h

/-! ### d.get(k, x) -/
def dFind (ks : List Key) (ds : List D) (k : Key) : Option D := ((ks.zip ds).find? fun kv => decide (kv.1 = k)).map (·.2)
theorem find_rps {k : Key} : ∀ {ks : List Key} {vs : List V} {ds : List D}, Rps K W H vs ds →
    (valV (ks.zip vs) k = none ∧ dFind ks ds k = none) ∨ ∃ v d, valV (ks.zip vs) k = some v ∧ dFind ks ds k = some d ∧ Rp K W H v d
  | [], _, _, _ => .inl ⟨by simp [valV], by simp [dFind]⟩
  | _ :: _, _, _, .nil => .inl ⟨by simp [valV], by simp [dFind]⟩
  | k' :: ks, _, _, .cons (v := v) (d := d) a b => by
    by_cases e : k' = k
    · exact .inr ⟨v, d, by simp [valV, e], by simp [dFind, e], a⟩
    · rcases find_rps (k := k) (ks := ks) b with ⟨h1, h2⟩ | ⟨v', d', h1, h2, h3⟩
      · exact .inl ⟨by simpa [valV, e] using h1, by simpa [dFind, e] using h2⟩
      · exact .inr ⟨v', d', by simpa [valV, e] using h1, by simpa [dFind, e] using h2, h3⟩
end
def eGet2 (fo fe ff : Ex) : Ex := fun ρ S => (fo ρ S).bind fun p => (fe ρ p.2).bind fun q => (ff ρ q.2).bind fun r => match p.1 with
  | .dct ks ds => q.1.key.map fun k => ((dFind ks ds k).getD r.1, r.2)
  | _ => none
theorem rq_dct {K : Fw} {W : Wd} {H : Hp} {v : V} {ks : List Key} {ds : List D} (r : Rq K W H v (.dct ks ds)) : ∃ a vs, v = .ref a ∧ H a = some (.dK (ks.zip vs)) ∧ ks.length = vs.length ∧ Rps K W H vs ds := by
  cases r with
  | of r => cases r with
    | dct n h z rs => exact ⟨_, _, rfl, h, z, rs⟩
  | dct n h z rs => exact ⟨_, _, rfl, h, z, rs⟩
section
variable {X : Cx} {o e f : Expr} {fo fe ff : Ex} {apos cpos : Pos}
theorem e_get2 (hu : X.A.units + 1 < cLine) (ho : B X o fo) (he : E X e fe) (hf : E X f ff) (m : M2 X o "get" apos e f cpos) : E X (.Call (.Attribute o "get" apos) [e, f] [] cpos) (eGet2 fo fe ff) := pe_imp (pe_dget2 hu ho he hf m) fun σ H Q ⟨W, ρ, S, d, S', rl, hf, k⟩ => by
  unfold eGet2 at hf
  obtain ⟨⟨pd, S1⟩, e1, hf⟩ := Option.bind_eq_some_iff.mp hf
  obtain ⟨⟨qd, S2⟩, e2, hf⟩ := Option.bind_eq_some_iff.mp hf
  obtain ⟨⟨rd, S3⟩, e3, hf⟩ := Option.bind_eq_some_iff.mp hf
  cases pd with
  | dct ks ds =>
    obtain ⟨kk, e4, hf⟩ := Option.map_eq_some_iff.mp hf
    cases hf
    refine ⟨W, ρ, S, _, S1, rl, e1, fun v1 H1 s1 st1 r1 => ?_⟩
    have rl1 := rl.stepE s1 st1
    obtain ⟨a, vs, rfl, _, _, _⟩ := rq_dct r1
    refine ⟨a, rfl, ?_, W, ρ, S1, qd, S2, rl1, e2, fun v2 H2 s2 st2 r2 => ?_⟩
    · obtain ⟨a', vs, e, h, _, _⟩ := rq_dct r1
      cases e
      exact .inl ⟨_, .inl h⟩
    have rl2 := rl1.stepE s2 st2
    refine ⟨W, ρ, S2, rd, S3, rl2, e3, fun v3 H3 s3 st3 r3 => ?_⟩
    cases key_v r2 e4
    obtain ⟨a', vs, e, h, hl, rs⟩ := rq_dct (r1.stepE (s2.trans s3))
    cases e
    refine ⟨valV (ks.zip vs) kk, .k h, k _ _ ((s1.trans s2).trans s3) st3 ?_⟩
    rcases find_rps (k := kk) (ks := ks) rs with ⟨h1, h2⟩ | ⟨v', d', h1, h2, h3⟩
    · rw [h1, h2]; exact r3
    · rw [h1, h2]; exact h3
  | _ => cases hf
end

/-! ## 15. x.insert(i, y) -/
def gInsert : Cell → List D → Option (Cell × D)
  | .lst xs, [.int i, y] => if xs.length < sizeLine ∧ 0 ≤ i ∧ i < 2 ^ 63 then some (.lst (xs.take i.toNat ++ [y] ++ xs.drop i.toNat), .non) else none
  | _, _ => none
theorem insert_d {K : Fw} : MutD K (fun x vs H Q => ∃ (l : Addr) (xs : List V) (i : Int) (y : V), x = .ref l ∧ vs = [.int i, y] ∧ H l = some (.lst xs) ∧ xs.length < sizeLine ∧ 0 ≤ i ∧ i < 2 ^ 63 ∧
    Q .non (upd H l (.lst (xs.take i.toNat ++ [y] ++ xs.drop i.toNat)))) gInsert := fun W H a vs ds c c' d Q m cc rs h k => by
  unfold gInsert at h
  split at h
  · rename_i xs i y
    by_cases z : xs.length < sizeLine ∧ 0 ≤ i ∧ i < 2 ^ 63
    · rw [if_pos z] at h
      cases h
      obtain ⟨ws, e, hz, rw'⟩ := cc
      cases rs with
      | @cons y1 _ _ _ r1 r2 =>
        cases r2 with
        | @cons y2 _ _ _ r2 r3 =>
          cases r3
          cases rp_int r1
          have kp : Kps K W H W (upd H a (.lst (ws.take i.toNat ++ [y2] ++ ws.drop i.toNat))) := kps_cell e trivial m
          refine ⟨a, ws, i, y2, rfl, rfl, e, by rw [rw'.length]; exact z.1, z.2.1, z.2.2, k _ _ ⟨_, upd_same, ?_, (((rw'.take i.toNat).append (.cons r2 .nil)).append (rw'.drop i.toNat)).keeps kp⟩ .non⟩
          have := rw'.length
          rw [List.length_append, List.length_append, List.length_take, List.length_drop, List.length_singleton]
          omega
    · rw [if_neg z] at h; cases h
  · cases h
theorem insert_l : ∀ c ds z, gInsert c ds = some z → isLst c = true := fun c ds z h => by
  cases c with
  | lst xs => rfl
  | dct ks vs => cases h
  | dn b ks vs => cases h

/-! ## 16. a new list goes into the store -/
def sPub (i : Nat) (g : Stm) : Stm := fun ρ S => match ρ[i]? with
  | some (.ow c) => g (ρ.set i (.sh (.ref S.length))) (S ++ [c])
  | _ => none
def Wd.pub (W : Wd) (i : Nat) (a : Addr) : Wd := { W with θ := W.θ ++ [a], α := fun j => if j = i then none else W.α j }
theorem pub_rel {K : Fw} {W : Wd} {H : Hp} {σ : L2.St} {ρ : Rho} {S : Sto} {i : Nat} {c : Cell} (rl : Rel K W H σ ρ S) (hi : ρ[i]? = some (.ow c)) : ∃ a, StepS W H (W.pub i a) H ∧ Rel K (W.pub i a) H σ (ρ.set i (.sh (.ref S.length))) (S ++ [c]) := by
  have wf := rl.wf
  obtain ⟨a, h1, h2, h3⟩ := rl.sl i _ hi
  have al : ∀ {j b}, (W.pub i a).α j = some b → j ≠ i ∧ W.α j = some b := fun {j b} h => by
    unfold Wd.pub at h
    by_cases e : j = i
    · simp only [e, if_pos] at h; cases h
    · simp only [if_neg e] at h; exact ⟨e, h⟩
  have tm : ∀ b, b ∈ (W.pub i a).θ → b ∈ W.θ ∨ b = a := fun b h => by simpa [Wd.pub] using h
  have mt : ∀ b, Mt (W.pub i a) b → Mt W b := fun b m => m.elim (fun z => (tm b z).elim .inl fun e => .inr ⟨i, by rw [e]; exact h2⟩) fun ⟨j, h⟩ => .inr ⟨j, (al h).2⟩
  have st : StepS W H (W.pub i a) H := ⟨rfl, ⟨[a], rfl⟩, fun b h n => (tm b h).elim (fun z => absurd z n) fun e => .inl ⟨i, by rw [e]; exact h2⟩, fun b o h n => ⟨h, fun m => n (mt b m)⟩, fun _ _ h => h, fun _ _ _ h => h, fun _ o h => ⟨o, h⟩⟩
  have ha := wf.dis i a h2
  refine ⟨a, st, by rw [List.length_set]; exact rl.len, fun j x e => ?_, ⟨by show (W.θ ++ [a]).length = _; rw [List.length_append, List.length_append, rl.st.1]; rfl, fun l b cc e1 e2 => ?_⟩, ⟨?_, fun j l b h1 h2 => wf.inj j l b (al h1).2 (al h2).2, fun j b h => ⟨fun m => ?_, (wf.dis j b (al h).2).2⟩, fun b m => wf.dom b (m.elim .inl fun z => .inr (mt b z))⟩⟩
  · by_cases hj : i = j
    · subst hj
      rw [List.getElem?_set_self (List.getElem?_eq_some_iff.mp hi).1] at e
      cases e
      refine ⟨.ref a, h1, .ref ?_⟩
      show (W.θ ++ [a])[S.length]? = some a
      rw [← rl.st.1, List.getElem?_append_right (Nat.le_refl _), Nat.sub_self]
      rfl
    · rw [List.getElem?_set_ne hj] at e
      have q := rl.sl j x e
      cases x with
      | un => trivial
      | sh d => obtain ⟨v, q1, q2⟩ := q; exact ⟨v, q1, q2.step st⟩
      | ow cc =>
        obtain ⟨b, q1, q2, q3⟩ := q
        exact ⟨b, q1, by show (if j = i then none else W.α j) = some b; rw [if_neg (Ne.symm hj)]; exact q2, q3.keeps st.keeps rfl⟩
  · have e1' : (W.θ ++ [a])[l]? = some b := e1
    rcases Nat.lt_or_ge l W.θ.length with z | z
    · rw [List.getElem?_append_left z] at e1'
      rw [List.getElem?_append_left (by rw [← rl.st.1]; exact z)] at e2
      exact (rl.st.2 l b cc e1' e2).keeps st.keeps rfl
    · rw [List.getElem?_append_right z] at e1'
      rw [List.getElem?_append_right (by rw [← rl.st.1]; exact z)] at e2
      have hz : l - W.θ.length = 0 := by
        cases hq : l - W.θ.length with
        | zero => rfl
        | succ n => rw [hq] at e1'; simp at e1'
      rw [hz] at e1'
      rw [← rl.st.1, hz] at e2
      cases e1'
      cases e2
      exact h3.keeps st.keeps rfl
  · show (W.θ ++ [a]).Nodup
    rw [List.nodup_append]
    refine ⟨wf.nd, by simp, fun x hx y hy => ?_⟩
    simp at hy
    subst hy
    exact fun e => ha.1 (e ▸ hx)
  · rcases tm b m with z | z
    · exact (wf.dis j b (al h).2).1 z
    · subst z
      exact (al h).1 (wf.inj j i b (al h).2 h2)
section
variable {X : Cx} {rest : List Stmt} {a : Stm}
theorem pub_d {K : Fw} {g : Stm} {i : Nat} {Z : Ends} {σ : L2.St} {H : Hp} (h : tS K (sPub i g) Z σ H) : tS K g Z σ H := by
  obtain ⟨W, ρ, S, o, rl, hf, k⟩ := h
  unfold sPub at hf
  split at hf
  · rename_i c e
    obtain ⟨b, s1, r1⟩ := pub_rel rl e
    exact ⟨_, _, _, o, r1, hf, k.before s1⟩
  · cases hf
theorem ss_pub (i : Nat) (h : SS X rest a) : SS X rest (sPub i a) := pss_imp h fun _ _ _ h => pub_d h
end

/-! ## 17. a def that gives a new list -/
def spN (K : Fw) (n : Nat) (F : Fn) : Sp := fun vs H Q _ => ∃ (W : Wd) (ds : List D) (S : Sto) (d : D) (S' : Sto), ds.length = n ∧ Rps K W H vs ds ∧ StOk K W H S ∧ WfW W H ∧ F ds S = some (d, S') ∧
  ∀ v H', StepE W.θ H H' → Rf K W H H' S' v d → Q v H'
def fnE (n : Nat) (f : Ex) : Fn := fun ds S => f (rho0 n ds) S
section
variable {P : Program} {w : World} {K : PySem.W.Frag} {mg : Str → Option Value} {base : Heap}
theorem fnN_ok {x qual : Str} {st : Stmt} {f : Addr} {fd : FuncData} {N ps : List Str} {k : Nat} {g : Ex} (F : Fun K x qual st f fd) (Sc : FnScope N ps (defScope st)) (hl : ps.length ≤ N.length)
    (hb : ∀ (cdv : Value) (A : Around) (outer : List Env) (s : Shared) (H : Hp) (E : XK), Room k (A.deeper (envOfC qual (defScope st) s.heap.objs.size f cdv)) → PSs (cxOf CX0 P w K mg base N qual (defScope st) f cdv A outer s H E).nox (defBody st) fun Z σ H => tF ⟨K, w, P⟩ g σ H Z.rt) :
    FnOk P w K mg base CX0 (k + 1) f fd ps (spN ⟨K, w, P⟩ ps.length (fnE N.length g)) := by
  refine F.ok Sc (fun vs H Q E h => ?_) (fun cdv A outer s H vs Q E hr h => ?_)
  · obtain ⟨W, ds, S, d, S', hn, rs, _⟩ := h
    rw [rs.length]; exact hn
  · obtain ⟨W, ds, S, d, S', hn, rs, st0, wf, hf, k0⟩ := h
    refine ⟨_, hb cdv A outer s H E hr, ?_⟩
    have m0 : ∀ b, Mu (⟨W.θ, Mu W, fun _ => none⟩ : Wd) b ↔ Mu W b := fun b => by
      constructor
      · rintro (m | m | ⟨j, m⟩)
        · exact m
        · exact .inr (.inl m)
        · cases m
      · exact .inl
    have kp0 : Kps ⟨K, w, P⟩ W H (⟨W.θ, Mu W, fun _ => none⟩ : Wd) H := Kps.less rfl fun b m => (m0 b).mp m
    have wf0 : WfW (⟨W.θ, Mu W, fun _ => none⟩ : Wd) H := ⟨wf.nd, (fun i j a h => (by cases h)), (fun i a h => (by cases h)), fun a m => wf.dom a ((m0 a).mp m)⟩
    have rs0 := rs.keeps kp0
    have rl0 : Rel ⟨K, w, P⟩ (⟨W.θ, Mu W, fun _ => none⟩ : Wd) H (L2.start N vs) (rho0 N.length ds) S := by
      refine ⟨?_, rho0_slot rs0, st0.keeps rfl kp0 fun _ _ => rfl, wf0⟩
      rw [rho0_length (by rw [hn]; exact hl)]
      unfold L2.start
      rw [List.length_append, List.length_map, List.length_replicate, rs.length]
      omega
    refine ⟨_, _, S, d, S', rl0, hf, fun v H' s r => k0 v H' s ?_⟩
    have kl : ∀ a, Kps ⟨K, w, P⟩ ((⟨W.θ, Mu W, fun _ => none⟩ : Wd).plus a) H' (W.plus a) H' := fun a => Kps.less rfl fun b m => mu_plus.mpr ((mu_plus.mp m).imp (m0 b).mpr id)
    cases r with
    | lst n e z st r => exact .lst n e z (st.keeps rfl (kl _) fun _ _ => rfl) (r.keeps (kl _))
    | dct n e z st r => exact .dct n e z (st.keeps rfl (kl _) fun _ _ => rfl) (r.keeps (kl _))
end
section
variable {X : Cx} {e : Expr} {fs : Ars}
theorem n_call {F : Fn} {n : Nat} (h : PE X e (tCall (spN (FX X) n F) [] E0 (tA (FX X) fs))) (hn : ∀ (ρ : Rho) (S S' : Sto) (ds : List D), fs ρ S = some (ds, S') → ds.length = n) : N X e (eCall F fs) := pe_imp h fun σ H Q ⟨W, ρ, S, d, S', rl, hf, k⟩ => by
  unfold eCall at hf
  cases e1 : fs ρ S with
  | none => rw [e1] at hf; cases hf
  | some p =>
    rw [e1, Option.bind_some] at hf
    refine ⟨W, ρ, S, p.1, p.2, rl, e1, fun vs H1 s1 st1 r1 => ?_⟩
    show spN (FX X) n F (vs ++ []) H1 Q E0
    rw [List.append_nil]
    exact ⟨W, p.1, p.2, d, S', hn _ _ _ _ e1, r1, st1, rl.wf.stepE s1, hf, fun v H2 s2 r2 => k v H2 (s1.trans s2) (r2.before s1)⟩
theorem ret_n {pos : Pos} {f : Ex} (h : N X e f) : PSs X [.Return (some e) pos] fun Z σ H => tF (FX X) f σ H Z.rt := by
  exact pss_imp (pss_one (ps_ret h)) fun Z σ H q => q
end
end DL

set_option Elab.async false
set_option linter.all false
set_option maxRecDepth 100000
namespace DL
open PySem PySem.Spec PyProof.Rows L2

/-! ## 18. a, b = x, y -/
def sPar (i j : Nat) (fs : Ars) : Stm := fun ρ S => (fs ρ S).bind fun p => match p.1 with
  | [x, y] => some (.nx ((ρ.set i (.sh x)).set j (.sh y)) p.2)
  | _ => none
def sPar3 (i j l : Nat) (fs : Ars) : Stm := fun ρ S => (fs ρ S).bind fun p => match p.1 with
  | [x, y, z] => some (.nx (((ρ.set i (.sh x)).set j (.sh y)).set l (.sh z)) p.2)
  | _ => none
section
variable {X : Cx} {st : Stmt} {fs : Ars}
theorem st_par {i j : Nat} (h : PS X st (tPar i j (tA (FX X) fs))) : ST X st (sPar i j fs) := ps_imp h fun Z σ H ⟨W, ρ, S, o, rl, hf, k⟩ => by
  unfold sPar at hf
  obtain ⟨⟨ds, S1⟩, e1, hf⟩ := Option.bind_eq_some_iff.mp hf
  refine ⟨W, ρ, S, ds, S1, rl, e1, fun vs H1 s1 st1 r1 => ?_⟩
  have rl1 := rl.stepE s1 st1
  match ds, hf with
  | [x, y], hf =>
    cases hf
    cases r1 with
    | @cons v _ _ _ r1 r2 =>
      cases r2 with
      | @cons v2 _ _ _ r2 r3 =>
        cases r3
        exact ⟨v, v2, rfl, k W _ H1 s1.toS ((rl1.setSh r1).setSh r2)⟩
theorem st_par3 {i j l : Nat} (h : PS X st (tPar3 i j l (tA (FX X) fs))) : ST X st (sPar3 i j l fs) := ps_imp h fun Z σ H ⟨W, ρ, S, o, rl, hf, k⟩ => by
  unfold sPar3 at hf
  obtain ⟨⟨ds, S1⟩, e1, hf⟩ := Option.bind_eq_some_iff.mp hf
  refine ⟨W, ρ, S, ds, S1, rl, e1, fun vs H1 s1 st1 r1 => ?_⟩
  have rl1 := rl.stepE s1 st1
  match ds, hf with
  | [x, y, z], hf =>
    cases hf
    cases r1 with
    | @cons v _ _ _ r1 r2 =>
      cases r2 with
      | @cons v2 _ _ _ r2 r3 =>
        cases r3 with
        | @cons v3 _ _ _ r3 r4 =>
          cases r4
          exact ⟨v, v2, v3, rfl, k W _ H1 s1.toS (((rl1.setSh r1).setSh r2).setSh r3)⟩
end
theorem tF_D {K : Fw} {f : Ex} {σ : L2.St} {H : Hp} {Q : VK} (h : tD K f σ H Q) : tF K f σ H Q := by
  obtain ⟨W, ρ, S, d, S', r, hf, k⟩ := h
  exact ⟨W, ρ, S, d, S', r, hf, fun v H' s rp => k v H' s rp.st (rp.rp r.wf)⟩
/-! ## 19. how many arguments -/
def AL (fs : Ars) (n : Nat) : Prop := ∀ (ρ : Rho) (S S' : Sto) (ds : List D), fs ρ S = some (ds, S') → ds.length = n
theorem al0 : AL aNil 0 := aNil_len
theorem alS {f : Ex} {fs : Ars} {n : Nat} (h : AL fs n) : AL (aCons f fs) (n + 1) := aCons_len h
/-! ## 20. what the names of builtins give -/
theorem bt_len : bootBuiltins "len" = some (.builtin "len") := by decide +kernel
theorem bt_sum : bootBuiltins "sum" = some (.builtin "sum") := by decide +kernel
theorem bt_all : bootBuiltins "all" = some (.builtin "all") := by decide +kernel
theorem bt_any : bootBuiltins "any" = some (.builtin "any") := by decide +kernel
theorem bt_abs : bootBuiltins "abs" = some (.builtin "abs") := by decide +kernel
theorem bt_max : bootBuiltins "max" = some (.builtin "max") := by decide +kernel
theorem bt_min : bootBuiltins "min" = some (.builtin "min") := by decide +kernel
theorem bt_sorted : bootBuiltins "sorted" = some (.builtin "sorted") := by decide +kernel
theorem bt_isinstance : bootBuiltins "isinstance" = some (.builtin "isinstance") := by decide +kernel
theorem bt_repr : bootBuiltins "repr" = some (.builtin "repr") := by decide +kernel
theorem bt_int : bootBuiltins "int" = some (.type "int") := by decide +kernel
theorem bt_tuple : bootBuiltins "tuple" = some (.type "tuple") := by decide +kernel
theorem bt_list : bootBuiltins "list" = some (.type "list") := by decide +kernel
theorem bt_dict : bootBuiltins "dict" = some (.type "dict") := by decide +kernel
theorem bt_set : bootBuiltins "set" = some (.type "set") := by decide +kernel
theorem bt_bool : bootBuiltins "bool" = some (.type "bool") := by decide +kernel
theorem bt_str : bootBuiltins "str" = some (.type "str") := by decide +kernel
end DL
namespace DL
open PySem PySem.Spec PyProof.Rows L2
/-! ## 21. a def of the top, as the walk finds it -/
structure DefAt (K : PySem.W.Frag) (mg : Str → Option Value) (x q : Str) (st : Stmt) (ps : List Str) where
  f : Addr
  d : FuncData
  F : Fun K x q st f d
  m : mg x = some (.ref f)
  k : PySem.W.keepIn K (.ref f) = true
  b : Binds K d ps []
end DL

set_option Elab.async false
set_option linter.all false
set_option maxRecDepth 100000
namespace DL
open PySem PySem.Spec PyProof.Rows L2

/-! ## 22. the law's def, and the top -/
def spLaw (K : PySem.W.Frag) : Sp := fun vs H Q _ => ∃ (a : Addr) (ns : List Int), vs = [.ref a] ∧ ScrAt K H a ns ∧ ns.length ≤ 63 ∧ ∀ H', Q (.bl true) H'
theorem scr_of {K : PySem.W.Frag} {H : Hp} {a : Addr} {ns : List Int} (o : Only H) (h : SqL K H a (ns.map V.int)) : ScrAt K H a ns := by
  rcases h with (h | ⟨ob, h⟩) | h
  · rcases o a with e | ⟨ob, xs, e⟩
    · rw [h] at e; cases e
    · rw [h] at e; cases e
  · exact .inl ⟨ob, h⟩
  · exact .inr h
section
variable {P : Program} {w : World} {K : PySem.W.Frag} {mg : Str → Option Value} {base : Heap}
theorem fnL_ok {x qual : Str} {st : Stmt} {f : Addr} {fd : FuncData} {N ps : List Str} {k : Nat} {b : Stm} (F : Fun K x qual st f fd) (Sc : FnScope N ps (defScope st)) (hl : ps.length ≤ N.length) (h1 : ps.length = 1)
    (hb : ∀ (cdv : Value) (A : Around) (outer : List Env) (s : Shared) (H : Hp) (E : XK), Room k (A.deeper (envOfC qual (defScope st) s.heap.objs.size f cdv)) → SS (cxOf CX0 P w K mg base N qual (defScope st) f cdv A outer s H E).nox (defBody st) b)
    (math : ∀ ns : List Int, ns.length ≤ 63 → ∃ S', b (rho0 N.length [.scr ns]) [] = some (.rt (.bl true) S')) :
    FnOk P w K mg base CX0 (k + 1) f fd ps (spLaw K) := by
  refine F.ok Sc (fun vs H Q E h => ?_) (fun cdv A outer s H vs Q E hr h => ?_)
  · obtain ⟨a, ns, rfl, _⟩ := h
    exact h1.symm
  · obtain ⟨a, ns, rfl, hs, hn, k0⟩ := h
    refine ⟨_, hb cdv A outer s H E hr, ?_⟩
    obtain ⟨S', e⟩ := math ns hn
    have hm : ∀ b, ¬ Mu (⟨[], fun _ => False, fun _ => none⟩ : Wd) b := fun b m => by
      rcases m with m | m | ⟨j, m⟩
      · exact m
      · cases m
      · cases m
    have wf0 : WfW (⟨[], fun _ => False, fun _ => none⟩ : Wd) H := ⟨List.nodup_nil, (fun i j a h => (by cases h)), (fun i a h => (by cases h)), fun a m => absurd m (hm a)⟩
    have hz : ns.length ≤ sizeLine := Nat.le_trans hn (by decide)
    have rs0 : Rps ⟨K, w, P⟩ (⟨[], fun _ => False, fun _ => none⟩ : Wd) H [.ref a] [.scr ns] := .cons (.scr hz hs) .nil
    have rl0 : Rel ⟨K, w, P⟩ (⟨[], fun _ => False, fun _ => none⟩ : Wd) H (L2.start N [.ref a]) (rho0 N.length [.scr ns]) [] := by
      refine ⟨?_, rho0_slot rs0, ⟨rfl, fun l a c e => by simp at e⟩, wf0⟩
      rw [rho0_length (by show 1 ≤ N.length; omega)]
      unfold L2.start
      rw [List.length_append, List.length_map, List.length_replicate]
      show 1 + (N.length - 1) = N.length
      omega
    exact ⟨_, _, _, _, rl0, e, fun W' v H' _ _ _ r => by cases r; exact k0 H'⟩
theorem defAt_mk {h : Heap} {x q : Str} {st : Stmt} {ps : List Str} {f : Addr} {oc : Value} {od an : Option Addr} {osl : Array (Option Value)} {kV doc pm cdv ct : Value} (X : K.In h) (G : h.Ns mainGlobals mg)
    (a : PySem.W.nsIn K mainGlobals x = some (some (.ref f))) (l : K.lookup f = some ⟨oc, od, .func (PySem.W.fnOf x q (defArgs st) (defBody st) (defScope st) .none kV doc pm an cdv ct), osl⟩)
    (c : PySem.W.codeIn K cdv q = true) (k : PySem.W.keepIn K (.ref f) = true)
    (b : ∀ (kV doc pm : Value) (an : Option Addr) (cdv ct : Value) (us : List Value), us.length = ps.length → bindArgs (PySem.W.fnOf x q (defArgs st) (defBody st) (defScope st) .none kV doc pm an cdv ct) ⟨us, []⟩ = pure (ps.zip us)) :
    mg x = some (.ref f) ∧ Fun K x q st f (PySem.W.fnOf x q (defArgs st) (defBody st) (defScope st) .none kV doc pm an cdv ct) ∧ Binds K (PySem.W.fnOf x q (defArgs st) (defBody st) (defScope st) .none kV doc pm an cdv ct) ps [] :=
  ⟨PySem.W.mg_of X G a, fun_mk (st := st) l c k, (fun_mk (st := st) l c k).binds b⟩
theorem walkD {l : PySem.W.OpenLaw} {k : Nat} {q : Program} {loose : List Str} {XP : (Str → Option Value) → Heap → Prop} {YP : World → Heap → Prop} {d : DefRec} {K : Params → PySem.W.Frag} (hr : Room k callerA) (hn : l.most = some 63) (hdf : d.params.defaults = [])
    (hY : ∀ (w : World) (h : Heap), YP w h → (K w.params).In h)
    (F : ∀ (w : World) (mg : Str → Option Value) (fa : Addr) (h : Heap), (K w.params).In h → h.Ns mainGlobals mg → mg d.name = some (.ref fa) →
      ∃ fd : FuncData, (∀ (s : Shared) (u : Value), BindsTo s fd ⟨[u], []⟩ [("script", u)]) ∧ ∀ base : Heap, (K w.params).In base → base.Ns mainGlobals mg → FnOk l.prog w (K w.params) mg base CX0 k fa fd ["script"] (spLaw (K w.params))) :
    PySem.W.WalkO q loose XP YP l.row.toRowW d [] (fun f vs => PySem.call f vs) :=
  L2.walk_of (n := 63) (k := k) (x := "script") (CX := fun _ => CX0) (sp := fun w => spLaw (K w.params)) hn (by decide) hdf hr hY F (fun _ _ a ns hl ho hS => ⟨a, ns, rfl, scr_of ho hS, hl, fun _ => rfl⟩) fun _ _ _ _ _ z => z
end
end DL

set_option Elab.async false
set_option linter.all false
set_option maxRecDepth 100000
namespace DL
open PySem PySem.Spec PyProof.Rows L2

/-! ## 23. defs that are run where no guard is under way (repr asks that) -/
/-- the promise of a def, where the stack holds no guard -/
structure FnG (P : Program) (w : World) (K : PySem.W.Frag) (mg : Str → Option Value) (base : Heap) (k : Nat) (f : Addr) (fd : FuncData) (ps : List Str) (sp : Sp) : Prop where
  len : ∀ vs H Q E, sp vs H Q E → vs.length = ps.length
  go : ∀ (A : Around) (outer : List Env) (s : Shared) (H : Hp) (args : Args) (us : List Value) (vs : List V) (Q : VK) (E : XK), A.guards = some [] → Room k A → Env0 P w K mg base A outer s H → BindsTo s fd args (ps.zip us) → Vals vs us → sp vs H Q E →
    codeAny (model P w) A (.call (.ref f) args) (CR CX0 outer P w H s Q E) s
section
variable {P : Program} {w : World} {K : PySem.W.Frag} {mg : Str → Option Value} {base : Heap} {j k : Nat} {f : Addr} {fd : FuncData} {N ps : List Str} {sp : Sp}
theorem FnG.of (F : FnOk P w K mg base CX0 k f fd ps sp) : FnG P w K mg base k f fd ps sp := ⟨F.len, fun A outer s H args us vs Q E _ => F.run A outer s H args us vs Q E⟩
theorem funG_ok {x qual : Str} {st : Stmt} (F : Fun K x qual st f fd) (S : FnScope N ps (defScope st)) (len : ∀ vs H Q E, sp vs H Q E → vs.length = ps.length)
    (hb : ∀ (cdv : Value) (A : Around) (outer : List Env) (s : Shared) (H : Hp) (vs : List V) (Q : VK) (E : XK), A.guards = some [] → Room k (A.deeper (envOfC qual (defScope st) s.heap.objs.size f cdv)) → sp vs H Q E →
      ∃ t, PSs (cxOf CX0 P w K mg base N qual (defScope st) f cdv A outer s H E).nox (defBody st) t ∧ t { nx := fun _ H' => Q .non H', rt := Q } (start N vs) H) : FnG P w K mg base (k + 1) f fd ps sp := by
  obtain ⟨oc, od, kV, doc, pm, an, cdv, ct, osl, efd, lk, hcd⟩ := F.ex
  subst efd
  constructor
  · exact len
  · intro A outer s H args us vs Q E hG hr e0 hbind rel hsp
    have cnt := len _ _ _ _ hsp
    have up : ∀ b o, base.get? b = some o → s.heap.get? b = some o := fun b o e => (e0.bs b o e).1
    have KX : K.In s.heap := e0.mod.kin.keeps up
    have kinds : ∀ y ∈ ps.zip us, (defScope st).names.lookup y.1 = some .local ∨ ((defScope st).names.lookup y.1 = some .cell ∧ ((cellsFrom (s.heap.objs.size + 1) (defScope st).names []).lookup y.1).isSome = true) := by
      rintro ⟨n, v⟩ hy
      cases S.par n (List.of_mem_zip hy).1 with
      | inl q => exact .inl q
      | inr q => exact .inr ⟨q, PySem.W.cellsFrom_some _ _ _ (.inl q)⟩
    have rec_ := PySem.W.codeRec_of KX hcd
    refine codeAny_call_function hr.depth (KX _ _ lk) rfl S.co S.gen rfl rec_ (hbind _ _ _ _ (wpAny_newFunctionEnv_cells S.kind kinds fun env eEnv s1 moved => ?_))
    subst eEnv
    obtain ⟨t, ht, hq⟩ := hb cdv A outer s H vs Q E hG (hr.deeper _) hsp
    have start_inv : Inv (cxOf CX0 P w K mg base N qual (defScope st) f cdv A outer s H E) [] (start N vs) H s1 := inv_start S hr.hd e0 cnt rel moved
    refine ⟨(e0.mod.nolimit.keeps up).keeps moved.toInCall.keep, codeAny_func (wpAny_mono (ht.nox.run [] s1 (start N vs) H _ start_inv hq) (fun fl s' hs => ?_) fun _ _ hs => hs)⟩
    cases fl with
    | ret u => obtain ⟨v, σ', H', J, rv, q⟩ := hs; exact ⟨v, H', J.os, J.bare, J.base, J.hok, rv, q⟩
    | next => obtain ⟨σ', H', J, q⟩ := hs; exact ⟨V.non, H', J.os, J.bare, J.base, J.hok, rfl, q⟩
    | brk => obtain ⟨_, _, _, q⟩ := hs; exact q.elim
    | cont => obtain ⟨_, _, _, q⟩ := hs; exact q.elim
end
section
variable {X : Cx} {k : Nat} {f : Addr} {fd : FuncData} {ps : List Str} {sp : Sp} {x : Str} {p pos : Pos} {e : Expr} {es : List Expr} {t : TA}
theorem pe_callG (hG : X.A.guards = some []) (F : FnG X.prog X.w X.K X.mg X.base k f fd ps sp) (hr : Room k X.A) (hg : Gl X x) (hm : X.mg x = some (.ref f)) (hk : PySem.W.keepIn X.K (.ref f) = true) (hb : Binds X.K fd ps []) (ha : PA X (e :: es) t)
    (hdb : (x == ("__debug__" : Str)) = false := by decide) (he : starEach (e :: es) X.env = (false, eval e X.env) :: starEach es X.env := by rfl) (hpl : (backTo pos (starEach es X.env)).any (·.1) = false := by rfl) : PE X (.Call (.Name x p) (e :: es) [] pos) (tCall sp [] E0 t) := by
  refine ⟨fun pins s σ H Q I h => wpAny_Call_Name_kw (ld_glob I hg hm ?_ hdb)⟩
  refine PySem.W.callWith_K (h₀ := X.base) I.ok.mod.kin hk (thn (ha.run pos pins s σ H _ I h) fun us s1 ⟨vs, H1, I1, rel, q⟩ => ⟨I1.kIn, ?_⟩) he hpl
  have q' : sp vs H1 Q E0 := by
    have : sp (vs ++ []) H1 Q E0 := q
    rwa [List.append_nil] at this
  have cnt : us.length = ps.length := by rw [← rel.length]; exact F.len _ _ _ _ q'
  have bd : BindsTo s1 fd ⟨us, []⟩ (ps.zip us) := by
    have := hb s1 us I1.kIn (by rw [List.append_nil]; exact cnt)
    rwa [List.append_nil] at this
  refine wpAny_call (codeAny_mono (F.go X.A X.stack s1 H1 ⟨us, []⟩ us vs Q E0 hG hr I1.env0 bd rel q') fun r s' hq => ?_)
  match r, hq with
  | .ok (.ret u), hq => exact I1.after hq
  | .error e, hq => exact hq.elim
end
end DL

set_option Elab.async false
set_option linter.all false
set_option maxRecDepth 100000
namespace DL
open PySem PySem.Spec PyProof.Rows L2
/-! ## 24. the law's call, where no guard is under way -/
section
variable {P : Program} {w : World} {K : PySem.W.Frag} {mg mb : Str → Option Value} {k : Nat} {fa a : Addr} {fd : FuncData} {x : Str} {s₁ : Shared} {vs : List Value} {ns : List Int}
/-- the call over a ghost heap that knows the script at most -/
theorem law_core (KX : K.In s₁.heap) (hns : s₁.heap.Ns mainGlobals mg) (hb : s₁.heap.Ns builtinsNs mb) (hbb : ∀ x : Str, x ≠ "__name__" → mb x = bootBuiltins x) (hlim : s₁.heap.NoLimit) (hg : s₁.gens = #[])
    (ha : s₁.heap.get? a = some { cls := .type "list", data := .seq vs.toArray }) (hr : Room k callerA)
    (F : ∀ base : Heap, K.In base → base.Ns mainGlobals mg → FnG P w K mg base k fa fd [x] (spLaw K)) (hbind : ∀ (s : Shared) (u : Value), BindsTo s fd ⟨[u], []⟩ [(x, u)])
    {H : Hp} (hO : Only H) (hS : SqL K H a (ns.map V.int)) (hz : ns.length ≤ 63) (hok : HOk P w H s₁.heap) (hA : ∀ b, H b ≠ none → b = a) (hK : H a ≠ none → K.lookup a = none) :
    codeAny (model P w) callerA (.call (.ref fa) ⟨[.ref a], []⟩) (fun r s' => r = .ok (.ret (.bool true)) ∧ OldK s₁.heap s'.heap ∧ s'.os = s₁.os ∧ AllBare s'.gens) s₁ := by
  have old : ∀ {b : Addr} {o : Obj}, s₁.heap.get? b = some o → H b = none → (hidT s₁.heap H).get? b = some o := fun e n => hidT_get e n
  have off : ∀ {b : Addr} {o : Obj} {es : Array DictEntry} {ep : Nat}, s₁.heap.get? b = some o → o.data = .dict es ep → H b = none := by
    intro b o es ep e d
    by_cases q : H b = none
    · exact q
    · rw [hA b q, ha] at e
      cases e
      exact nomatch (show Data.seq vs.toArray _ = Data.dict es ep from d)
  have keepNs : ∀ {b : Addr} {m : Str → Option Value}, s₁.heap.Ns b m → (hidT s₁.heap H).Ns b m := fun {b m} h => by
    obtain ⟨o, es, ep, e, d, r⟩ := h
    exact ⟨o, es, ep, old e (off e d), d, r⟩
  have hKb : K.In (hidT s₁.heap H) := fun b o e => old (KX b o e) (by
    by_cases q : H b = none
    · exact q
    · have eb := hA b q
      rw [eb] at q e
      rw [hK q] at e
      cases e)
  obtain ⟨mc, c1, c2⟩ := hlim
  have M : Mod K mg (hidT s₁.heap H) := ⟨hKb, keepNs hns, ⟨mb, keepNs hb, hbb⟩, ⟨mc, keepNs c1, c2⟩⟩
  have e0 : Env0 P w K mg (hidT s₁.heap H) callerA [] s₁ H := ⟨rfl, M, fun b o e => of_hidT e, Nat.le_of_eq (hidT_size _ _), trivial, fun b hb => (List.not_mem_nil hb).elim, hok, .of_eq hg⟩
  have sp0 : spLaw K [.ref a] H (fun v _ => v = .bl true) E0 := ⟨a, ns, rfl, scr_of hO hS, hz, fun _ => rfl⟩
  refine codeAny_mono ((F _ hKb (keepNs hns)).go callerA [] s₁ H ⟨[.ref a], []⟩ [.ref a] [.ref a] _ _ rfl hr e0 (hbind s₁ (.ref a)) (.cons rfl .nil) sp0) fun r s' h => ?_
  match r, h with
  | .error e, h => exact h.elim
  | .ok (.ret u), h =>
    obtain ⟨v, H', os, bare, un, hok', rv, q⟩ := h
    cases (show v = .bl true from q)
    obtain rfl : u = Value.bool true := rv
    refine ⟨rfl, OldK.of_keep fun b o e => ?_, os, bare⟩
    rcases hO b with z | ⟨ob, xs, z⟩
    · exact un.keep b o e z (List.not_mem_nil (a := b)) (by simp)
    · obtain ⟨e1, _⟩ := hok b _ z
      obtain ⟨e2, _⟩ := hok' b _ (un.frzs b ob _ z)
      rw [e] at e1
      cases e1
      exact e2
theorem law_callG (KX : K.In s₁.heap) (hns : s₁.heap.Ns mainGlobals mg) (hb : s₁.heap.Ns builtinsNs mb) (hbb : ∀ x : Str, x ≠ "__name__" → mb x = bootBuiltins x) (hlim : s₁.heap.NoLimit) (hg : s₁.gens = #[])
    (ha : s₁.heap.get? a = some { cls := .type "list", data := .seq vs.toArray }) (hi : IntsAre vs ns) (hz : ns.length ≤ 63) (hr : Room k callerA)
    (F : ∀ base : Heap, K.In base → base.Ns mainGlobals mg → FnG P w K mg base k fa fd [x] (spLaw K)) (hbind : ∀ (s : Shared) (u : Value), BindsTo s fd ⟨[u], []⟩ [(x, u)]) :
    codeAny (model P w) callerA (.call (.ref fa) ⟨[.ref a], []⟩) (fun r s' => r = .ok (.ret (.bool true)) ∧ OldK s₁.heap s'.heap ∧ s'.os = s₁.os ∧ AllBare s'.gens) s₁ := by
  have rv := vals_ints hi
  have lenV := hi.length
  have hl : ns.length ≤ sizeLine := Nat.le_trans hz (by decide)
  cases hk : K.lookup a with
  | some o =>
    have e := KX a o hk
    rw [ha] at e
    cases e
    have h0 : ∀ b, (fun _ => none : Hp) b ≠ none → b = a := fun b z => (z rfl).elim
    exact law_core KX hns hb hbb hlim hg ha hr F hbind (H := fun _ => none) (fun _ => .inl rfl) (.inr ⟨_, vs.toArray, _, hk, rfl, rfl, rfl, by rw [List.size_toArray, lenV]; exact hl, by simpa using rv⟩) hz (fun b u z => nomatch z) h0 fun z => (z rfl).elim
  | none =>
    let o : Obj := { cls := .type "list", data := .seq vs.toArray }
    let H : Hp := upd (fun _ => none) a (.frz o (.lst (ns.map V.int)))
    have at_a : H a = some (.frz o (.lst (ns.map V.int))) := upd_same
    have at_b : ∀ b, b ≠ a → H b = none := fun b hb => upd_ne hb
    refine law_core KX hns hb hbb hlim hg ha hr F hbind (H := H) (fun b => ?_) (.inl (.inr ⟨o, at_a⟩)) hz (fun b u z => ?_) (fun b z => ?_) fun _ => hk
    · by_cases e : b = a
      · exact .inr ⟨o, _, e ▸ at_a⟩
      · exact .inl (at_b b e)
    · by_cases e : b = a
      · subst e
        rw [at_a] at z
        cases z
        exact ⟨ha, by rw [List.length_map]; exact hl, vs, _, rv, ha⟩
      · rw [at_b b e] at z; cases z
    · by_cases e : b = a
      · exact e
      · exact (z (at_b b e)).elim
end
theorem walkG {l : PySem.W.OpenLaw} {k : Nat} {q : Program} {loose : List Str} {XP : (Str → Option Value) → Heap → Prop} {YP : World → Heap → Prop} {d : DefRec} {K : Params → PySem.W.Frag} (hr : Room k callerA) (hn : l.most = some 63) (hdf : d.params.defaults = [])
    (hY : ∀ (w : World) (h : Heap), YP w h → (K w.params).In h)
    (F : ∀ (w : World) (mg : Str → Option Value) (fa : Addr) (h : Heap), (K w.params).In h → h.Ns mainGlobals mg → mg d.name = some (.ref fa) →
      ∃ fd : FuncData, (∀ (s : Shared) (u : Value), BindsTo s fd ⟨[u], []⟩ [("script", u)]) ∧ ∀ base : Heap, (K w.params).In base → base.Ns mainGlobals mg → FnG l.prog w (K w.params) mg base k fa fd ["script"] (spLaw (K w.params))) :
    PySem.W.WalkO q loose XP YP l.row.toRowW d [] (fun f vs => PySem.call f vs) := by
  refine Att.attach_call hn hdf fun w s₀ s₁ mg mb fa o pm cd doc a vs ns G Y ho hd hcd hmg hobj hints hlen hg => ?_
  obtain ⟨fd, hb, hF⟩ := F w mg fa _ (hY w _ Y) G.T.g hmg
  exact law_callG (hY w _ Y) G.T.g G.T.b G.T.builtins G.T.nolimit hg hobj hints hlen hr hF hb
end DL

set_option Elab.async false
set_option linter.all false
set_option maxRecDepth 100000
namespace DL
open PySem PySem.Spec PyProof.Rows L2

/-! ## 25. chained comparisons -/
def eChain (g g' : D → D → Option D) (f1 f2 f3 : Ex) : Ex := fun ρ S => (f1 ρ S).bind fun p => (f2 ρ p.2).bind fun q => (g p.1 q.1).bind fun z => match z with
  | .bl true => (f3 ρ q.2).bind fun r => (g' q.1 r.1).map fun z' => (z', r.2)
  | .bl false => some (.bl false, q.2)
  | _ => none
section
variable {X : Cx} {a b c : Expr} {f1 f2 f3 : Ex} {pos : Pos} {op op' : CmpOp} {r r' : R2} {g g' : D → D → Option D}
theorem chain_d {K : Fw} (hd : OpD K r g) (hd' : OpD K r' g') {σ : L2.St} {H : Hp} {Q : VK} (h : tD K (eChain g g' f1 f2 f3) σ H Q) : tChain r r' (tQ K f1) (tQ K f2) (tQ K f3) σ H Q := by
  obtain ⟨W, ρ, S, d, S', rl, hf, k⟩ := h
  unfold eChain at hf
  obtain ⟨⟨d1, S1⟩, e1, hf⟩ := Option.bind_eq_some_iff.mp hf
  obtain ⟨⟨d2, S2⟩, e2, hf⟩ := Option.bind_eq_some_iff.mp hf
  obtain ⟨z, e3, hf⟩ := Option.bind_eq_some_iff.mp hf
  refine ⟨W, ρ, S, d1, S1, rl, e1, fun v1 H1 s1 st1 r1 => ?_⟩
  have rl1 := rl.stepE s1 st1
  refine ⟨W, ρ, S1, d2, S2, rl1, e2, fun v2 H2 s2 st2 r2 => ?_⟩
  have rl2 := rl1.stepE s2 st2
  refine hd W H2 v1 v2 d1 d2 z _ rl2.wf (r1.stepE s2) r2 e3 fun v H3 s3 r3 => ?_
  have rl3 := rl2.same s3
  match z, hf with
  | .bl true, hf =>
    obtain ⟨⟨d3, S3⟩, e4, hf⟩ := Option.bind_eq_some_iff.mp hf
    obtain ⟨z', e5, hf⟩ := Option.map_eq_some_iff.mp hf
    cases hf
    cases r3
    refine ⟨true, rfl, ?_⟩
    rw [if_pos rfl]
    refine ⟨W, ρ, S2, d3, S3, rl3, e4, fun v3 H4 s4 st4 r4 => ?_⟩
    exact hd' W H4 v2 v3 d2 d3 d _ (rl3.stepE s4 st4).wf ((r2.same s3).stepE s4) r4 e5 fun v' H5 s5 r5 => k v' H5 ((((s1.trans s2).trans (.same s3)).trans s4).trans (.same s5)) (st4.same s5) r5
  | .bl false, hf =>
    cases hf
    cases r3
    refine ⟨false, rfl, ?_⟩
    rw [if_neg Bool.false_ne_true]
    exact k _ H3 ((s1.trans s2).trans (.same s3)) (st2.same s3) (.bl false)
theorem e_chain (ho : OpR X (compareOp op) r) (hd : OpD (FX X) r g) (ho' : OpR X (compareOp op') r') (hd' : OpD (FX X) r' g') (ha : B X a f1) (hb : B X b f2) (hc : B X c f3) (hm : lastMarks [op, op'] [b, c] = false := by with_unfolding_all rfl) :
    E X (.Compare a [op, op'] [b, c] pos) (eChain g g' f1 f2 f3) := pe_imp (pe_chain ho ho' ha hb hc hm) fun _ _ _ h => chain_d hd hd' h
theorem t_chain (ho : OpR X (compareOp op) r) (hd : OpD (FX X) r g) (ho' : OpR X (compareOp op') r') (hd' : OpD (FX X) r' g') (ha : B X a f1) (hb : B X b f2) (hc : B X c f3) (hm : lastMarks [op, op'] [b, c] = false := by with_unfolding_all rfl) :
    T X (.Compare a [op, op'] [b, c] pos) (tBl (eChain g g' f1 f2 f3)) := pt_imp (pt_chain ho ho' ha hb hc hm) fun σ H Q ⟨W, ρ, S, d, S', rl, hf, k⟩ => by
  have hf' : ∃ p, eChain g g' f1 f2 f3 ρ S = some p ∧ p.1 = .bl d ∧ p.2 = S' := by
    unfold tBl at hf
    obtain ⟨p, e1, hf⟩ := Option.bind_eq_some_iff.mp hf
    refine ⟨p, e1, ?_⟩
    split at hf
    · rename_i bb eb
      cases hf
      exact ⟨eb, rfl⟩
    · cases hf
  obtain ⟨⟨p1, p2⟩, e1, rfl, rfl⟩ := hf'
  exact chain_d hd hd' ⟨W, ρ, S, _, _, rl, e1, fun v H' s st rp => by
    cases rp
    exact ⟨d, rfl, k H' s st⟩⟩
end

/-! ## 26. repr -/
/-- repr(x), x plain data -/
def rRepr (K : PySem.W.Frag) : List V → Hp → VK → Prop := fun xs H Q => ∃ (v : V) (p : PyData), xs = [v] ∧ Dp K H v p ∧ p.showable = true ∧ p.hasDict = false ∧ p.depth ≤ 60 ∧ p.shown.length ≤ sizeLine ∧ Q (.str p.shown) H
theorem call_repr {X : Cx} (hg : X.A.guards = some []) (hu : X.A.units + 64 < cLine) : CallR X (.builtin "repr") (rRepr X.K) := by
  intro pins s σ H xs us Q I r h
  obtain ⟨v, p, rfl, hd, hs, hn, hdep, hz, q⟩ := h
  obtain ⟨u, rfl, ru⟩ := vals1 r
  obtain ⟨as, rd⟩ := Dp.reads I p v u hd ru
  cases hd with
  | non =>
    cases ru
    refine PySem.P.repr_of_none ⟨.str _, H, I.tok _, ⟨_, rfl⟩, ?_⟩
    rwa [PySem.PyData.shown_none] at q
  | bl b =>
    cases ru
    refine PySem.P.repr_of_bool ⟨.str _, H, I.tok _, ⟨_, rfl⟩, ?_⟩
    rw [PySem.PyData.shown_bool] at q
    cases b <;> exact q
  | int i =>
    obtain ⟨t, rfl⟩ := ru
    have hb : i.natAbs.log2 < 1920 := by simpa [PySem.PyData.showable] using hs
    refine PySem.P.repr_of_int hb ⟨.str _, H, I.tok _, ⟨_, rfl⟩, ?_⟩
    rwa [PySem.PyData.shown_int] at q
  | str x =>
    obtain ⟨t, rfl⟩ := ru
    rw [PySem.PyData.shown_str] at hz q
    exact PySem.P.repr_of_str ⟨.str _, H, I.tok _, ⟨_, rfl⟩, q⟩ hz
  | lst h1 h2 =>
    cases ru
    exact PySem.repr_of_reads' rd hs (fun z => by rw [hn] at z; cases z) hg (by omega) (fun b o e => e) (fun h' u tk hk => ⟨.str _, H, I.kept (t' := tk) hk, ⟨_, rfl⟩, q⟩) hz
  | tup h1 h2 =>
    cases ru
    exact PySem.repr_of_reads' rd hs (fun z => by rw [hn] at z; cases z) hg (by omega) (fun b o e => e) (fun h' u tk hk => ⟨.str _, H, I.kept (t' := tk) hk, ⟨_, rfl⟩, q⟩) hz
def gRepr : List D → Option D
  | [d] => if (d.fit 60 && d.toP.showable && !d.toP.hasDict && decide (d.toP.shown.length ≤ sizeLine)) = true then some (.str d.toP.shown) else none
  | _ => none
theorem repr_d {K : Fw} : CallD K (rRepr K) gRepr := fun W H vs ds d Q wf r h k => by
  unfold gRepr at h
  split at h
  · rename_i x
    by_cases c : (x.fit 60 && x.toP.showable && !x.toP.hasDict && decide (x.toP.shown.length ≤ sizeLine)) = true
    · rw [if_pos c] at h
      cases h
      simp only [Bool.and_eq_true, Bool.not_eq_true', decide_eq_true_eq] at c
      obtain ⟨⟨⟨c1, c2⟩, c3⟩, c4⟩ := c
      obtain ⟨v, rfl, r1⟩ := rqs1 r
      exact ⟨v, _, rfl, fit_dq c1 r1, c2, c3, fit_depth c1, c4, k _ H (.refl _) (.str _)⟩
    · rw [if_neg c] at h; cases h
  · cases h
end DL

set_option Elab.async false
set_option linter.all false
set_option maxRecDepth 100000
namespace DL
open PySem PySem.Spec PyProof.Rows L2

/-! ## 27. x += y, x *= y -/
theorem noIadd_tuple : typeLookup (.type "tuple") (dunderI "add") = pure none := by rw [typeLookup_type, builtinLookup_eq_fast]; kernel_rfl
theorem itup_cat {prog : Program} {w : World} {A : Around} {E : Value → Shared → Prop} {s : Shared} {t b : Addr} {vs ws : List Value} {Q : Value → Shared → Prop} (ht : IsTup s.heap t vs.toArray) (hb : IsTup s.heap b ws.toArray)
    (h0 : vs = [] → Q (.ref b) s) (h1 : vs ≠ [] → ws = [] → Q (.ref t) s) (h2 : vs ≠ [] → ws ≠ [] → Q (.ref s.heap.objs.size) { s with heap := s.heap.push { cls := .type "tuple", data := .seq (vs ++ ws).toArray } })
    (hsz : vs.length + ws.length ≤ sizeLine) : wpAny (model prog w) A (inplaceOp .Add (.ref t) (.ref b)) Q E s := by
  obtain ⟨⟨c1, d1, data1, sl1⟩, ho, hc, n, hd⟩ := id ht
  obtain ⟨⟨c2, d2, data2, sl2⟩, ho2, hc2, n2, hd2⟩ := id hb
  simp only at hc hd hc2 hd2
  subst hc hd hc2 hd2
  have road : ∀ {S : PySem.Spec} (g : Meets (Builtin.«tuple.__add__» ⟨[.ref t, .ref b], []⟩) S) (h : S A (wants Q E) s), wpAny (model prog w) A (inplaceOp .Add (.ref t) (.ref b)) Q E s := fun g h =>
    wpAny_inplaceOp_concat ⟨_, ho, rfl⟩ ⟨_, ho2, rfl⟩ noIadd_tuple noFill_tuple_add seq_tuple_add (call_meets PySem.F.slot_tuple_add ⟨_, ho, rfl⟩ PySem.F.entry_tuple_add (PySem.F.args_tuple_add_2 _ _) g h)
  by_cases hv : vs = []
  · exact road (tuple_addW0 t b vs.toArray ws.toArray n n2 d1 d2 sl1 sl2 (by simp [hv])) ⟨ho, ho2, h0 hv⟩
  · by_cases hw : ws = []
    · exact road (tuple_addW1 t b vs.toArray ws.toArray n n2 d1 d2 sl1 sl2 (by simpa using hv) (by simp [hw])) ⟨ho, ho2, h1 hv hw⟩
    · refine road (tuple_addW2 t b vs.toArray ws.toArray n n2 d1 d2 sl1 sl2 (by simpa using hv) (by simpa using hw) (by rw [List.size_toArray, List.size_toArray]; exact hsz)) ⟨ho, ho2, ?_⟩
      rw [show vs.toArray ++ ws.toArray = (vs ++ ws).toArray by simp]
      exact h2 hv hw
theorem iop_catZ {X : Cx} : OpR X (inplaceOp .Add) (rCatZ X.K) := by
  intro pins s σ H x y v u Q I rx ry h
  obtain ⟨a, b, xs, ys, rfl, rfl, ha, hb, hz, q0, q1, q2⟩ := h
  cases rx
  cases ry
  obtain ⟨its, r1, p1, _⟩ := I.tuple ha
  obtain ⟨its2, r2, p2, _⟩ := I.tuple hb
  refine itup_cat p1 p2 (fun e => ⟨.ref b, H, I, rfl, q0 (r1.nil_iff.mp e)⟩) (fun e e2 => ⟨.ref a, H, I, rfl, q1 (fun z => e (r1.nil_iff.mpr z)) (r2.nil_iff.mp e2)⟩) (fun e e2 => ?_) (by rw [← r1.length, ← r2.length]; exact hz)
  refine ⟨.ref s.heap.objs.size, _, I.laid (t' := s.toks) (o := .frz { cls := .type "tuple", data := .seq (its ++ its2).toArray } (.tup (xs ++ ys))) (fun b ob q => Heap.get?_push_of_some _ q) (Nat.le_refl _) ?_, rfl, q2 (fun z => e (r1.nil_iff.mpr z)) (fun z => e2 (r2.nil_iff.mpr z)) _ _ (I.hok.fresh (Nat.le_refl _)) rfl⟩
  exact frz_new (Heap.get?_push_size _ rfl) (by rw [List.length_append]; exact hz) (r1.append r2)
/-- += of two ints or two tuples -/
def D.iadd : D → D → Option D
  | .int i, .int j => some (.int (i + j))
  | .tup xs, .tup ys => if xs.length + ys.length ≤ sizeLine then some (.tup (xs ++ ys)) else none
  | _, _ => none
def rIadd (K : PySem.W.Frag) : R2 := fun x y H Q => rI0 (fun i j => .int (i + j)) x y H Q ∨ rCatZ K x y H Q
theorem iop_addD {X : Cx} : OpR X (inplaceOp .Add) (rIadd X.K) := iop_add.or iop_catZ
theorem iadd_d {K : Fw} : OpD K (rIadd K) D.iadd := fun W H v1 v2 d1 d2 d Q wf r1 r2 h k => by
  unfold D.iadd at h
  split at h
  · cases h
    exact .inl ⟨_, _, rq_int r1, rq_int r2, k _ H (.refl _) (.int _)⟩
  · rename_i xs ys
    by_cases c : xs.length + ys.length ≤ sizeLine
    · rw [if_pos c] at h
      cases h
      obtain ⟨a, ws, rfl, q, z, rs⟩ := rq_tup r1
      obtain ⟨b, us, rfl, q', z', rs'⟩ := rq_tup r2
      have l1 := rs.length
      have l2 := rs'.length
      refine .inr ⟨a, b, ws, us, rfl, rfl, q.sqt, q'.sqt, by omega, fun e => ?_, fun e e2 => ?_, fun e e2 p o hp ho => ?_⟩
      · subst e
        cases rs
        exact k _ H (.refl _) (.tup q' z' rs')
      · subst e2
        cases rs'
        exact k _ H (.refl _) (by rw [List.append_nil]; exact .tup q z rs)
      · have sm : Same H (upd H p (.frz o (.tup (ws ++ us)))) := upd_Same hp
        exact k _ _ sm (.tup (.new ho) (by rw [List.length_append]; omega) ((rs.append rs').stepE (.same sm)))
    · rw [if_neg c] at h; cases h
  · cases h
/-- x op= e, x a slot of data -/
def sAug (g : D → D → Option D) (i : Nat) (f : Ex) : Stm := fun ρ S => match ρ[i]? with
  | some (.sh d1) => (f ρ S).bind fun p => (g d1 p.1).map fun z => .nx (ρ.set i (.sh z)) p.2
  | _ => none
section
variable {X : Cx} {st : Stmt} {f : Ex} {g : D → D → Option D} {r : R2}
theorem st_aug {i : Nat} (h : PS X st (tAug i (tQ (FX X) f) r)) (hd : OpD (FX X) r g) : ST X st (sAug g i f) := ps_imp h fun Z σ H ⟨W, ρ, S, o, rl, hf, k⟩ => by
  unfold sAug at hf
  split at hf
  · rename_i d1 hi
    obtain ⟨⟨d2, S1⟩, e1, hf⟩ := Option.bind_eq_some_iff.mp hf
    obtain ⟨z, e2, hf⟩ := Option.map_eq_some_iff.mp hf
    cases hf
    obtain ⟨v1, q1, r1⟩ := rl.sl i _ hi
    refine ⟨v1, q1, W, ρ, S, d2, S1, rl, e1, fun v2 H2 s2 st2 r2 => ?_⟩
    have rl2 := rl.stepE s2 st2
    exact hd W H2 v1 v2 d1 d2 z _ rl2.wf (.of (r1.stepE s2)) r2 e2 fun v H3 s3 r3 => k W _ H3 (s2.trans (.same s3)).toS ((rl2.same s3).setSh r3)
  · cases hf
end

/-! ## 28. names of the top that hold data -/
structure GlobAt (K : PySem.W.Frag) (w : World) (P : Program) (mg : Str → Option Value) (x : Str) (d : D) : Prop where
  ex : ∃ (v : V) (u : Value), mg x = some u ∧ RelV v u ∧ ∀ (W : Wd) (H : Hp), Rp ⟨K, w, P⟩ W H v d
theorem e_glob {X : Cx} {x : Str} {d : D} {pos : Pos} (h : GlobAt X.K X.w X.prog X.mg x d) (hg : Gl X x) (hd : (x == ("__debug__" : Str)) = false := by decide) : E X (.Name x pos) (eC d) := by
  obtain ⟨v, u, hm, r, hr⟩ := h.ex
  exact e_c (pe_glob hg hm r hd) hr
theorem glob_int {K : PySem.W.Frag} {w : World} {P : Program} {mg : Str → Option Value} {x : Str} {i : Int} {t : Tok} (h : mg x = some (.int i t)) : GlobAt K w P mg x (.int i) := ⟨.int i, _, h, ⟨t, rfl⟩, fun _ _ => .int i⟩
/-- a tuple of two ints that stands at the top -/
theorem glob_pair {K : PySem.W.Frag} {w : World} {P : Program} {mg : Str → Option Value} {x : Str} {a : Addr} {i j : Int} {t u : Tok} {n : Nat} {sl : Array (Option Value)} (h : mg x = some (.ref a)) (l : K.lookup a = some { cls := .type "tuple", dict := none, data := .seq #[.int i t, .int j u] n, slots := sl }) :
    GlobAt K w P mg x (.tup [.int i, .int j]) :=
  ⟨.ref a, _, h, rfl, fun _ _ => .tup (vs := [.int i, .int j]) (.inr ⟨_, _, _, l, rfl, rfl, rfl, by show 2 ≤ sizeLine; decide, .cons ⟨t, rfl⟩ (.cons ⟨u, rfl⟩ .nil)⟩) (by show 2 ≤ sizeLine; decide) (.cons (.int i) (.cons (.int j) .nil))⟩
end DL

set_option Elab.async false
set_option linter.all false
set_option maxRecDepth 100000
namespace DL
open PySem PySem.Spec PyProof.Rows L2
/-! ## 29. defs by their bodies, where no guard is under way -/
section
variable {P : Program} {w : World} {K : PySem.W.Frag} {mg : Str → Option Value} {base : Heap}
theorem fnG_ok {x qual : Str} {st : Stmt} {f : Addr} {fd : FuncData} {N ps : List Str} {k : Nat} {b : Stm} (F : Fun K x qual st f fd) (Sc : FnScope N ps (defScope st)) (hl : ps.length ≤ N.length)
    (hb : ∀ (cdv : Value) (A : Around) (outer : List Env) (s : Shared) (H : Hp) (E : XK), A.guards = some [] → Room k (A.deeper (envOfC qual (defScope st) s.heap.objs.size f cdv)) → SS (cxOf CX0 P w K mg base N qual (defScope st) f cdv A outer s H E).nox (defBody st) b) :
    FnG P w K mg base (k + 1) f fd ps (spD ⟨K, w, P⟩ ps.length (fnD N.length b)) := by
  refine funG_ok F Sc (fun vs H Q E h => ?_) (fun cdv A outer s H vs Q E hG hr h => ?_)
  · obtain ⟨W, ds, S, d, S', hn, rs, _⟩ := h
    rw [rs.length]; exact hn
  · obtain ⟨W, ds, S, d, S', hn, rs, st0, wf, hf, k0⟩ := h
    refine ⟨_, hb cdv A outer s H E hG hr, ?_⟩
    have m0 : ∀ b, Mu (⟨W.θ, Mu W, fun _ => none⟩ : Wd) b ↔ Mu W b := fun b => by
      constructor
      · rintro (m | m | ⟨j, m⟩)
        · exact m
        · exact .inr (.inl m)
        · cases m
      · exact .inl
    have kp0 : Kps ⟨K, w, P⟩ W H (⟨W.θ, Mu W, fun _ => none⟩ : Wd) H := Kps.less rfl fun b m => (m0 b).mp m
    have wf0 : WfW (⟨W.θ, Mu W, fun _ => none⟩ : Wd) H := ⟨wf.nd, (fun i j a h => (by cases h)), (fun i a h => (by cases h)), fun a m => wf.dom a ((m0 a).mp m)⟩
    have rs0 := rs.keeps kp0
    have rl0 : Rel ⟨K, w, P⟩ (⟨W.θ, Mu W, fun _ => none⟩ : Wd) H (L2.start N vs) (rho0 N.length ds) S := by
      refine ⟨?_, rho0_slot rs0, st0.keeps rfl kp0 fun _ _ => rfl, wf0⟩
      rw [rho0_length (by rw [hn]; exact hl)]
      unfold L2.start
      rw [List.length_append, List.length_map, List.length_replicate, rs.length]
      omega
    unfold fnD at hf
    cases e1 : b (rho0 N.length ds) S with
    | none => rw [e1] at hf; cases hf
    | some o =>
      rw [e1] at hf
      refine ⟨_, _, S, o, rl0, e1, ?_⟩
      have fin : ∀ {W' : Wd} {H' : Hp} {S1 : Sto} {v : V} {d : D}, StepS (⟨W.θ, Mu W, fun _ => none⟩ : Wd) H W' H' → StOk ⟨K, w, P⟩ W' H' S1 → Rp ⟨K, w, P⟩ W' H' v d → S1.length = S.length → StepE W.θ H H' ∧ StOk ⟨K, w, P⟩ W H' S1 ∧ Rp ⟨K, w, P⟩ W H' v d := fun {W' H' S1 v d} s st r hlen => by
        obtain ⟨t, ht⟩ := s.th
        have e : W'.θ = W.θ := by
          have h1 := st.1
          have h2 := st0.1
          have h3 := congrArg List.length ht
          rw [List.length_append] at h3
          have h4 : (⟨W.θ, Mu W, fun _ => none⟩ : Wd).θ.length = W.θ.length := rfl
          have : t.length = 0 := by omega
          rw [List.length_eq_zero_iff.mp this, List.append_nil] at ht
          exact ht
        have kl : Kps ⟨K, w, P⟩ W' H' W H' := Kps.less e.symm fun b m => .inl (by rw [s.m0]; exact m)
        refine ⟨⟨fun b u h n => (s.keep b u h fun z => ?_).1, s.tups, s.frzs, s.dom⟩, st.keeps e.symm kl fun _ _ => rfl, r.keeps kl⟩
        rcases z with z | ⟨j, z⟩
        · exact n z
        · cases z
      cases o with
      | nx ρ' S1 =>
        unfold fnOut at hf
        by_cases hlen : S1.length = S.length
        · simp only [if_pos hlen] at hf
          cases hf
          intro W' σ' H' s r
          obtain ⟨q1, q2, q3⟩ := fin (v := .non) (d := .non) s r.st .non hlen
          exact k0 .non H' q1 q2 q3
        · simp only [if_neg hlen] at hf; cases hf
      | rt d' S1 =>
        unfold fnOut at hf
        by_cases hlen : S1.length = S.length
        · simp only [if_pos hlen] at hf
          cases hf
          intro W' v H' s st wf' r
          obtain ⟨q1, q2, q3⟩ := fin s st r hlen
          exact k0 v H' q1 q2 q3
        · simp only [if_neg hlen] at hf; cases hf
      | bk _ _ => cases hf
      | ct _ _ => cases hf
theorem fnGN_ok {x qual : Str} {st : Stmt} {f : Addr} {fd : FuncData} {N ps : List Str} {k : Nat} {g : Ex} (F : Fun K x qual st f fd) (Sc : FnScope N ps (defScope st)) (hl : ps.length ≤ N.length)
    (hb : ∀ (cdv : Value) (A : Around) (outer : List Env) (s : Shared) (H : Hp) (E : XK), A.guards = some [] → Room k (A.deeper (envOfC qual (defScope st) s.heap.objs.size f cdv)) → PSs (cxOf CX0 P w K mg base N qual (defScope st) f cdv A outer s H E).nox (defBody st) fun Z σ H => tF ⟨K, w, P⟩ g σ H Z.rt) :
    FnG P w K mg base (k + 1) f fd ps (spN ⟨K, w, P⟩ ps.length (fnE N.length g)) := by
  refine funG_ok F Sc (fun vs H Q E h => ?_) (fun cdv A outer s H vs Q E hG hr h => ?_)
  · obtain ⟨W, ds, S, d, S', hn, rs, _⟩ := h
    rw [rs.length]; exact hn
  · obtain ⟨W, ds, S, d, S', hn, rs, st0, wf, hf, k0⟩ := h
    refine ⟨_, hb cdv A outer s H E hG hr, ?_⟩
    have m0 : ∀ b, Mu (⟨W.θ, Mu W, fun _ => none⟩ : Wd) b ↔ Mu W b := fun b => by
      constructor
      · rintro (m | m | ⟨j, m⟩)
        · exact m
        · exact .inr (.inl m)
        · cases m
      · exact .inl
    have kp0 : Kps ⟨K, w, P⟩ W H (⟨W.θ, Mu W, fun _ => none⟩ : Wd) H := Kps.less rfl fun b m => (m0 b).mp m
    have wf0 : WfW (⟨W.θ, Mu W, fun _ => none⟩ : Wd) H := ⟨wf.nd, (fun i j a h => (by cases h)), (fun i a h => (by cases h)), fun a m => wf.dom a ((m0 a).mp m)⟩
    have rs0 := rs.keeps kp0
    have rl0 : Rel ⟨K, w, P⟩ (⟨W.θ, Mu W, fun _ => none⟩ : Wd) H (L2.start N vs) (rho0 N.length ds) S := by
      refine ⟨?_, rho0_slot rs0, st0.keeps rfl kp0 fun _ _ => rfl, wf0⟩
      rw [rho0_length (by rw [hn]; exact hl)]
      unfold L2.start
      rw [List.length_append, List.length_map, List.length_replicate, rs.length]
      omega
    refine ⟨_, _, S, d, S', rl0, hf, fun v H' s r => k0 v H' s ?_⟩
    have kl : ∀ a, Kps ⟨K, w, P⟩ ((⟨W.θ, Mu W, fun _ => none⟩ : Wd).plus a) H' (W.plus a) H' := fun a => Kps.less rfl fun b m => mu_plus.mpr ((mu_plus.mp m).imp (m0 b).mpr id)
    cases r with
    | lst n e z st r => exact .lst n e z (st.keeps rfl (kl _) fun _ _ => rfl) (r.keeps (kl _))
    | dct n e z st r => exact .dct n e z (st.keeps rfl (kl _) fun _ _ => rfl) (r.keeps (kl _))
theorem fnGL_ok {x qual : Str} {st : Stmt} {f : Addr} {fd : FuncData} {N ps : List Str} {k : Nat} {b : Stm} (F : Fun K x qual st f fd) (Sc : FnScope N ps (defScope st)) (hl : ps.length ≤ N.length) (h1 : ps.length = 1)
    (hb : ∀ (cdv : Value) (A : Around) (outer : List Env) (s : Shared) (H : Hp) (E : XK), A.guards = some [] → Room k (A.deeper (envOfC qual (defScope st) s.heap.objs.size f cdv)) → SS (cxOf CX0 P w K mg base N qual (defScope st) f cdv A outer s H E).nox (defBody st) b)
    (math : ∀ ns : List Int, ns.length ≤ 63 → ∃ S', b (rho0 N.length [.scr ns]) [] = some (.rt (.bl true) S')) :
    FnG P w K mg base (k + 1) f fd ps (spLaw K) := by
  refine funG_ok F Sc (fun vs H Q E h => ?_) (fun cdv A outer s H vs Q E hG hr h => ?_)
  · obtain ⟨a, ns, rfl, _⟩ := h
    exact h1.symm
  · obtain ⟨a, ns, rfl, hs, hn, k0⟩ := h
    refine ⟨_, hb cdv A outer s H E hG hr, ?_⟩
    obtain ⟨S', e⟩ := math ns hn
    have hm : ∀ b, ¬ Mu (⟨[], fun _ => False, fun _ => none⟩ : Wd) b := fun b m => by
      rcases m with m | m | ⟨j, m⟩
      · exact m
      · cases m
      · cases m
    have wf0 : WfW (⟨[], fun _ => False, fun _ => none⟩ : Wd) H := ⟨List.nodup_nil, (fun i j a h => (by cases h)), (fun i a h => (by cases h)), fun a m => absurd m (hm a)⟩
    have hz : ns.length ≤ sizeLine := Nat.le_trans hn (by decide)
    have rs0 : Rps ⟨K, w, P⟩ (⟨[], fun _ => False, fun _ => none⟩ : Wd) H [.ref a] [.scr ns] := .cons (.scr hz hs) .nil
    have rl0 : Rel ⟨K, w, P⟩ (⟨[], fun _ => False, fun _ => none⟩ : Wd) H (L2.start N [.ref a]) (rho0 N.length [.scr ns]) [] := by
      refine ⟨?_, rho0_slot rs0, ⟨rfl, fun l a c e => by simp at e⟩, wf0⟩
      rw [rho0_length (by show 1 ≤ N.length; omega)]
      unfold L2.start
      rw [List.length_append, List.length_map, List.length_replicate]
      show 1 + (N.length - 1) = N.length
      omega
    exact ⟨_, _, _, _, rl0, e, fun W' v H' _ _ _ r => by cases r; exact k0 H'⟩
end
end DL

set_option Elab.async false
set_option linter.all false
set_option maxRecDepth 100000
set_option maxHeartbeats 1000000
namespace DL
open PySem
/-! ## 30. enumerate of a tuple -/
theorem meets_enumT (l : Addr) (items : Array Value) (n : Nat) (dct : Option Addr) (sl : Array (Option Value)) :
    Meets (Builtin.«enumerate.__new__» ⟨[.type "enumerate", .ref l], []⟩) (fun _ R s => s.heap.get? l = some { cls := .type "tuple", dict := dct, data := .seq items n, slots := sl } ∧
      R (.ok (.ret (.ref (s.heap.push { cls := .type "tuple_iterator", data := .fields #[.ref l, .int 0 0] }).objs.size)))
        { s with heap := (s.heap.push { cls := .type "tuple_iterator", data := .fields #[.ref l, .int 0 0] }).push { cls := .type "enumerate", data := .fields #[.none, .bool false, .ref s.heap.objs.size, rawInt 0, .none, .none] } }) :=
  .of_wp fun prog w A R s h => by
    obtain ⟨hp, gs, dr, tk, os⟩ := s
    obtain ⟨hl, h⟩ := h
    have sub := sub_enumerate
    have hT : Heap.IsTuple (Shared.heap ⟨hp, gs, dr, tk, os⟩) l items := ⟨_, hl, rfl, n, rfl⟩
    wp_walk using AutoSeq1.wpAny_loadPart' hl
    refine wpAny_stack_any fun st => wpAny_pure ?_
    split
    · rename_i c _ _ _ _ _
      cases (c == Value.type "enumerate") <;> (wp_walk using AutoSeq1.wpAny_loadPart' hl, wpAny_pyIter_tuple hT; exact ⟨_, rfl, h⟩)
    · wp_walk using AutoSeq1.wpAny_loadPart' hl, wpAny_pyIter_tuple hT
      exact ⟨_, rfl, h⟩
section
variable {prog : Program} {w : World} {A : Around} {E : Value → Shared → Prop} {s : Shared}
theorem call_enumT {l : Addr} {items : Array Value} {Q : Value → Shared → Prop} (hL : s.heap.IsTuple l items)
    (h : ∀ h', IsEnum h' (s.heap.objs.size + 1) s.heap.objs.size 0 .none → h'.IsTupleIter s.heap.objs.size l 0 → h'.objs.size = s.heap.objs.size + 2 →
      (∀ b o, s.heap.get? b = some o → h'.get? b = some o) → Q (.ref (s.heap.objs.size + 1)) { s with heap := h' }) : wpAny (model prog w) A (call (.type "enumerate") [.ref l]) Q E s := by
  obtain ⟨⟨c, dct, dt, sl⟩, hl, hc, n, hd⟩ := hL
  simp only at hc hd
  subst hc hd
  have sz : (s.heap.push { cls := .type "tuple_iterator", data := .fields #[.ref l, .int 0 0] }).objs.size = s.heap.objs.size + 1 := Heap.size_push ..
  have he : IsEnum ((s.heap.push { cls := .type "tuple_iterator", data := .fields #[.ref l, .int 0 0] }).push { cls := .type "enumerate", data := .fields #[.none, .bool false, .ref s.heap.objs.size, rawInt 0, .none, .none] }) (s.heap.objs.size + 1) s.heap.objs.size 0 .none := by
    rw [← sz]
    exact Heap.get?_push_size _ rfl
  refine callType_new F.called_enumerate (by decide) (F.typeCall_enumerate_1 _) (F.newCall_enumerate_1 _) (fun obj => F.args_object_init_2 obj _) F.entry_enumerate_new (meets_enumT l items n dct sl) ⟨hl, ?_⟩
  show _ ∧ _
  rw [sz]
  exact ⟨⟨_, he, rfl⟩, h _ he ⟨_, Heap.get?_push_of_some _ (Heap.get?_push_size _ rfl), rfl, rfl⟩ (by rw [Heap.size_push, sz]) fun b o x => Heap.get?_push_of_some _ (Heap.get?_push_of_some _ x)⟩
end
end DL
namespace DL
open PySem PySem.Spec PyProof.Rows L2
abbrev IteTZ (K : PySem.W.Frag) (a : Addr) : It := IteK .t K a
end DL

set_option Elab.async false
set_option linter.all false
set_option maxRecDepth 100000
set_option maxHeartbeats 1000000
namespace DL
open PySem PySem.Spec PyProof.Rows L2
def iEnumTZ (K : PySem.W.Frag) (ta : TA) : TI := fun σ H R => ta σ H fun vs H1 => ∃ a xs, vs = [.ref a] ∧ SqT K H1 a xs ∧ R (IteTZ K a) H1
theorem pi_enumTZ {X : Cx} {e : Expr} {ta : TA} {p pos tpos : Pos} {elts : List Expr} {kk : Nat} (hg : Gl X "enumerate") (hm : X.mg "enumerate" = none) (ha : PA X [e] ta) (hs : starEach [e] X.env = [(false, eval e X.env)] := by rfl) :
    PI X (.Tuple elts kk tpos) (.Call (.Name "enumerate" p) [e] [] pos) (iEnumTZ X.K ta) := by
  refine ⟨fun pins s σ H R I w => Call_ (ld_blt I hg hm boot_enumerate (PyProof.Rows.callWith_type1 (thn (ha.run pos pins s σ H _ I w) ?_) hs rfl))⟩
  rintro us s1 ⟨_, H1, J, r, a, xs, rfl, qx, q⟩
  obtain ⟨_, rfl, e⟩ := vals1 r
  cases e
  obtain ⟨its, _, p, _⟩ := J.tuple qx
  exact call_enumT p fun h' en wk _ old => wpAny_pyIter_enum en (enum_begun .t J old (Nat.le_refl _) (Kd.t.has_lt p) en wk q)
def enumD (xs : List D) : List D := xs.mapIdx fun i x => .tup [.int (i : Nat), x]
theorem enumD_length (xs : List D) : (enumD xs).length = xs.length := by simp [enumD]
theorem enumD_some {xs : List D} {i : Nat} {d : D} (h : (enumD xs)[i]? = some d) : ∃ x, xs[i]? = some x ∧ d = .tup [.int (i : Nat), x] := by
  unfold enumD at h
  rw [List.getElem?_mapIdx] at h
  obtain ⟨x, hx, e⟩ := Option.map_eq_some_iff.mp h
  exact ⟨x, hx, e.symm⟩
theorem walk_enumT {K : Fw} {W : Wd} {H : Hp} {fl : Bool} {a : Addr} {vs : List V} {xs : List D} (ha : TupAt K H a vs) (ra : Rps K W H vs xs) : Walk K W fl H (IteTZ K a) (enumD xs) := fun W2 H2 l => by
  have ea : SqT K H2 a vs := (TupAt.step l.kps.frzs ha).sqt
  refine ⟨fun i d hd => ?_, ⟨vs, ea, ?_⟩⟩
  · obtain ⟨x, hx, rfl⟩ := enumD_some hd
    obtain ⟨v, hv, rv⟩ := ra.get hx
    refine ⟨⟨vs, v, ea, hv⟩, fun z H3 yy => ?_⟩
    obtain ⟨T, oo, x', rfl, hT, hoo, rfl, q1⟩ := yy
    have q1 := q1 vs ea
    rw [hv] at q1
    cases q1
    have sm : Same H2 (upd H2 T (.frz oo (.tup [.int (i : Nat), v]))) := upd_Same hT
    have k2 : Kps K W2 H2 W2 (upd H2 T (.frz oo (.tup [.int (i : Nat), v]))) := (StepE.same (θ := W2.θ) sm).keeps
    exact ⟨sm, .tup (.new hoo) (by show 2 ≤ sizeLine; decide) (.cons (.int _) (.cons ((rv.keeps l.kps).keeps k2) .nil))⟩
  · rw [enumD_length, ra.length]
    exact Nat.le_refl _
def enumOf : List D → Option (List D)
  | [.tup xs] => some (enumD xs)
  | _ => none
def iEn (fs : Ars) : Ars := fun ρ S => (fs ρ S).bind fun p => (enumOf p.1).map fun xs => (xs, p.2)
section
variable {X : Cx} {tg e : Expr} {fs : Ars}
theorem iEn_split {ρ : Rho} {S S' : Sto} {xs : List D} (h : iEn fs ρ S = some (xs, S')) : ∃ ds, fs ρ S = some (ds, S') ∧ enumOf ds = some xs := by
  unfold iEn at h
  cases e1 : fs ρ S with
  | none => rw [e1] at h; cases h
  | some p =>
    rw [e1, Option.bind_some] at h
    obtain ⟨z, hz, he⟩ := Option.map_eq_some_iff.mp h
    cases he
    exact ⟨p.1, rfl, hz⟩
theorem it_enum {fl : Bool} (h : PI X tg e (iEnumTZ X.K (tA (FX X) fs))) : IT fl X tg e (iEn fs) := pi_imp h fun σ H R ⟨W, ρ, S, xs, S', rl, hf, k⟩ => by
  obtain ⟨ds, e1, e2⟩ := iEn_split hf
  refine ⟨W, ρ, S, ds, S', rl, e1, fun vs H1 s1 st1 r1 => ?_⟩
  unfold enumOf at e2
  split at e2
  · cases e2
    cases r1 with
    | cons a b =>
      cases b
      obtain ⟨a1, v1, rfl, q1, z1, r1⟩ := rp_tup a
      refine ⟨a1, v1, rfl, q1.sqt, k _ H1 s1 st1 ?_ (walk_enumT q1 r1)⟩
      rw [enumD_length, ← r1.length]
      exact z1
  · cases e2
end
end DL

set_option Elab.async false
set_option linter.all false
set_option maxRecDepth 100000
set_option maxHeartbeats 1000000
namespace DL
open PySem PySem.Spec PyProof.Rows L2
/-! ## 31. reading a dict: k in d, d[k] -/
theorem key_q {K : Fw} {W : Wd} {H : Hp} {v : V} {d : D} {k : Key} (r : Rq K W H v d) (h : d.key = some k) : v = kV k := by
  cases r with
  | of r => exact key_v r h
  | _ => cases h
def D.isInA (x y : D) : Option D := match y with
  | .dct ks ds => x.key.map fun k => .bl (dFind ks ds k).isSome
  | y => D.isIn x y
def D.notInA (x y : D) : Option D := match y with
  | .dct ks ds => x.key.map fun k => .bl (!(dFind ks ds k).isSome)
  | y => D.notIn x y
def rInA (K : PySem.W.Frag) (neg : Bool) : R2 := fun x y H Q => rInP K neg x y H Q ∨ ∃ a o, y = .ref a ∧ DGet H a x o ∧ Q (.bl (xor neg o.isSome)) H
theorem op_inA {X : Cx} (hu : X.A.units + 64 < cLine) : OpR X (compareOp .In) (rInA X.K false) := by
  intro pins s σ H x y v u Q I rx ry h
  rcases h with h | ⟨a, ov, ey, g, q⟩
  · exact op_inP hu pins s σ H x y v u Q I rx ry h
  · subst ey
    obtain rfl : u = Value.ref a := ry
    exact d_in (by omega) I g rx fun s3 I3 => ⟨.bl ov.isSome, H, I3, rfl, by simpa using q⟩
theorem op_notInA {X : Cx} (hu : X.A.units + 64 < cLine) : OpR X (compareOp .NotIn) (rInA X.K true) := by
  intro pins s σ H x y v u Q I rx ry h
  rcases h with h | ⟨a, ov, ey, g, q⟩
  · exact op_notInP hu pins s σ H x y v u Q I rx ry h
  · subst ey
    obtain rfl : u = Value.ref a := ry
    exact d_notIn (by omega) I g rx fun s3 I3 => ⟨.bl (!ov.isSome), H, I3, rfl, by simpa using q⟩
theorem find_some {K : Fw} {W : Wd} {H : Hp} {k : Key} {ks : List Key} {vs : List V} {ds : List D} (rs : Rps K W H vs ds) : (valV (ks.zip vs) k).isSome = (dFind ks ds k).isSome := by
  rcases find_rps (k := k) (ks := ks) rs with ⟨h1, h2⟩ | ⟨v', d', h1, h2, h3⟩ <;> rw [h1, h2] <;> rfl
theorem isInA_d {K : Fw} : OpD K (rInA K false) D.isInA := fun W H v1 v2 d1 d2 d Q wf r1 r2 h k => by
  cases d2 with
  | dct ks ds =>
    obtain ⟨kk, e4, hf⟩ := Option.map_eq_some_iff.mp h
    subst hf
    cases key_q r1 e4
    obtain ⟨a, vs, rfl, e, hl, rs⟩ := rq_dct r2
    refine .inr ⟨a, _, rfl, .k e, k _ H (.refl _) ?_⟩
    rw [find_some rs, Bool.false_xor]
    exact .bl _
  | _ => exact .inl (isIn_d W H _ _ _ _ _ Q wf r1 r2 h k)
theorem notInA_d {K : Fw} : OpD K (rInA K true) D.notInA := fun W H v1 v2 d1 d2 d Q wf r1 r2 h k => by
  cases d2 with
  | dct ks ds =>
    obtain ⟨kk, e4, hf⟩ := Option.map_eq_some_iff.mp h
    subst hf
    cases key_q r1 e4
    obtain ⟨a, vs, rfl, e, hl, rs⟩ := rq_dct r2
    refine .inr ⟨a, _, rfl, .k e, k _ H (.refl _) ?_⟩
    rw [find_some rs, Bool.true_xor]
    exact .bl _
  | _ => exact .inl (notIn_d W H _ _ _ _ _ Q wf r1 r2 h k)
def D.dix : D → D → Option D
  | .dct ks ds, x => x.key.bind (dFind ks ds)
  | _, _ => none
def rDGet : R2 := fun x y H Q => ∃ a v, x = .ref a ∧ DGet H a y (some v) ∧ Q v H
theorem dix_d {K : Fw} : OpD K rDGet D.dix := fun W H v1 v2 d1 d2 d Q wf r1 r2 h k => by
  cases d1 with
  | dct ks ds =>
    obtain ⟨kk, e4, hf⟩ := Option.bind_eq_some_iff.mp h
    cases key_q r2 e4
    obtain ⟨a, vs, rfl, e, hl, rs⟩ := rq_dct r1
    rcases find_rps (k := kk) (ks := ks) rs with ⟨h1, h2⟩ | ⟨v', d', h1, h2, h3⟩
    · rw [hf] at h2; cases h2
    · rw [hf] at h2
      cases h2
      exact ⟨a, v', rfl, by rw [← h1]; exact .k e, k _ H (.refl _) h3⟩
  | _ => cases h
theorem e_dix {X : Cx} {a b : Expr} {f1 f2 : Ex} {pos : Pos} (hu : X.A.units + 64 < cLine) (ha : B X a f1) (hb : B X b f2) (hs : NoSl b := by intro _ _; rfl) : E X (.Subscript a b pos) (eBin D.dix f1 f2) :=
  pe_imp (pe_dget (by omega) ha hb hs) fun σ H Q h => bin_d dix_d h
end DL

set_option Elab.async false
set_option linter.all false
set_option maxRecDepth 100000
set_option maxHeartbeats 1000000
namespace DL
open PySem PySem.Spec PyProof.Rows L2
/-! ## 32. data as a key of a dict: nested tuples -/
section
variable {X : Cx} {pins : List (Addr × Obj)} {σ : L2.St} {H : Hp} {s : Shared} {W : Wd}
mutual
theorem nk_is (I : Inv X pins σ H s) : ∀ {d : D} {v : V} {u : Value} {k : NestedKey}, Rp (FX X) W H v d → d.nk = some k → RelV v u → NestedIs s.heap k u
  | .non, _, u, _, r, h, rv => by
    cases r
    simp only [D.nk] at h
    cases h
    obtain rfl : u = Value.none := rv
    exact .none
  | .bl b, _, u, _, r, h, rv => by
    cases r
    simp only [D.nk] at h
    cases h
    obtain rfl : u = Value.bool b := rv
    exact .bool rfl
  | .int i, _, u, _, r, h, rv => by
    cases r
    simp only [D.nk] at h
    cases h
    obtain ⟨t, rfl⟩ := (show ∃ t, u = Value.int i t from rv)
    exact .int _ _
  | .str x, _, u, _, r, h, rv => by
    cases r
    simp only [D.nk] at h
    cases h
    obtain ⟨t, rfl⟩ := (show ∃ t, u = Value.str x t from rv)
    exact .text _ _
  | .tup xs, _, u, k, r, h, rv => by
    cases r with
    | @tup a vs _ q z rs =>
      simp only [D.nk] at h
      obtain ⟨ks, hk, rfl⟩ := Option.map_eq_some_iff.mp h
      obtain rfl : u = Value.ref a := rv
      obtain ⟨its, rvs, p, _⟩ := I.tuple q.sqt
      obtain ⟨o, ho, hc, n, hd⟩ := p
      exact .tup ho hc hd (nks_is I rs hk (by simpa using rvs))
  | .lst _, _, _, _, _, h, _ => by simp [D.nk] at h
  | .ty _, _, _, _, _, h, _ => by simp [D.nk] at h
  | .ref _, _, _, _, _, h, _ => by simp [D.nk] at h
  | .scr _, _, _, _, _, h, _ => by simp [D.nk] at h
  | .dct _ _, _, _, _, _, h, _ => by simp [D.nk] at h
theorem nks_is (I : Inv X pins σ H s) : ∀ {ds : List D} {vs : List V} {us : List Value} {ks : List NestedKey}, Rps (FX X) W H vs ds → D.nks ds = some ks → Vals vs us → NestedAll s.heap ks us
  | [], _, _, _, r, h, rv => by
    cases r
    simp only [D.nks] at h
    cases h
    cases rv
    exact .nil
  | d :: ds, _, _, _, r, h, rv => by
    simp only [D.nks] at h
    obtain ⟨k, h1, h2⟩ := Option.bind_eq_some_iff.mp h
    obtain ⟨ks, h3, rfl⟩ := Option.map_eq_some_iff.mp h2
    cases r with
    | cons a b =>
      cases rv with
      | cons c e => exact .cons (nk_is I a h1 c) (nks_is I b h3 e)
end
end
end DL

set_option Elab.async false
set_option linter.all false
set_option maxRecDepth 100000
set_option maxHeartbeats 1000000
namespace DL
open PySem PySem.Spec PyProof.Rows L2
/-! ## 34. its rules -/
def DnIs (X : Cx) (H : Hp) (a : Addr) (xs : DnX) : Prop := (∃ o, H a = some (DnAt X.prog X.w a xs o)) ∧ ∀ (pins : List (Addr × Obj)) (σ : L2.St) (s : Shared), Inv X pins σ H s → KeysAt s.heap xs
def NkIs (X : Cx) (H : Hp) (b : Addr) (k : NestedKey) : Prop := ∀ (pins : List (Addr × Obj)) (σ : L2.St) (s : Shared), Inv X pins σ H s → NestedIs s.heap k (.ref b) ∧ k.depth ≤ 8
def tDnNew (X : Cx) : TE := fun _ H Q => ∀ p, H p = none → Q (.ref p) (upd H p (DnAt X.prog X.w p [] dictNew))
def tDiNew (X : Cx) : TE := fun _ H Q => ∀ p, H p = none → Q (.ref p) (upd H p (DiAt X.prog X.w p [] dictNew))
def tDnGet2 (X : Cx) (td ty tx : TE) : TE := fun σ H Q => td σ H fun x H1 => ∃ a, x = .ref a ∧ (∃ xs o, H1 a = some (DnAt X.prog X.w a xs o)) ∧ ty σ H1 fun y H2 => tx σ H2 fun z H3 =>
  ∃ xs b k, y = .ref b ∧ DnIs X H3 a xs ∧ NkIs X H3 b k ∧ Q ((findN xs k).getD z) H3
def sDnPutT (X : Cx) (td ty tv : TE) : TS := fun D σ H => tv σ H fun v H1 => td σ H1 fun x H2 => ty σ H2 fun y H3 =>
  ∃ a xs b k, x = .ref a ∧ y = .ref b ∧ DnIs X H3 a xs ∧ NkIs X H3 b k ∧ xs.length < sizeLine ∧ ∀ o, D.nx σ (upd H3 a (DnAt X.prog X.w a (putN xs k b v) o))
def sDiPutT (X : Cx) (td ty tv : TE) : TS := fun D σ H => tv σ H fun v H1 => td σ H1 fun x H2 => ty σ H2 fun y H3 =>
  ∃ a kvs j o, x = .ref a ∧ y = kV j ∧ H3 a = some (DiAt X.prog X.w a kvs o) ∧ kvs.length < sizeLine ∧ ∀ o, D.nx σ (upd H3 a (DiAt X.prog X.w a (putK kvs j v) o))
def tDnGet (X : Cx) (td ty : TE) : TE := fun σ H Q => td σ H fun x H1 => ty σ H1 fun y H2 => ∃ a xs b k v, x = .ref a ∧ y = .ref b ∧ DnIs X H2 a xs ∧ NkIs X H2 b k ∧ findN xs k = some v ∧ Q v H2
def tDiGet (X : Cx) (td ty : TE) : TE := fun σ H Q => td σ H fun x H1 => ty σ H1 fun y H2 => ∃ a kvs j o v, x = .ref a ∧ y = kV j ∧ H2 a = some (DiAt X.prog X.w a kvs o) ∧ valV kvs j = some v ∧ Q v H2
section
variable {X : Cx} {A : Around} {E : Value → Shared → Prop} {pins : List (Addr × Obj)} {σ : L2.St} {H : Hp} {s : Shared} {a b : Addr} {xs : DnX} {k : NestedKey} {o i e f value : Expr} {pos pos' apos cpos : Pos} {td ty tx tv : TE}
theorem dn_at {ob : Obj} (I : Inv X pins σ H s) (e : H a = some (DnAt X.prog X.w a xs ob)) : s.TypeIs (.ref a) "dict" ∧ ∀ b, Value.ref a = .ref b → ∃ ob, s.heap.get? b = some ob ∧ ob.dict = none := by
  obtain ⟨⟨p1, p2, h1, ys, p3, es, ep, h2, _⟩, _, _⟩ := (I.hok a _ e : ObjOk X.prog X.w H s.heap a (.ext (DnP X.prog X.w a xs ob)))
  refine ⟨⟨ob, h1, h2.1⟩, fun b q => ?_⟩
  cases q
  exact ⟨ob, h1, h2.2.1⟩
theorem di_type {ob : Obj} {kvs : List (Key × V)} (I : Inv X pins σ H s) (e : H a = some (DiAt X.prog X.w a kvs ob)) : s.TypeIs (.ref a) "dict" := by
  obtain ⟨⟨p1, p2, h1, vs, p3, es, ep, h2, _⟩, _, _⟩ := (I.hok a _ e : ObjOk X.prog X.w H s.heap a (.ext (DiP X.prog X.w a kvs ob)))
  exact ⟨ob, h1, h2.1⟩
theorem dn_item {ob : Obj} {Q : Value → Shared → Prop} {v : V} (hu : A.units + 16 < cLine) (I : Inv X pins σ H s) (e : H a = some (DnAt X.prog X.w a xs ob)) (ky : KeysAt s.heap xs) (hk : NestedIs s.heap k (.ref b) ∧ k.depth ≤ 8) (hv : findN xs k = some v)
    (h : ∀ w' s', Inv X pins σ H s' → RelV v w' → Q w' s') : wpAny (model X.prog X.w) A (getItem (.ref a) (.ref b)) Q E s := by
  obtain ⟨hd, z, ys, p3, dd⟩ := dn_of I e ky
  rcases rd_find (k := k) p3 with ⟨h1, h2⟩ | ⟨v', p, h1, h2, h3⟩
  · rw [hv] at h1; cases h1
  · rw [hv] at h1; cases h1
    exact wpAny_getItem_heap (knd := nestedKind X.prog X.w) (by show A.units + 1 + 8 < cLine; omega) hk dd h2 (h _ _ (I.tok _) h3)
theorem pe_dnnew : PE X (.Dict [] [] pos) (tDnNew X) := ⟨fun pins s σ H Q I h =>
  wpAny_Dict_empty ⟨.ref s.heap.objs.size, _, I.laid (a := s.heap.objs.size) (o := DnAt X.prog X.w s.heap.objs.size [] dictNew) (t' := s.toks) (fun _ _ q => Heap.get?_push_of_some _ q) (Nat.le_refl _) (dn_empty s.heap I.big), rfl, h _ (I.hok.fresh (Nat.le_refl _))⟩⟩
theorem pe_dinew : PE X (.Dict [] [] pos) (tDiNew X) := ⟨fun pins s σ H Q I h =>
  wpAny_Dict_empty ⟨.ref s.heap.objs.size, _, I.laid (a := s.heap.objs.size) (o := DiAt X.prog X.w s.heap.objs.size [] dictNew) (t' := s.toks) (fun _ _ q => Heap.get?_push_of_some _ q) (Nat.le_refl _) (di_empty s.heap I.big), rfl, h _ (I.hok.fresh (Nat.le_refl _))⟩⟩
theorem pe_dnget2 (hu : X.A.units + 16 < cLine) (ho : PE X o td) (he : PE X e ty) (hf : PE X f tx) (m : M2 X o "get" apos e f cpos) : PE X (.Call (.Attribute o "get" apos) [e, f] [] cpos) (tDnGet2 X td ty tx) := by
  refine ⟨fun pins s σ H Q I h => ?_⟩
  refine wpAny_Call_method m.base m.few m.line PySem.F.plainAttrs_dict PySem.F.slot_dict_get PySem.F.type_dict_get (thn (ho.run pins s σ H _ I h) fun u s1 ⟨x, H1, I1, rx, a, ex, ⟨xs0, o0, d⟩, q1⟩ => ?_)
  subst ex
  obtain rfl : u = Value.ref a := rx
  obtain ⟨t1, t2⟩ := dn_at I1 d
  refine ⟨t1, t2, ?_⟩
  rw [m.trees]
  refine Calls.callWith_builtin rfl (Calls.evalArgs_plain (Calls.spliced_cons (thn (he.run pins s1 σ H1 _ I1 q1) fun iv s2 ⟨y, H2, I2, ry, q2⟩ =>
    Calls.spliced_cons (thn (hf.run pins s2 σ H2 _ I2 q2) fun fv s3 ⟨z, H3, I3, rz, xs, b, k, ey, ⟨⟨ob, g1⟩, g2⟩, nk, q3⟩ => Calls.spliced_nil ?_))))
  subst ey
  obtain rfl : iv = Value.ref b := ry
  exact dn_get2 hu I3 g1 (g2 _ _ _ I3) (nk _ _ _ I3) rz fun w' s4 I4 rw' => ⟨_, H3, I4, rw', q3⟩
theorem ps_dnput (hu : X.A.units + 16 < cLine) (ho : PE X o td) (hi : PE X i ty) (hv : PE X value tv) (hs : swapsWith value (some (.Subscript o i pos')) pos.line X.env = pure false := by rfl) :
    PS X (.Assign [.Subscript o i pos'] value pos) (sDnPutT X td ty tv) := by
  refine ⟨fun pins s σ H D I h => ?_⟩
  refine wpAny_Assign_Subscript (thn (hv.run pins s σ H _ I h) fun r s1 ⟨v, H1, I1, rv, q1⟩ => thn (ho.run pins s1 σ H1 _ I1 q1) fun u s2 ⟨x, H2, I2, rx, q2⟩ => thn (hi.run pins s2 σ H2 _ I2 q2) fun iv s3 ⟨y, H3, I3, ry, a, xs, b, k, ex, ey, ⟨⟨ob, g1⟩, g2⟩, nk, hz, q3⟩ => ?_) hs
  subst ex ey
  obtain rfl : u = Value.ref a := rx
  obtain rfl : iv = Value.ref b := ry
  exact dn_set hu I3 g1 (g2 _ _ _ I3) (nk _ _ _ I3) rv hz fun s4 o' I4 => ⟨σ, _, I4, q3 o'⟩
theorem ps_diput (ho : PE X o td) (hi : PE X i ty) (hv : PE X value tv) (hs : swapsWith value (some (.Subscript o i pos')) pos.line X.env = pure false := by rfl) :
    PS X (.Assign [.Subscript o i pos'] value pos) (sDiPutT X td ty tv) := by
  refine ⟨fun pins s σ H D I h => ?_⟩
  refine wpAny_Assign_Subscript (thn (hv.run pins s σ H _ I h) fun r s1 ⟨v, H1, I1, rv, q1⟩ => thn (ho.run pins s1 σ H1 _ I1 q1) fun u s2 ⟨x, H2, I2, rx, q2⟩ => thn (hi.run pins s2 σ H2 _ I2 q2) fun iv s3 ⟨y, H3, I3, ry, a, kvs, j, ob, ex, ey, g, hz, q3⟩ => ?_) hs
  subst ex ey
  obtain rfl : u = Value.ref a := rx
  exact di_set I3 g ry rv hz fun s4 o' I4 => ⟨σ, _, I4, q3 o'⟩
theorem pe_dnget (hu : X.A.units + 16 < cLine) (ho : PE X o td) (hi : PE X i ty) (hs : NoSl i) : PE X (.Subscript o i pos) (tDnGet X td ty) := by
  refine ⟨fun pins s σ H Q I h => ?_⟩
  refine subD_of PySem.F.slot_dict_getitem.lookup hs (thn (ho.run pins s σ H _ I h) fun u s1 ⟨x, H1, I1, rx, q1⟩ => thn (hi.run pins s1 σ H1 _ I1 q1) fun iv s2 ⟨y, H2, I2, ry, a, xs, b, k, v, ex, ey, ⟨⟨ob, g1⟩, g2⟩, nk, hv, q2⟩ => ?_)
  subst ex ey
  obtain rfl : u = Value.ref a := rx
  obtain rfl : iv = Value.ref b := ry
  exact ⟨(dn_at I2 g1).1, dn_item hu I2 g1 (g2 _ _ _ I2) (nk _ _ _ I2) hv fun w' s3 I3 rw' => ⟨v, H2, I3, rw', q2⟩⟩
theorem pe_diget (ho : PE X o td) (hi : PE X i ty) (hs : NoSl i) : PE X (.Subscript o i pos) (tDiGet X td ty) := by
  refine ⟨fun pins s σ H Q I h => ?_⟩
  refine subD_of PySem.F.slot_dict_getitem.lookup hs (thn (ho.run pins s σ H _ I h) fun u s1 ⟨x, H1, I1, rx, q1⟩ => thn (hi.run pins s1 σ H1 _ I1 q1) fun iv s2 ⟨y, H2, I2, ry, a, kvs, j, ob, v, ex, ey, g, hv, q2⟩ => ?_)
  subst ex ey
  obtain rfl : u = Value.ref a := rx
  exact ⟨di_type I2 g, di_item I2 g ry hv fun w' s3 I3 rw' => ⟨v, H2, I3, rw', q2⟩⟩
end
end DL

set_option Elab.async false
set_option linter.all false
set_option maxRecDepth 100000
namespace DL
open PySem PySem.Spec PyProof.Rows L2
/-! ## 35. x *= y of ints -/
def D.imul : D → D → Option D
  | .int i, .int j => if (-(2 ^ 64) < i ∧ i < 2 ^ 64) ∨ (-(2 ^ 64) < j ∧ j < 2 ^ 64) then some (.int (i * j)) else none
  | _, _ => none
theorem imul_d {K : Fw} : OpD K (rI CMul fun i j => .int (i * j)) D.imul := fun W H v1 v2 d1 d2 d Q wf r1 r2 h k => by
  unfold D.imul at h
  split at h
  · rename_i i j
    by_cases c : (-(2 ^ 64) < i ∧ i < 2 ^ 64) ∨ (-(2 ^ 64) < j ∧ j < 2 ^ 64)
    · rw [if_pos c] at h
      cases h
      exact ⟨_, _, rq_int r1, rq_int r2, c, k _ H (.refl _) (.int _)⟩
    · rw [if_neg c] at h; cases h
  · cases h
end DL

set_option Elab.async false
set_option linter.all false
set_option maxRecDepth 100000
set_option maxHeartbeats 1000000
namespace DL
open PySem PySem.Spec PyProof.Rows L2
/-! ## 36. the frame's own dict: data -/
/-- a key of a dict of that kind -/
def D.keyOk : Bool → D → Option NestedKey
  | true, .tup xs => (D.tup xs).nk.bind fun k => if k.depth ≤ 8 then some k else none
  | false, .int i => some (.num i)
  | false, .str x => some (.text x)
  | _, _ => none
def dnFind (ks ds : List D) (k : NestedKey) : Option D := ((ks.zip ds).find? fun kv => decide (kv.1.nk = some k)).map (·.2)
def dnRep (k : NestedKey) (v : D) : List D → List D → List D
  | y :: ks, d :: ds => (if y.nk = some k then v else d) :: dnRep k v ks ds
  | _, ds => ds
def dnPutK (ks ds : List D) (y : D) (k : NestedKey) : List D := if (dnFind ks ds k).isSome = true then ks else ks ++ [y]
def dnPutV (ks ds : List D) (k : NestedKey) (v : D) : List D := if (dnFind ks ds k).isSome = true then dnRep k v ks ds else ds ++ [v]
section
variable {X : Cx} {K : Fw} {W : Wd} {H : Hp} {pins : List (Addr × Obj)} {σ : L2.St} {s : Shared}
theorem keysAt_of (I : Inv X pins σ H s) : ∀ {xs : DnX} {ks : List D}, Rps (FX X) W H (xs.map fun x => V.ref x.2.1) ks → ks.map D.nk = xs.map (fun x => some x.1) → (∀ x ∈ xs, x.1.depth ≤ 8) → KeysAt s.heap xs
  | [], _, _, _, _, x, hx => by cases hx
  | x :: xs, _, r, e, d, y, hy => by
    cases r with
    | @cons _ dk _ dks r1 r2 =>
      rw [List.map_cons, List.map_cons] at e
      injection e with e1 e2
      cases hy with
      | head => exact ⟨nk_is I r1 e1 rfl, d _ (.head _)⟩
      | tail _ hy => exact keysAt_of I r2 e2 (fun z hz => d z (.tail _ hz)) y hy
theorem dn_find {k : NestedKey} : ∀ {xs : DnX} {ks ds : List D}, Rps K W H (xs.map (·.2.2)) ds → ks.map D.nk = xs.map (fun x => some x.1) → (findN xs k = none ∧ dnFind ks ds k = none) ∨ ∃ v d, findN xs k = some v ∧ dnFind ks ds k = some d ∧ Rp K W H v d
  | [], ks, _, _, e => by
    have : ks = [] := List.map_eq_nil_iff.mp e
    subst this
    exact .inl ⟨rfl, rfl⟩
  | x :: xs, [], _, _, e => by simp at e
  | x :: xs, y :: ks, _, r, e => by
    cases r with
    | @cons _ d _ ds r1 r2 =>
      rw [List.map_cons, List.map_cons] at e
      injection e with e1 e2
      by_cases q : x.1 = k
      · refine .inr ⟨x.2.2, d, by simp [findN, q], ?_, r1⟩
        simp [dnFind, e1, q]
      · rcases dn_find (k := k) r2 e2 with ⟨h1, h2⟩ | ⟨v', d', h1, h2, h3⟩
        · exact .inl ⟨by simpa [findN, q] using h1, by simpa [dnFind, e1, q] using h2⟩
        · exact .inr ⟨v', d', by simpa [findN, q] using h1, by simpa [dnFind, e1, q] using h2, h3⟩
theorem dn_rep {k : NestedKey} {v : V} {d : D} (rv : Rp K W H v d) : ∀ {xs : DnX} {ks ds : List D}, Rps K W H (xs.map (·.2.2)) ds → ks.map D.nk = xs.map (fun x => some x.1) → Rps K W H ((xs.map fun x => if x.1 = k then (x.1, x.2.1, v) else x).map (·.2.2)) (dnRep k d ks ds)
  | [], ks, _, r, e => by
    cases r
    have : ks = [] := List.map_eq_nil_iff.mp e
    subst this
    exact .nil
  | x :: xs, [], _, _, e => by simp at e
  | x :: xs, y :: ks, _, r, e => by
    cases r with
    | @cons _ dd _ ds r1 r2 =>
      rw [List.map_cons, List.map_cons] at e
      injection e with e1 e2
      have ih := dn_rep rv r2 e2 (k := k)
      rw [List.map_cons, List.map_cons, dnRep, e1]
      by_cases q : x.1 = k
      · rw [if_pos q, if_pos (congrArg some q)]; exact .cons rv ih
      · rw [if_neg q, if_neg (fun z => q (Option.some.inj z))]; exact .cons r1 ih
theorem map_rep {k : NestedKey} {v : V} (xs : DnX) : ((xs.map fun x => if x.1 = k then (x.1, x.2.1, v) else x).map fun x => V.ref x.2.1) = (xs.map fun x => V.ref x.2.1) ∧ ((xs.map fun x => if x.1 = k then (x.1, x.2.1, v) else x).map fun x => some x.1) = xs.map fun x => some x.1 := by
  constructor
  · rw [List.map_map]; refine List.map_congr_left fun x _ => ?_
    by_cases q : x.1 = k <;> simp [q]
  · rw [List.map_map]; refine List.map_congr_left fun x _ => ?_
    by_cases q : x.1 = k <;> simp [q]
/-- the dict behind d[y] = v -/
theorem dn_put_cell {a b : Addr} {xs : DnX} {ks ds : List D} {k : NestedKey} {y d : D} {v : V} {o : Obj} {H' : Hp} (e : H' a = some (DnAt K.pg K.wd a (putN xs k b v) o)) (r1 : Rps K W H' (xs.map fun x => V.ref x.2.1) ks) (r2 : Rps K W H' (xs.map (·.2.2)) ds) (en : ks.map D.nk = xs.map (fun x => some x.1)) (dp : ∀ x ∈ xs, x.1.depth ≤ 8)
    (ry : Rp K W H' (.ref b) y) (hk : y.nk = some k) (hd : k.depth ≤ 8) (rv : Rp K W H' v d) : CellOk K W H' a (.dn true (dnPutK ks ds y k) (dnPutV ks ds k d)) := by
  refine ⟨putN xs k b v, o, e, ?_⟩
  unfold dnPutK dnPutV
  rcases dn_find (k := k) r2 en with ⟨h1, h2⟩ | ⟨v', d', h1, h2, h3⟩
  · rw [putN, h1, h2]
    refine ⟨?_, ?_, ?_, fun x hx => ?_⟩
    · show Rps K W H' ((xs ++ [(k, b, v)]).map fun x => V.ref x.2.1) (ks ++ [y])
      rw [List.map_append]; exact r1.append (.cons ry .nil)
    · show Rps K W H' ((xs ++ [(k, b, v)]).map (·.2.2)) (ds ++ [d])
      rw [List.map_append]; exact r2.append (.cons rv .nil)
    · show (ks ++ [y]).map D.nk = (xs ++ [(k, b, v)]).map (fun x => some x.1)
      rw [List.map_append, List.map_append, en]
      simp [hk]
    · have hx : x ∈ xs ++ [(k, b, v)] := hx
      rcases List.mem_append.mp hx with hx | hx
      · exact dp x hx
      · rw [List.mem_singleton.mp hx]; exact hd
  · rw [putN, h1, h2]
    have m := map_rep (k := k) (v := v) xs
    refine ⟨?_, ?_, ?_, fun x hx => ?_⟩
    · show Rps K W H' ((xs.map fun x => if x.1 = k then (x.1, x.2.1, v) else x).map fun x => V.ref x.2.1) ks
      rw [m.1]; exact r1
    · exact dn_rep rv r2 en
    · show ks.map D.nk = (xs.map fun x => if x.1 = k then (x.1, x.2.1, v) else x).map (fun x => some x.1)
      rw [m.2]; exact en
    · have hx : x ∈ xs.map fun x => if x.1 = k then (x.1, x.2.1, v) else x := hx
      obtain ⟨z, hz, rfl⟩ := List.mem_map.mp hx
      by_cases q : z.1 = k
      · simp only [if_pos q]; exact dp z hz
      · simp only [if_neg q]; exact dp z hz
/-! ints and texts -/
def keyN : Key → NestedKey := Sum.elim .num .text
theorem keyD_nk (j : Key) : (keyD j).nk = some (keyN j) := by cases j <;> simp [keyD, keyN, D.nk]
theorem keyN_inj {i j : Key} (h : keyN i = keyN j) : i = j := by
  cases i <;> cases j <;> simp [keyN] at h <;> rw [h]
theorem di_find {j : Key} : ∀ {kvs : List (Key × V)} {ds : List D}, Rps K W H (kvs.map (·.2)) ds → (valV kvs j = none ∧ dnFind (kvs.map fun kv => keyD kv.1) ds (keyN j) = none) ∨ ∃ v d, valV kvs j = some v ∧ dnFind (kvs.map fun kv => keyD kv.1) ds (keyN j) = some d ∧ Rp K W H v d
  | [], _, _ => .inl ⟨rfl, rfl⟩
  | x :: kvs, _, r => by
    cases r with
    | @cons _ d _ ds r1 r2 =>
      by_cases q : x.1 = j
      · exact .inr ⟨x.2, d, by simp [valV, q], by simp [dnFind, keyD_nk, q], r1⟩
      · have q' : ¬ keyN x.1 = keyN j := fun z => q (keyN_inj z)
        rcases di_find (j := j) r2 with ⟨h1, h2⟩ | ⟨v', d', h1, h2, h3⟩
        · exact .inl ⟨by simpa [valV, q] using h1, by simpa [dnFind, keyD_nk, q'] using h2⟩
        · exact .inr ⟨v', d', by simpa [valV, q] using h1, by simpa [dnFind, keyD_nk, q'] using h2, h3⟩
theorem di_rep {j : Key} {v : V} {d : D} (rv : Rp K W H v d) : ∀ {kvs : List (Key × V)} {ds : List D}, Rps K W H (kvs.map (·.2)) ds → Rps K W H ((kvs.map fun kv => if kv.1 = j then (kv.1, v) else kv).map (·.2)) (dnRep (keyN j) d (kvs.map fun kv => keyD kv.1) ds)
  | [], _, r => by cases r; exact .nil
  | x :: kvs, _, r => by
    cases r with
    | @cons _ dd _ ds r1 r2 =>
      have ih := di_rep rv r2 (j := j)
      rw [List.map_cons, List.map_cons, List.map_cons, dnRep, keyD_nk]
      by_cases q : x.1 = j
      · rw [if_pos q, if_pos (congrArg (fun z => some (keyN z)) q)]; exact .cons rv ih
      · rw [if_neg q, if_neg (fun z => q (keyN_inj (Option.some.inj z)))]; exact .cons r1 ih
theorem di_put_cell {a : Addr} {kvs : List (Key × V)} {ds : List D} {j : Key} {d : D} {v : V} {o : Obj} {H' : Hp} (e : H' a = some (DiAt K.pg K.wd a (putK kvs j v) o)) (r2 : Rps K W H' (kvs.map (·.2)) ds) (rv : Rp K W H' v d) :
    CellOk K W H' a (.dn false (dnPutK (kvs.map fun kv => keyD kv.1) ds (keyD j) (keyN j)) (dnPutV (kvs.map fun kv => keyD kv.1) ds (keyN j) d)) := by
  refine ⟨putK kvs j v, o, e, ?_⟩
  unfold dnPutK dnPutV
  rcases di_find (j := j) r2 with ⟨h1, h2⟩ | ⟨v', d', h1, h2, h3⟩
  · rw [putK_new v h1, h2]
    refine ⟨?_, ?_⟩
    · rw [List.map_append]; exact r2.append (.cons rv .nil)
    · rw [List.map_append]; rfl
  · have ep : putK kvs j v = kvs.map fun kv => if kv.1 = j then (kv.1, v) else kv := by
      unfold putK
      rw [valV_any, h1]
      rfl
    rw [ep, h2]
    refine ⟨di_rep rv r2, ?_⟩
    rw [List.map_map]
    refine List.map_congr_left fun x _ => ?_
    by_cases q : x.1 = j <;> simp [q]
end
end DL

set_option Elab.async false
set_option linter.all false
set_option maxRecDepth 100000
set_option maxHeartbeats 1000000
namespace DL
open PySem PySem.Spec PyProof.Rows L2
/-! ## 37. the frame's own dict: rules -/
theorem pe_or {X : Cx} {e : Expr} {t t' : TE} (h : PE X e t) (h' : PE X e t') : PE X e (fun σ H Q => t σ H Q ∨ t' σ H Q) := ⟨fun pins s σ H Q I w => w.elim (fun w => h.run pins s σ H Q I w) fun w => h'.run pins s σ H Q I w⟩
theorem ps_or {X : Cx} {st : Stmt} {t t' : TS} (h : PS X st t) (h' : PS X st t') : PS X st (fun Z σ H => t Z σ H ∨ t' Z σ H) := ⟨fun pins s σ H Z I w => w.elim (fun w => h.run pins s σ H Z I w) fun w => h'.run pins s σ H Z I w⟩
def sDn (b : Bool) (i : Nat) : Stm := fun ρ S => some (.nx (ρ.set i (.ow (.dn b [] []))) S)
def eDnGet2 (i : Nat) (fe ff : Ex) : Ex := fun ρ S => match ρ[i]? with
  | some (.ow (.dn true ks ds)) => (fe ρ S).bind fun q => (ff ρ q.2).bind fun r => (q.1.keyOk true).map fun k => ((dnFind ks ds k).getD r.1, r.2)
  | _ => none
def eDnIx (i : Nat) (fe : Ex) : Ex := fun ρ S => match ρ[i]? with
  | some (.ow (.dn b ks ds)) => (fe ρ S).bind fun q => (q.1.keyOk b).bind fun k => (dnFind ks ds k).map fun d => (d, q.2)
  | _ => none
def sDnPut (i : Nat) (f fi : Ex) : Stm := fun ρ S => (f ρ S).bind fun p => match ρ[i]? with
  | some (.ow (.dn b ks ds)) => (fi ρ p.2).bind fun q => (q.1.keyOk b).bind fun k => if ks.length < sizeLine then some (.nx (ρ.set i (.ow (.dn b (dnPutK ks ds q.1 k) (dnPutV ks ds k p.1)))) q.2) else none
  | _ => none
def iDn (i : Nat) : Ars := fun ρ S => match ρ[i]? with
  | some (.ow (.dn b ks _)) => if ks.length ≤ sizeLine then some (ks, S) else none
  | _ => none
section
variable {X : Cx} {st : Stmt} {o e f : Expr} {fe ff fi g : Ex} {i : Nat} {pos pos' apos cpos : Pos} {value : Expr}
theorem st_dnew (h : PS X st (tAsg (tDnNew X) (gName i))) : ST X st (sDn true i) := ps_imp h fun Z σ H ⟨W, ρ, S, o, rl, hf, k⟩ => by
  cases hf
  intro p n
  have sm := upd_Same (o := DnAt X.prog X.w p [] dictNew) n
  exact k _ _ _ (step_own (.same sm) n) (own_new rl (.same sm) n (rl.st.new rl.wf n) (c := .dn true [] []) ⟨[], dictNew, upd_same, .nil, .nil, rfl, fun x hx => nomatch hx⟩)
theorem st_dinew (h : PS X st (tAsg (tDiNew X) (gName i))) : ST X st (sDn false i) := ps_imp h fun Z σ H ⟨W, ρ, S, o, rl, hf, k⟩ => by
  cases hf
  intro p n
  have sm := upd_Same (o := DiAt X.prog X.w p [] dictNew) n
  exact k _ _ _ (step_own (.same sm) n) (own_new rl (.same sm) n (rl.st.new rl.wf n) (c := .dn false [] []) ⟨[], dictNew, upd_same, .nil, rfl⟩)
theorem keyOk_ref {W : Wd} {H : Hp} {v : V} {d : D} {k : NestedKey} (r : Rp (FX X) W H v d) (h : d.keyOk true = some k) : ∃ b, v = .ref b ∧ NkIs X H b k ∧ d.nk = some k ∧ k.depth ≤ 8 := by
  cases d with
  | tup xs =>
    unfold D.keyOk at h
    obtain ⟨k', e1, e2⟩ := Option.bind_eq_some_iff.mp h
    by_cases z : k'.depth ≤ 8
    · rw [if_pos z] at e2
      cases e2
      cases hr : r with
      | @tup a vs _ q zz rs => exact ⟨a, rfl, fun pins σ s I => ⟨nk_is I r e1 rfl, z⟩, e1, z⟩
    · rw [if_neg z] at e2; cases e2
  | _ => cases h
theorem keyOk_int {W : Wd} {H : Hp} {v : V} {d : D} {k : NestedKey} (r : Rp (FX X) W H v d) (h : d.keyOk false = some k) : ∃ j, v = kV j ∧ k = keyN j ∧ d = keyD j := by
  cases d with
  | int i => cases r; cases h; exact ⟨.inl i, rfl, rfl, rfl⟩
  | str x => cases r; cases h; exact ⟨.inr x, rfl, rfl, rfl⟩
  | _ => cases h
theorem dnIs_of {W : Wd} {H : Hp} {a : Addr} {xs : DnX} {ks : List D} {ob : Obj} (g1 : H a = some (DnAt X.prog X.w a xs ob)) (g2 : Rps (FX X) W H (xs.map fun x => V.ref x.2.1) ks) (g4 : ks.map D.nk = xs.map (fun x => some x.1)) (g5 : ∀ x ∈ xs, x.1.depth ≤ 8) : DnIs X H a xs :=
  ⟨⟨ob, g1⟩, fun pins σ s I => keysAt_of I g2 g4 g5⟩
theorem e_dnget2 (hu : X.A.units + 64 < cLine) (ho : PE X o (tVar i)) (he : E X e fe) (hf : E X f ff) (m : M2 X o "get" apos e f cpos) : E X (.Call (.Attribute o "get" apos) [e, f] [] cpos) (eDnGet2 i fe ff) := pe_imp (pe_dnget2 (by omega) ho he hf m) fun σ H Q ⟨W, ρ, S, d, S', rl, hf, k⟩ => by
  unfold eDnGet2 at hf
  split at hf
  · rename_i ks ds hi
    obtain ⟨⟨qd, S1⟩, e1, hf⟩ := Option.bind_eq_some_iff.mp hf
    obtain ⟨⟨rd, S2⟩, e2, hf⟩ := Option.bind_eq_some_iff.mp hf
    obtain ⟨kk, e3, hf⟩ := Option.map_eq_some_iff.mp hf
    cases hf
    obtain ⟨a, h1, h2, xs, ob, g1, g2, g3, g4, g5⟩ := rl.sl i _ hi
    have nd := (rl.wf.dis i a h2).1
    refine ⟨.ref a, h1, a, rfl, ⟨xs, ob, g1⟩, W, ρ, S, qd, S1, rl, e1, fun v1 H1 s1 st1 r1 => ?_⟩
    have rl1 := rl.stepE s1 st1
    refine ⟨W, ρ, S1, rd, S2, rl1, e2, fun v2 H2 s2 st2 r2 => ?_⟩
    obtain ⟨b, q1, q2, _, _⟩ := keyOk_ref (r1.stepE s2) e3
    have s12 := s1.trans s2
    refine ⟨xs, b, kk, q1, dnIs_of (s12.keep a _ g1 nd) (g2.stepE s12) g4 g5, q2, k _ _ s12 st2 ?_⟩
    rcases dn_find (k := kk) (g3.stepE s12) g4 with ⟨z1, z2⟩ | ⟨v', d', z1, z2, z3⟩
    · rw [z1, z2]; exact r2
    · rw [z1, z2]; exact z3
  · cases hf
theorem e_dnix (hu : X.A.units + 64 < cLine) (ho : PE X o (tVar i)) (he : E X e fe) (hs : NoSl e := by intro _ _; rfl) : E X (.Subscript o e pos) (eDnIx i fe) := pe_imp (pe_or (pe_dnget (by omega) ho he hs) (pe_diget ho he hs)) fun σ H Q ⟨W, ρ, S, d, S', rl, hf, k⟩ => by
  unfold eDnIx at hf
  split at hf
  · rename_i bb ks ds hi
    obtain ⟨⟨qd, S1⟩, e1, hf⟩ := Option.bind_eq_some_iff.mp hf
    obtain ⟨kk, e3, hf⟩ := Option.bind_eq_some_iff.mp hf
    obtain ⟨dd, e4, hf⟩ := Option.map_eq_some_iff.mp hf
    cases hf
    cases bb with
    | true =>
      obtain ⟨a, h1, h2, xs, ob, g1, g2, g3, g4, g5⟩ := rl.sl i _ hi
      have nd := (rl.wf.dis i a h2).1
      refine .inl ⟨.ref a, h1, W, ρ, S, qd, S1, rl, e1, fun v1 H1 s1 st1 r1 => ?_⟩
      obtain ⟨b, q1, q2, _, _⟩ := keyOk_ref r1 e3
      rcases dn_find (k := kk) (g3.stepE s1) g4 with ⟨z1, z2⟩ | ⟨v', d', z1, z2, z3⟩
      · rw [z2] at e4; cases e4
      · rw [z2] at e4
        cases e4
        exact ⟨a, xs, b, kk, v', rfl, q1, dnIs_of (s1.keep a _ g1 nd) (g2.stepE s1) g4 g5, q2, z1, k _ _ s1 st1 z3⟩
    | false =>
      obtain ⟨a, h1, h2, kvs, ob, g1, g2, rfl⟩ := rl.sl i _ hi
      have nd := (rl.wf.dis i a h2).1
      refine .inr ⟨.ref a, h1, W, ρ, S, qd, S1, rl, e1, fun v1 H1 s1 st1 r1 => ?_⟩
      obtain ⟨j, q1, rfl, _⟩ := keyOk_int r1 e3
      rcases di_find (j := j) (g2.stepE s1) with ⟨z1, z2⟩ | ⟨v', d', z1, z2, z3⟩
      · rw [z2] at e4; cases e4
      · rw [z2] at e4
        cases e4
        exact ⟨a, kvs, j, ob, v', rfl, q1, s1.keep a _ g1 nd, z1, k _ _ s1 st1 z3⟩
  · cases hf
theorem st_dnput (hu : X.A.units + 64 < cLine) (ho : PE X o (tVar i)) (hi : E X e fi) (hv : E X value g) (hs : swapsWith value (some (.Subscript o e pos')) pos.line X.env = pure false := by rfl) : ST X (.Assign [.Subscript o e pos'] value pos) (sDnPut i g fi) :=
  ps_imp (ps_or (ps_dnput (by omega) ho hi hv hs) (ps_diput ho hi hv hs)) fun Z σ H ⟨W, ρ, S, oo, rl, hf, k⟩ => by
  unfold sDnPut at hf
  obtain ⟨⟨pd, S1⟩, e1, hf⟩ := Option.bind_eq_some_iff.mp hf
  split at hf
  · rename_i bb ks ds hi
    obtain ⟨⟨qd, S2⟩, e2, hf⟩ := Option.bind_eq_some_iff.mp hf
    obtain ⟨kk, e3, hf⟩ := Option.bind_eq_some_iff.mp hf
    by_cases hz : ks.length < sizeLine
    · rw [if_pos hz] at hf
      cases hf
      cases bb with
      | true =>
        obtain ⟨a, h1, h2, xs, ob, g1, g2, g3, g4, g5⟩ := rl.sl i _ hi
        have nd := (rl.wf.dis i a h2).1
        refine .inl ⟨W, ρ, S, pd, S1, rl, e1, fun v1 H1 s1 st1 r1 => ⟨.ref a, h1, W, ρ, S1, qd, S2, rl.stepE s1 st1, e2, fun v2 H2 s2 st2 r2 => ?_⟩⟩
        have s12 := s1.trans s2
        obtain ⟨b, rfl, q2, q3, q4⟩ := keyOk_ref r2 e3
        have g1' := s12.keep a _ g1 nd
        have hl : xs.length = ks.length := by have := g2.length; rwa [List.length_map] at this
        refine ⟨a, xs, b, kk, rfl, rfl, dnIs_of g1' (g2.stepE s12) g4 g5, q2, by rw [hl]; exact hz, fun o => ?_⟩
        have kp : Kps (FX X) W H2 W (upd H2 a (DnAt X.prog X.w a (putN xs kk b v1) o)) := kps_cell g1' trivial (.inr (.inr ⟨i, h2⟩))
        have cc : CellOk (FX X) W (upd H2 a (DnAt X.prog X.w a (putN xs kk b v1) o)) a (.dn true (dnPutK ks ds qd kk) (dnPutV ks ds kk pd)) :=
          dn_put_cell upd_same ((g2.stepE s12).keeps kp) ((g3.stepE s12).keeps kp) g4 g5 (r2.keeps kp) q3 q4 ((r1.stepE s2).keeps kp)
        obtain ⟨s3, rl3⟩ := own_put ((rl.stepE s1 st1).stepE s2 st2) hi h2 cc ⟨_, g1', trivial⟩
        exact k W σ _ (s12.toS.trans s3) rl3
      | false =>
        obtain ⟨a, h1, h2, kvs, ob, g1, g2, rfl⟩ := rl.sl i _ hi
        have nd := (rl.wf.dis i a h2).1
        refine .inr ⟨W, ρ, S, pd, S1, rl, e1, fun v1 H1 s1 st1 r1 => ⟨.ref a, h1, W, ρ, S1, qd, S2, rl.stepE s1 st1, e2, fun v2 H2 s2 st2 r2 => ?_⟩⟩
        have s12 := s1.trans s2
        obtain ⟨j, q1, rfl, rfl⟩ := keyOk_int r2 e3
        have g1' := s12.keep a _ g1 nd
        refine ⟨a, kvs, j, ob, rfl, q1, g1', by rwa [List.length_map] at hz, fun o => ?_⟩
        have kp : Kps (FX X) W H2 W (upd H2 a (DiAt X.prog X.w a (putK kvs j v1) o)) := kps_cell g1' trivial (.inr (.inr ⟨i, h2⟩))
        have cc := di_put_cell (K := FX X) (H' := upd H2 a (DiAt X.prog X.w a (putK kvs j v1) o)) upd_same ((g2.stepE s12).keeps kp) ((r1.stepE s2).keeps kp)
        obtain ⟨s3, rl3⟩ := own_put ((rl.stepE s1 st1).stepE s2 st2) hi h2 cc ⟨_, g1', trivial⟩
        exact k W σ _ (s12.toS.trans s3) rl3
    · rw [if_neg hz] at hf; cases hf
  · cases hf
end
/-! ### walked -/
def IteO (a : Addr) (u : HO) (ys : List V) : It := ⟨fun i H => H a = some u ∧ i < ys.length, fun i H x H' => H' = H ∧ ys[i]? = some x, fun i H => H a = some u ∧ ys.length ≤ i⟩
/-- u tells the dict object o with the keys ys -/
structure KeysU (P : Program) (w : World) (a : Addr) (u : HO) (o : Obj) (es : Array DictEntry) (ep : Nat) (ys : List V) : Prop where
  at' : ∀ H h, ObjOk P w H h a u → (a == sysModules) = false ∧ h.get? a = some o
  ex : o.ExactDict
  dt : o.data = .dict es ep
  len : ys.length = es.size
  key : ∀ i (hi : i < es.size) v, ys[i]? = some v → RelV v es[i].key
theorem turn_keysU {P : Program} {w : World} {K : PySem.W.Frag} {tg : Expr} {a : Addr} {u : HO} {o : Obj} {es : Array DictEntry} {ep : Nat} {ys : List V} (it : Addr) (U : KeysU P w a u o es ep ys) : Turn P w K tg (IteO a u ys) [it] it (fun i h => h.IsKeyIter it a i es.size ep) where
  mem := by simp
  obj := fun i h st b hb => by
    have e : b = it := by simpa using hb
    subst e
    obtain ⟨oi, e, c, dd⟩ := st
    exact ⟨oi, e, fun v z => by rw [dd] at z; cases z⟩
  keep := fun i h h' st k => st.at fun oi e => k it (by simp) oi e
  item := by
    intro X hP hw hK hc i pins s σ H E I hf st hg
    subst hP hw hK
    obtain ⟨hd, hi⟩ := hg
    obtain ⟨f0, f1, f2, f3, f4, f5⟩ := hf it (by simp)
    obtain ⟨v, hv⟩ : ∃ v, ys[i]? = some v := ⟨ys[i], List.getElem?_eq_getElem hi⟩
    have hi' : i < es.size := by rw [← U.len]; exact hi
    refine wpAny_pyNext_keys_item_raw st ⟨o, (U.at' _ _ (I.hok a _ hd)).2, U.ex, U.dt⟩ hi' fun h' st' sb => ?_
    have I1 : Inv X pins σ H { s with heap := h' } := I.turned (t' := s.toks) (fun b ob hb e => (sb.2 b hb).trans e) f0 f1 f3 f4 f5
    obtain ⟨oi, e, c, dd⟩ := id st'
    exact ⟨_, rfl, go_of (s := { s with heap := h' }) e c dd (by decide) ⟨v, H, I1, U.key i hi' v hv, ⟨rfl, hv⟩, st', fun b hb => (hf b hb).1⟩⟩
  done := by
    intro X hP hw hK hc i pins s σ H E I hf st hg
    subst hP hw hK
    obtain ⟨hd, hi⟩ := hg
    obtain ⟨f0, f1, f2, f3, f4, f5⟩ := hf it (by simp)
    refine wpAny_pyNext_keys_end_raw (I.ok.hd hc) st ⟨o, (U.at' _ _ (I.hok a _ hd)).2, U.ex, U.dt⟩ (by rw [← U.len]; exact hi) fun h' eb => ⟨rfl, I.turned (t' := s.toks) (fun b ob hb e => eb b ob hb e) f0 f1 f3 f4 f5⟩
  self := fun A i s Q E st h => by
    refine wpAny_pyIter_slot st.typeIs PySem.F.slot_dict_keyiterator_iter (wpAny_call_entry PySem.F.slot_dict_keyiterator_iter st.typeIs PySem.F.entry_dict_keyiterator_iter ?_ (PySem.F.args_dict_keyiterator_iter_1 _))
    show wpAny _ _ (ret (.ref it)) _ _ s
    exact wpAny_pure ⟨_, rfl, "dict_keyiterator", _, st.typeIs, PySem.F.slot_dict_keyiterator_next.lookup, h⟩
theorem dn_keysU {P : Program} {w : World} {a : Addr} {xs : DnX} {o : Obj} {H : Hp} {h : Heap} (ok : ObjOk P w H h a (DnAt P w a xs o)) : ∃ es ep, KeysU P w a (DnAt P w a xs o) o es ep (xs.map fun x => V.ref x.2.1) := by
  obtain ⟨⟨p1, p2, h1, ys, p3, es, ep, h2, h3, h4, h5⟩, _, _⟩ := (ok : ObjOk P w H h a (.ext (DnP P w a xs o)))
  have hs := size_of_entries h4
  have hl := rd_len p3
  refine ⟨es, ep, fun H' h' ok' => ?_, h2, h3, by rw [List.length_map, hl, hs], fun i hi v hv => ?_⟩
  · obtain ⟨⟨q1, q2, q3, _⟩, _, _⟩ := (ok' : ObjOk P w H' h' a (.ext (DnP P w a xs o)))
    exact ⟨q1, q3⟩
  · rw [List.getElem?_map] at hv
    obtain ⟨x, hx, rfl⟩ := Option.map_eq_some_iff.mp hv
    obtain ⟨y, hy, e1, e2, _⟩ := paired_get p3 hx
    have q := entry_at h4 i
    rw [hy, Array.getElem?_eq_getElem hi] at q
    have q' := Option.some.inj q
    rw [q', e2]
    rfl
theorem di_keysU {P : Program} {w : World} {a : Addr} {kvs : List (Key × V)} {o : Obj} {H : Hp} {h : Heap} (ok : ObjOk P w H h a (DiAt P w a kvs o)) : ∃ es ep, KeysU P w a (DiAt P w a kvs o) o es ep (kvs.map fun kv => kV kv.1) := by
  obtain ⟨⟨p1, p2, h1, vs, p3, es, ep, h2, h3, h4, h5, h6⟩, _, _⟩ := (ok : ObjOk P w H h a (.ext (DiP P w a kvs o)))
  have hs := h5.length
  rw [Array.length_toList] at hs
  have hl : kvs.length = vs.length := Paired.length p3
  refine ⟨es, ep, fun H' h' ok' => ?_, h2, h3, by rw [List.length_map, hl, hs], fun i hi v hv => ?_⟩
  · obtain ⟨⟨q1, q2, q3, _⟩, _, _⟩ := (ok' : ObjOk P w H' h' a (.ext (DiP P w a kvs o)))
    exact ⟨q1, q3⟩
  · rw [List.getElem?_map] at hv
    obtain ⟨x, hx, rfl⟩ := Option.map_eq_some_iff.mp hv
    obtain ⟨y, hy, e1, e2⟩ := paired_get p3 hx
    have q := h5.get? (i := i) (e := es[i]) (by simp [hi]) hy
    rw [show x.1 = y.1 from e1]
    exact relV_key q.1
end DL

set_option Elab.async false
set_option linter.all false
set_option maxRecDepth 100000
set_option maxHeartbeats 1000000
namespace DL
open PySem PySem.Spec PyProof.Rows L2
/-! ## 38. the frame's own dict: walked, sorted -/
def KUof (X : Cx) (a : Addr) (u : HO) (ys : List V) : Prop := (∃ xs o, u = DnAt X.prog X.w a xs o ∧ ys = xs.map fun x => V.ref x.2.1) ∨ ∃ kvs o, u = DiAt X.prog X.w a kvs o ∧ ys = kvs.map fun kv => kV kv.1
def iDnT (X : Cx) (td : TE) : TI := fun σ H R => td σ H fun x H1 => ∃ a u ys, x = .ref a ∧ H1 a = some u ∧ KUof X a u ys ∧ R (IteO a u ys) H1
section
variable {X : Cx} {tg e : Expr} {td : TE} {i : Nat}
theorem pi_dn (he : PE X e td) : PI X tg e (iDnT X td) := by
  refine ⟨fun pins s σ H R I h => ?_⟩
  refine thn (he.run pins s σ H _ I h) fun v s1 ⟨x, H1, I1, rx, a, u, ys, ex, hu, ku, q⟩ => ?_
  subst ex
  obtain rfl : v = Value.ref a := rx
  have ok := I1.hok a _ hu
  obtain ⟨o, es, ep, U⟩ : ∃ o es ep, KeysU X.prog X.w a u o es ep ys := by
    rcases ku with ⟨xs, o, rfl, rfl⟩ | ⟨kvs, o, rfl, rfl⟩
    · obtain ⟨es, ep, U⟩ := dn_keysU ok; exact ⟨o, es, ep, U⟩
    · obtain ⟨es, ep, U⟩ := di_keysU ok; exact ⟨o, es, ep, U⟩
  obtain ⟨hs, hg⟩ := U.at' _ _ ok
  exact iter_keys hs hg U.ex U.dt (pi_one (tk := s1.toks) I1 _ (turn_keysU _ U) ⟨_, Heap.get?_push_size _ rfl, rfl, rfl⟩ q)
theorem walk_ownD {K : Fw} {W : Wd} {H : Hp} {a : Addr} {u : HO} {vs : List V} {ds : List D} (h : H a = some u) (n : a ∉ W.θ ∧ ¬ W.M0 a) (r : Rps K W H vs ds) : Walk K W false H (IteO a u vs) ds := fun W2 H2 l => by
  have e2 : H2 a = some u := LaterE.keep l a _ h n.1 n.2
  refine ⟨fun i d hd => ?_, ⟨e2, by rw [r.length]; exact Nat.le_refl _⟩⟩
  obtain ⟨v, hv, rv⟩ := r.get hd
  refine ⟨⟨e2, (List.getElem?_eq_some_iff.mp hv).1⟩, fun x H3 y => ?_⟩
  obtain ⟨rfl, y⟩ := y
  rw [hv] at y
  cases y
  exact ⟨.refl _, rv.keeps l.kps⟩
theorem rps_keys {K : Fw} {W : Wd} {H : Hp} : ∀ kvs : List (Key × V), Rps K W H (kvs.map fun kv => kV kv.1) (kvs.map fun kv => keyD kv.1)
  | [] => .nil
  | ⟨.inl i, _⟩ :: r => .cons (.int i) (rps_keys r)
  | ⟨.inr x, _⟩ :: r => .cons (.str x) (rps_keys r)
theorem ib_dn (h : PE X e (tVar i)) : IT false X tg e (iDn i) := pi_imp (pi_dn h) fun σ H R ⟨W, ρ, S, xs, S', rl, hf, k⟩ => by
  unfold iDn at hf
  split at hf
  · rename_i bb ks ds hi
    by_cases hz : ks.length ≤ sizeLine
    · rw [if_pos hz] at hf
      cases hf
      cases bb with
      | true =>
        obtain ⟨a, h1, h2, xs, ob, g1, g2, g3, g4, g5⟩ := rl.sl i _ hi
        exact ⟨.ref a, h1, a, _, _, rfl, g1, .inl ⟨xs, ob, rfl, rfl⟩, k _ H (.refl _ _) rl.st hz (walk_ownD g1 (rl.wf.dis i a h2) g2)⟩
      | false =>
        obtain ⟨a, h1, h2, kvs, ob, g1, g2, rfl⟩ := rl.sl i _ hi
        exact ⟨.ref a, h1, a, _, _, rfl, g1, .inr ⟨kvs, ob, rfl, rfl⟩, k _ H (.refl _ _) rl.st hz (walk_ownD g1 (rl.wf.dis i a h2) (rps_keys kvs))⟩
    · rw [if_neg hz] at hf; cases hf
  · cases hf
theorem vals_of : ∀ {vs : List V} {us : List Value}, us.length = vs.length → (∀ (j : Nat) (v : V) (u : Value), vs[j]? = some v → us[j]? = some u → RelV v u) → Vals vs us
  | [], [], _, _ => .nil
  | v :: vs, u :: us, h, k => .cons (k 0 v u rfl rfl) (vals_of (by simpa using h) fun j v' d' e e' => k (j + 1) v' d' (by simpa using e) (by simpa using e'))
  | [], _ :: _, h, _ => by simp at h
  | _ :: _, [], h, _ => by simp at h
/-- sorted(d), d a dict keyed by nested tuples -/
def rSortedN (X : Cx) : List V → Hp → VK → Prop := fun xs H Q => ∃ (a : Addr) (dxs : DnX) (o : Obj) (ps : List PyData), xs = [.ref a] ∧ H a = some (DnAt X.prog X.w a dxs o) ∧ DpAll X.K H (dxs.map fun x => V.ref x.2.1) ps ∧ PySem.W.AllAlike ps ∧ PySem.W.Sortable ps ∧ (∀ p ∈ ps, p.depth ≤ 40) ∧
  ∀ p, H p = none → Q (.ref p) (upd H p (.lst ((((dxs.map fun x => V.ref x.2.1).zip ps).mergeSort (PySem.W.dataLe false (·.2))).map (·.1))))
theorem cr_sortedN (hcalm : X.calm = true) (hu : X.A.units + 64 < cLine) : CallR X (.builtin "sorted") (rSortedN X) := by
  intro pins s σ H xs us Q I r h
  obtain ⟨a, dxs, o, ps, rfl, ha, hd, hal, hk, hdep, q⟩ := h
  rw [Vals.ref1 r]
  have ok := I.hok a _ ha
  have hz : dxs.length ≤ sizeLine := (ok : ObjOk X.prog X.w H s.heap a (.ext (DnP X.prog X.w a dxs o))).1.2.1
  obtain ⟨es, ep, U⟩ := dn_keysU ok
  obtain ⟨lo, hg⟩ := U.at' _ _ ok
  have hes : es.size = dxs.length := by rw [← U.len, List.length_map]
  have hl := dpAll_length hd
  refine Calls.call_function_entry PyProof.Rows.kind_sorted PyProof.Rows.plain_sorted PyProof.Rows.entry_sorted (PyProof.Rows.args_sorted1 _) ?_
  unfold Builtin.«sorted»
  refine wpAny_bind (m := checkCount "sorted" 1 1 _) (wpAny_pure ?_)
  refine wpAny_bind (PySem.W.kdu_collect (A := X.A.in1) (PySem.KdlSrc.rawDict (es := es) (ep := ep) lo) (I.ok.hd hcalm) ⟨o, hg, U.ex, U.dt⟩ (by rw [hes]; exact hz) fun h' tk acc hkk hacc => ?_)
  have hal' : acc.toList.length = (dxs.map fun x => V.ref x.2.1).length := by rw [Array.length_toList, hacc.1, U.len]
  have rv : Vals (dxs.map fun x => V.ref x.2.1) acc.toList := vals_of hal' fun j v u e e' => by
    obtain ⟨hi, rfl⟩ := hacc.2 j u (by rw [← Array.getElem?_toList]; exact e')
    exact U.key j hi v e
  have I1 : Inv X pins σ H { s with heap := h', toks := tk } := I.kept hkk
  refine wpAny_bind (wpAny_newList ?_ (by rw [hal', List.length_map]; exact hz))
  have hoL : (h'.push (seqObj "list" acc.toList.toArray 0)).get? h'.objs.size = some (seqObj "list" acc.toList.toArray 0) := Heap.get?_push_size _ rfl
  show wpAny _ _ _ _ _ { s with heap := h'.push (seqObj "list" acc.toList.toArray 0), toks := tk }
  have ez := each_of rv hl
  have er := dp_each I rv hd
  have hsn : (((dxs.map fun x => V.ref x.2.1).zip ps).map (·.2)) = ps := zip_snd hl
  have er' : PySem.W.EachIs (fun u (b : V × PyData) => ∃ as, Reads (PySem.W.sortingHeap (h'.push (seqObj "list" acc.toList.toArray 0)) h'.objs.size acc.toList) u b.2 as) acc.toList ((dxs.map fun x => V.ref x.2.1).zip ps) :=
    er.mono fun _ _ ⟨as, r⟩ => ⟨as, PyProof.Rows.Reads.keeps (fun b ob z => by
      have z1 := hkk b ob z
      exact PySem.W.sortingHeap_old (Nat.ne_of_lt (Heap.lt_size z1)) (Heap.get?_push_of_some _ z1)) r⟩
  have hub : ∀ b, b ∈ (dxs.map fun x => V.ref x.2.1).zip ps → X.A.in1.units + 1 + (b : V × PyData).2.depth < cLine := fun b hb => by
    have := hdep b.2 (List.of_mem_zip hb).2
    show X.A.units + 1 + 1 + _ < _
    omega
  have hlz : ((dxs.map fun x => V.ref x.2.1).zip ps).length ≤ sizeLine := by rw [List.length_zip, List.length_map]; exact Nat.le_trans (Nat.min_le_left _ _) hz
  refine wpAny_bind (wpAny_holding (wpAny_call_entry PyProof.Rows.slot_list_sort ⟨_, hoL, rfl⟩ PyProof.Rows.entry_list_sort
    (PySem.W.list_sort_vals (κ := PySem.W.dataKind (PySem.W.sortingHeap (h'.push (seqObj "list" acc.toList.toArray 0)) h'.objs.size acc.toList) (((dxs.map fun x => V.ref x.2.1).zip ps).map (·.2))) hoL
      (PySem.W.SortsAt.data (s := { s with heap := PySem.W.sortingHeap (h'.push (seqObj "list" acc.toList.toArray 0)) h'.objs.size acc.toList, toks := tk }) (PySem.W.each_map (R := fun v d => ∃ as, Reads (PySem.W.sortingHeap (h'.push (seqObj "list" acc.toList.toArray 0)) h'.objs.size acc.toList) v d as) (fun b : V × PyData => b.2) er') (by rw [hsn]; exact hal) (by rw [hsn]; exact hk) (PySem.W.bound_map hub)) (by rw [ez.length]; exact hlz) ⟨.none, rfl, ?_⟩)
    (PyProof.Rows.args_list_sort _)))
  have sv := PySem.W.sortVals_data (R := fun u (b : V × PyData) => RelV b.1 u) (enc := (·.2)) false ez er' (by rw [hsn]; exact hal)
  obtain ⟨e', he'⟩ := PyProof.Rows.sortedHeap_at (vs := acc.toList) (out := PySem.W.sortVals (PySem.W.dataKind (PySem.W.sortingHeap (h'.push (seqObj "list" acc.toList.toArray 0)) h'.objs.size acc.toList) (((dxs.map fun x => V.ref x.2.1).zip ps).map (·.2))) false acc.toList acc.toList |>.toArray) hoL
  have hlen : ((((dxs.map fun x => V.ref x.2.1).zip ps).mergeSort (PySem.W.dataLe false (·.2))).map (·.1)).length ≤ sizeLine := by
    rw [List.length_map, List.length_mergeSort]
    exact hlz
  refine wpAny_pure ⟨_, rfl, .ref h'.objs.size, upd H h'.objs.size (.lst ((((dxs.map fun x => V.ref x.2.1).zip ps).mergeSort (PySem.W.dataLe false (·.2))).map (·.1))), I1.laid (t' := tk) (fun b u e => ?_) (Nat.le_refl _)
    (show ObjOk X.prog X.w _ _ _ (.lst _) from ⟨hlen, _, e', each_vals sv, he'⟩), rfl, q _ (I1.hok.fresh (Nat.le_refl _))⟩
  have hb : b < h'.objs.size := Heap.lt_size e
  rw [PyProof.Rows.sortedHeap_old (Nat.ne_of_lt hb) (by rw [size_push']; exact Nat.lt_succ_of_lt hb)]
  exact Heap.get?_push_of_some _ e
end
end DL

set_option Elab.async false
set_option linter.all false
set_option maxRecDepth 100000
set_option maxHeartbeats 1000000
namespace DL
open PySem PySem.Spec PyProof.Rows L2
/-! ## 39. sorted(d), a, b = x, [..] -/
def eDnSort (i : Nat) : Ex := fun ρ S => match ρ[i]? with
  | some (.ow (.dn true ks _)) => if canSort ks = true ∧ ks.length ≤ sizeLine then some (.lst (ks.mergeSort D.le'), S) else none
  | _ => none
section
variable {K : Fw} {W : Wd} {H : Hp}
theorem canSort_split {xs : List D} (c : canSort xs = true) : D.fits xs 40 = true ∧ PySem.W.AllAlike (D.toPs xs) ∧ PySem.W.Sortable (D.toPs xs) ∧ ∀ p ∈ D.toPs xs, p.depth ≤ 40 := by
  unfold canSort at c
  simp only [Bool.and_eq_true, List.all_eq_true] at c
  obtain ⟨⟨c1, c2⟩, c3⟩ := c
  have hfit : D.fits xs 40 = true := by
    have : ∀ ys : List D, (∀ x ∈ ys, x.fit 40 = true) → D.fits ys 40 = true := fun ys => by
      induction ys with
      | nil => intro _; rfl
      | cons y ys ih => intro h; simp only [D.fits, h y List.mem_cons_self, ih fun x hx => h x (List.mem_cons_of_mem _ hx), Bool.and_self]
    exact this xs c1
  refine ⟨hfit, ?_, ?_, ?_⟩
  · rw [toPs_map]
    intro d hd d' hd'
    obtain ⟨x, hx, rfl⟩ := List.mem_map.mp hd
    obtain ⟨y, hy, rfl⟩ := List.mem_map.mp hd'
    exact c2 x hx y hy
  · rw [toPs_map]
    rcases Bool.or_eq_true_iff.mp c3 with c3 | c3
    · refine .inl fun d hd => ?_
      obtain ⟨x, hx, rfl⟩ := List.mem_map.mp hd
      exact neTup_toP (List.all_eq_true.mp c3 x hx)
    · refine .inr fun d hd => ?_
      obtain ⟨x, hx, rfl⟩ := List.mem_map.mp hd
      exact plainKey_toP (List.all_eq_true.mp c3 x hx)
  · rw [toPs_map]
    intro d hd
    obtain ⟨x, hx, rfl⟩ := List.mem_map.mp hd
    exact fit_depth (c1 x hx)
end
section
variable {X : Cx} {st : Stmt} {e : Expr} {f1 f2 : Ex} {i j : Nat}
theorem n_dnsort (h : PE X e (tCB (rSortedN X) (tCons (tVar i) tNil))) : N X e (eDnSort i) := pe_imp h fun σ H Q ⟨W, ρ, S, d, S', rl, hf, k⟩ => by
  unfold eDnSort at hf
  split at hf
  · rename_i ks ds hi
    by_cases c : canSort ks = true ∧ ks.length ≤ sizeLine
    · rw [if_pos c] at hf
      cases hf
      obtain ⟨c, hz0⟩ := c
      obtain ⟨a, h1, h2, xs, ob, g1, g2, g3, g4, g5⟩ := rl.sl i _ hi
      obtain ⟨c1, c2, c3, c4⟩ := canSort_split c
      have hz : xs.length ≤ sizeLine := by have := g2.length; rw [List.length_map] at this; rw [this]; exact hz0
      have kk := newOk rl.wf rl.st (d := .lst (ks.mergeSort D.le')) fun v H' sm r => k v H' (.same sm) r
      obtain ⟨q1, q2⟩ := sort_pairs (xs.map fun x => V.ref x.2.1) ks g2.length
      refine ⟨.ref a, h1, a, xs, ob, D.toPs ks, rfl, g1, fits_dp c1 g2, c2, c3, c4, fun p hp => ?_⟩
      rw [toPs_map, q1]
      have rs' : Rps (FX X) W H ((((xs.map fun x => V.ref x.2.1).zip ks).mergeSort fun p q => D.le' p.2 q.2).map (·.1)) (ks.mergeSort D.le') := by
        rw [q2]
        exact rps_pairs fun p hp => rps_zip g2 p ((List.mergeSort_perm _ _).mem_iff.mp hp)
      refine kk p _ hp ?_ rs'
      rw [List.length_map, List.length_mergeSort, List.length_zip]
      exact Nat.le_trans (Nat.min_le_left _ _) (by rw [List.length_map]; exact hz)
    · rw [if_neg c] at hf; cases hf
  · cases hf
end
/-! ### a, b = x, y; one or both new objects of the frame's own -/
def cellOf : D → Option Cell
  | .lst xs => some (.lst xs)
  | .dct ks ds => some (.dct ks ds)
  | _ => none
def sParDF (i j : Nat) (f1 f2 : Ex) : Stm := fun ρ S => (f1 ρ S).bind fun p => (f2 ρ p.2).bind fun q => (cellOf q.1).map fun c => .nx ((ρ.set i (.sh p.1)).set j (.ow c)) q.2
def sParFF (i j : Nat) (f1 f2 : Ex) : Stm := fun ρ S => (f1 ρ S).bind fun p => (cellOf p.1).bind fun c1 => (f2 (ρ.set i .un) p.2).bind fun q => (cellOf q.1).map fun c2 => .nx ((ρ.set j (.ow c2)).set i (.ow c1)) q.2
section
variable {K : Fw} {W : Wd} {H H' : Hp} {σ : L2.St} {ρ : Rho} {S S' : Sto} {i j : Nat} {a : Addr} {f1 f2 : Ex} {Z : Ends}
theorem rf_cell {v : V} {d : D} {c : Cell} (r : Rf K W H H' S v d) (h : cellOf d = some c) : ∃ a, v = .ref a ∧ H a = none ∧ StOk K (W.plus a) H' S ∧ CellOk K (W.plus a) H' a c := by
  cases r with
  | lst n e z st r => cases h; exact ⟨_, rfl, n, st, _, e, z, r⟩
  | dct n e z st r => cases h; exact ⟨_, rfl, n, st, _, e, z, r⟩
theorem Rel.unset (rl : Rel K W H (σ.set i (some (.ref a))) (ρ.set i (.ow c)) S) : Rel K W H σ (ρ.set i .un) S := by
  refine ⟨by have := rl.len; simpa using this, fun j x e => ?_, rl.st, rl.wf⟩
  by_cases hj : i = j
  · subst hj
    by_cases hl : i < ρ.length
    · rw [List.getElem?_set_self hl] at e
      cases e
      trivial
    · rw [List.getElem?_eq_none (by rw [List.length_set]; omega)] at e
      cases e
  · rw [List.getElem?_set_ne hj] at e
    have q := rl.sl j x (by rw [List.getElem?_set_ne hj]; exact e)
    cases x with
    | un => trivial
    | sh d => obtain ⟨v, h1, h2⟩ := q; exact ⟨v, by rwa [List.getElem?_set_ne hj] at h1, h2⟩
    | ow c' => obtain ⟨b, h1, h2⟩ := q; exact ⟨b, by rwa [List.getElem?_set_ne hj] at h1, h2⟩
theorem Rel.setOw {c : Cell} (rl : Rel K W H σ ρ S) (ha : W.α i = some a) (cc : CellOk K W H a c) : Rel K W H (σ.set i (some (.ref a))) (ρ.set i (.ow c)) S := by
  refine ⟨by rw [List.length_set, List.length_set]; exact rl.len, fun j x e => ?_, rl.st, rl.wf⟩
  by_cases hj : i = j
  · subst hj
    by_cases hl : i < ρ.length
    · rw [List.getElem?_set_self hl] at e
      cases e
      exact ⟨a, by rw [List.getElem?_set_self (by rw [rl.len]; exact hl)], ha, cc⟩
    · rw [List.getElem?_eq_none (by rw [List.length_set]; omega)] at e
      cases e
  · rw [List.getElem?_set_ne hj] at e
    have q := rl.sl j x e
    cases x with
    | un => trivial
    | sh d => obtain ⟨v, h1, h2⟩ := q; exact ⟨v, by rw [List.getElem?_set_ne hj]; exact h1, h2⟩
    | ow c' => obtain ⟨b, h1, h2⟩ := q; exact ⟨b, by rw [List.getElem?_set_ne hj]; exact h1, h2⟩
theorem parDF_core (h : tS K (sParDF i j f1 f2) Z σ H) : tCons (tD K f1) (tCons (tF K f2) tNil) σ H fun vs H2 => ∃ v w, vs = [v, w] ∧ ∀ H3, Same H2 H3 → Z.nx ((σ.set i (some v)).set j (some w)) H3 := by
  obtain ⟨W, ρ, S, o, rl, hf, k⟩ := h
  unfold sParDF at hf
  obtain ⟨⟨d1, S1⟩, e1, hf⟩ := Option.bind_eq_some_iff.mp hf
  obtain ⟨⟨d2, S2⟩, e2, hf⟩ := Option.bind_eq_some_iff.mp hf
  obtain ⟨c, e3, hf⟩ := Option.map_eq_some_iff.mp hf
  cases hf
  refine ⟨W, ρ, S, d1, S1, rl, e1, fun v1 H1 s1 st1 r1 => ⟨W, ρ, S1, d2, S2, rl.stepE s1 st1, e2, fun v2 H2 s2 r2 => ⟨v1, v2, rfl, fun H3 sm => ?_⟩⟩⟩
  obtain ⟨a, rfl, n, st, cc⟩ := rf_cell r2 e3
  have rl2 := own_new (Rel.setSh (i := i) (rl.stepE s1 st1) r1) s2 n st cc (i := j)
  exact k _ _ H3 ((s1.toS.trans (step_own s2 n)).trans (StepE.same sm).toS) (rl2.same sm)
theorem parFF_core (hij : i ≠ j) (h : tS K (sParFF i j f1 f2) Z σ H) : tCons (tF K f1) (tCons (tF K f2) tNil) σ H fun vs H2 => ∃ v w, vs = [v, w] ∧ ∀ H3, Same H2 H3 → Z.nx ((σ.set i (some v)).set j (some w)) H3 := by
  obtain ⟨W, ρ, S, o, rl, hf, k⟩ := h
  unfold sParFF at hf
  obtain ⟨⟨d1, S1⟩, e1, hf⟩ := Option.bind_eq_some_iff.mp hf
  obtain ⟨c1, e2, hf⟩ := Option.bind_eq_some_iff.mp hf
  obtain ⟨⟨d2, S2⟩, e3, hf⟩ := Option.bind_eq_some_iff.mp hf
  obtain ⟨c2, e4, hf⟩ := Option.map_eq_some_iff.mp hf
  cases hf
  refine ⟨W, ρ, S, d1, S1, rl, e1, fun v1 H1 s1 r1 => ?_⟩
  obtain ⟨a1, rfl, n1, st1, cc1⟩ := rf_cell r1 e2
  have rlo := own_new rl s1 n1 st1 cc1 (i := i)
  have rlA : Rel K (W.own i a1) H1 σ (ρ.set i .un) S1 := Rel.unset rlo
  have k2 : Kps K (W.plus a1) H1 (W.own i a1) H1 := Kps.less rfl fun b m => mu_plus.mpr (mu_own m)
  have ai : (W.own i a1).α i = some a1 := by simp [Wd.own]
  refine ⟨W.own i a1, ρ.set i .un, S1, d2, S2, rlA, e3, fun v2 H2 s2 r2 => ⟨.ref a1, v2, rfl, fun H3 sm => ?_⟩⟩
  obtain ⟨a2, rfl, n2, st2, cc2⟩ := rf_cell r2 e4
  have rlB := own_new rlA s2 n2 st2 cc2 (i := j)
  have sB := step_own (i := j) s2 n2
  have n3 := rlA.wf.dis i a1 ai
  obtain ⟨oc, hoc⟩ := cc1.some
  have h2 : H2 a1 = H1 a1 := by rw [hoc]; exact s2.keep a1 oc hoc n3.1
  have cc1' : CellOk K ((W.own i a1).own j a2) H2 a1 c1 := (cc1.keeps k2 rfl).keeps sB.keeps h2
  have ai2 : ((W.own i a1).own j a2).α i = some a1 := by
    show (if i = j then some a2 else (W.own i a1).α i) = some a1
    rw [if_neg hij]; exact ai
  have rlC := rlB.setOw ai2 cc1'
  rw [List.set_comm _ _ (Ne.symm hij)] at rlC
  rw [List.set_comm _ _ (Ne.symm hij), List.set_set] at rlC
  exact k _ _ H3 (((step_own s1 n1).trans sB).trans (StepE.same sm).toS) (by rw [List.set_comm _ _ (Ne.symm hij)]; exact rlC.same sm)
end
section
variable {X : Cx} {st : Stmt} {i j : Nat} {f1 f2 : Ex}
theorem st_parDF (h : PS X st (tPar i j (tCons (tD (FX X) f1) (tCons (tF (FX X) f2) tNil)))) : ST X st (sParDF i j f1 f2) := ps_imp h fun Z σ H w => by
  have q := parDF_core w
  obtain ⟨W, ρ, S, d, S', rl, hf, k⟩ := q
  exact ⟨W, ρ, S, d, S', rl, hf, fun v H1 s1 st1 r1 => by
    obtain ⟨W2, ρ2, S2, d2, S2', rl2, hf2, k2⟩ := k v H1 s1 st1 r1
    exact ⟨W2, ρ2, S2, d2, S2', rl2, hf2, fun v2 H2 s2 r2 => by
      obtain ⟨x, y, e, z⟩ := k2 v2 H2 s2 r2
      exact ⟨x, y, e, z H2 (.refl _)⟩⟩⟩
theorem st_parFF (hij : i ≠ j) (h : PS X st (tPar i j (tCons (tF (FX X) f1) (tCons (tF (FX X) f2) tNil)))) : ST X st (sParFF i j f1 f2) := ps_imp h fun Z σ H w => by
  have q := parFF_core hij w
  obtain ⟨W, ρ, S, d, S', rl, hf, k⟩ := q
  exact ⟨W, ρ, S, d, S', rl, hf, fun v H1 s1 r1 => by
    obtain ⟨W2, ρ2, S2, d2, S2', rl2, hf2, k2⟩ := k v H1 s1 r1
    exact ⟨W2, ρ2, S2, d2, S2', rl2, hf2, fun v2 H2 s2 r2 => by
      obtain ⟨x, y, e, z⟩ := k2 v2 H2 s2 r2
      exact ⟨x, y, e, z H2 (.refl _)⟩⟩⟩
/-- the same where a name is a cell: by way of a tuple -/
theorem st_parDFc (h : PS X st (tAsg (tTupZ (tCons (tD (FX X) f1) (tCons (tF (FX X) f2) tNil))) (gTup X.K 2 (gCons (gName i) (gCons (gName j) gNil))))) : ST X st (sParDF i j f1 f2) := ps_imp h fun Z σ H w => by
  have q := parDF_core w
  obtain ⟨W, ρ, S, d, S', rl, hf, k⟩ := q
  exact ⟨W, ρ, S, d, S', rl, hf, fun v H1 s1 st1 r1 => by
    obtain ⟨W2, ρ2, S2, d2, S2', rl2, hf2, k2⟩ := k v H1 s1 st1 r1
    exact ⟨W2, ρ2, S2, d2, S2', rl2, hf2, fun v2 H2 s2 r2 => by
      obtain ⟨x, y, e, z⟩ := k2 v2 H2 s2 r2
      refine ⟨by show 2 ≤ sizeLine; decide, fun p o hp ho => ?_⟩
      refine ⟨p, [v, v2], rfl, (TupAt.new ho).sqt, rfl, v, [v2], rfl, v2, [], rfl, rfl, ?_⟩
      cases e
      exact z _ (upd_Same hp)⟩⟩
end
end DL

set_option Elab.async false
set_option linter.all false
set_option maxRecDepth 100000
set_option maxHeartbeats 1000000
namespace DL
open PySem PySem.Spec PyProof.Rows L2
/-! ## 39. zip of two sources as what dict() takes -/
theorem pairArgK (k1 k2 : Kd) {P : Program} {w : World} {z TI TO i1 i2 a b : Addr} (S : ZipSep2 z TI TO i1 i2 [i1, a] [i2, b]) (us vs : Array Value) :
    PairArg P w "zip" z [z, TI, TO, i1, i2, a, b] [z, TO, i1, i2] (min us.size vs.size) (fun i k v => us[i]? = some k ∧ vs[i]? = some v)
      (fun h => ZipAt k1 k2 z TI TO i1 i2 a b 0 h ∧ k1.Has h a us ∧ k2.Has h b vs) where
  type := fun s ok => ⟨_, ok.1.1, rfl⟩
  notDict := by decide
  keep := fun h h' ⟨⟨s1, s2, ⟨u, v, s3⟩, s4, s5⟩, p, q⟩ mv => ⟨⟨mv _ _ s1, mv _ _ s2, ⟨u, v, mv _ _ s3⟩, k1.wk_at s4 (mv _), k2.wk_at s5 (mv _)⟩, k1.has_at p (mv _), k2.has_at q (mv _)⟩
  there := fun h ⟨st, p, q⟩ c hc => by
    rcases List.mem_append.mp (show c ∈ [z, TI, TO, i1, i2] ++ [a, b] from hc) with m | m
    · exact (st.there c m).imp fun o x => x.1
    · simp only [List.mem_cons, List.not_mem_nil, or_false] at m
      rcases m with rfl | rfl
      · exact has_there k1 p
      · exact has_there k2 q
  sub := fun c hc => by
    simp only [List.mem_cons, List.not_mem_nil, or_false] at hc ⊢
    rcases hc with x | x | x | x <;> simp [x]
  noKeys := fun A s Q E hh ok none_ => getAttrOr_miss_zip ok.1.1 rfl rfl rfl zip_no_keys (by decide +kernel) hh none_
  iter := fun A s d Q E hh ⟨⟨s1, s2, s3, s4, s5⟩, p, q⟩ ld nd go => by
    simp only [List.mem_cons, List.not_mem_nil, or_false, not_or] at nd
    obtain ⟨dz, dI, dO, d1, d2, da, db⟩ := nd
    have D1 := fun (A' : Around) (h' : A'.handled = none) => k1.draws (P := P) (w := w) (A := A') h' (k1_apart k1 p s4) us 0
    have D2 := fun (A' : Around) (h' : A'.handled = none) => k2.draws (P := P) (w := w) (A := A') h' (k1_apart k2 q s5) vs 0
    simp only [Nat.zero_max] at D1 D2
    refine wpAny_pyIter_zip s1 (go z [z, TO, i1, i2] (ZipRun d z TI TO i1 i2 (SrcAt k1 i1 a us) (SrcAt k2 i2 b vs)) s.heap s.toks ⟨?_, ?_, ?_, ?_⟩ ⟨s2, ⟨Nat.le_refl _, s4, p⟩, ⟨Nat.le_refl _, s5, q⟩, .inl ⟨s1, s3⟩⟩ (fun _ _ e => e) fun c hc => .inl hc)
    · simp [dz, dO, d1, d2]
    · exact fun i h h' r mv => zipRun_move k1 k2 r (by simp [dz, dI, dO, d1, d2, da, db]) fun c o n => mv c o n
    · intro i s' Q' E' li st ld' next
      refine run_item S (D1 _ hh) (D2 _ hh) st ld' (Nat.lt_of_lt_of_le li (Nat.min_le_left _ _)) (Nat.lt_of_lt_of_le li (Nat.min_le_right _ _)) fun u v h' tk hu hv r e mv => next _ u v h' tk ⟨hu, hv⟩ (.inl ⟨_, e, rfl, _, rfl⟩) r mv
    · intro s' Q' E' st stop
      exact run_end S (D1 _ hh) (D2 _ hh) st (Nat.min_le_left _ _) (Nat.min_le_right _ _) (by omega) stop
end DL

set_option Elab.async false
set_option linter.all false
set_option maxRecDepth 100000
set_option maxHeartbeats 1000000
namespace DL
open PySem PySem.Spec PyProof.Rows L2
/-! ## 40. dict(zip(x, y)), x a list, y a tuple -/
def rDictZip (K : PySem.W.Frag) (vs : List V) (H : Hp) (Q : VK) : Prop := ∃ (a b : Addr) (kks : List Key) (ys : List V), vs = [.ref a, .ref b] ∧ SqL K H a (kks.map kV) ∧ SqT K H b ys ∧ kks.length ≤ sizeLine ∧
  ∀ p, H p = none → Q (.ref p) (upd H p (.dK (mergeK [] (kks.zip ys))))
theorem kv_zip : ∀ {ks : List Key} {ys : List V} {us : List Value}, Vals ys us → KV (ks.zip ys) (ks.zip us)
  | [], _, _, _ => .nil
  | _ :: _, _, _, .nil => .nil
  | _ :: _, _, _, .cons a b => .cons ⟨rfl, a⟩ (kv_zip b)
theorem pe_dictzip {X : Cx} {e e2 : Expr} {ta : TA} {p q pos qpos : Pos} (hcalm : X.calm = true) (hgT : Gl X "dict") (hmT : X.mg "dict" = none) (hg : Gl X "zip") (hm : X.mg "zip" = none) (ha : PA X [e, e2] ta)
    (hs : starEach [e, e2] X.env = (false, eval e X.env) :: starEach [e2] X.env := by rfl) (hpl : (backTo pos (starEach [e2] X.env)).any (·.1) = false := by rfl)
    (hsT : starEach [(.Call (.Name "zip" q) [e, e2] [] pos)] X.env = [(false, eval (.Call (.Name "zip" q) [e, e2] [] pos) X.env)] := by rfl) :
    PE X (.Call (.Name "dict" p) [.Call (.Name "zip" q) [e, e2] [] pos] [] qpos) (tCB (rDictZip X.K) ta) := by
  refine ⟨fun pins s σ H Q I h => ?_⟩
  refine wpAny_Call_Name_kw (ld_blt I hgT hmT (by rfl) ?_ (by decide) (by decide))
  refine PyProof.Rows.callWith_type1 ?_ hsT rfl
  rw [hsT]
  refine Calls.spliced_cons (Call_ (ld_blt I hg hm PyProof.Rows.boot_zip (PyProof.Rows.callWith_type1 (thn (ha.run pos pins s σ H _ I h) fun us s1 ⟨vs, H1, I1, r1, q1⟩ => ?_) hs hpl)))
  obtain ⟨a, b, kks, ys, rfl, hqx, hqy, hz, q1⟩ := q1
  cases r1 with
  | cons r rr =>
    cases rr with
    | cons r' rr =>
      cases rr
      cases r
      cases r'
      obtain ⟨its, rv, p1, _⟩ := I1.list hqx
      obtain ⟨its2, rv2, p2, _⟩ := I1.tuple hqy
      obtain ⟨o2, ho2, _⟩ := id p2
      refine zip_begins2 (Kd.l.begins a its.toArray) (Kd.t.begins b its2.toArray) p1.isList p2 fun h' hz' hTI hTO h1 h2 hsz hk => Calls.spliced_nil ?_
      have I2 : Inv X pins σ H1 { s1 with heap := h' } := I1.kept (t' := s1.toks) hk
      have D := zip_sep2 (N := s1.heap.objs.size) (fp1 := [a]) (fp2 := [b]) (fun c hc => List.mem_singleton.mp hc ▸ p1.lt) (fun c hc => List.mem_singleton.mp hc ▸ Heap.lt_size ho2)
      have hle : ∀ c, s1.heap.objs.size ≤ c → FpOk X pins H1 c := fun c hc => I1.fpOk hc (I1.hok.fresh hc)
      have l1 := rv.length
      rw [List.length_map] at l1
      have hn : min its.toArray.size its2.toArray.size ≤ sizeLine := by
        rw [List.size_toArray]; exact Nat.le_trans (Nat.min_le_left _ _) (by omega)
      refine PySem.call_dict_pairs (s := { s1 with heap := h' }) (knd := mixKind X.prog X.w) (kvs := kks.zip its2) (pairArgK .l .t (P := X.prog) (w := X.w) D its.toArray its2.toArray) (I2.ok.hd hcalm)
        ⟨⟨hz', hTI, ⟨_, _, hTO⟩, Kd.l.wk0 h1, Kd.t.wk0 h2⟩, Kd.l.has_at (vs := its.toArray) p1.isList (hk a), Kd.t.has_at (vs := its2.toArray) p2 (hk b)⟩ ⟨?_, fun i key v hr => ?_⟩ hn fun h'' tk hd k => ?_
      · rw [List.length_zip, List.size_toArray, List.size_toArray, l1]
      · obtain ⟨e1, e2⟩ := hr
        rw [List.getElem?_toArray] at e1 e2
        have hi : i < kks.length := by rw [l1]; exact (List.getElem?_eq_some_iff.mp e1).1
        refine ⟨kks[i], List.getElem?_zip_eq_some.mpr ⟨List.getElem?_eq_getElem hi, e2⟩, ?_⟩
        obtain ⟨u, hu, ru⟩ := paired_get rv (i := i) (a := kV kks[i]) (by rw [List.getElem?_map, List.getElem?_eq_getElem hi]; rfl)
        rw [hu] at e1
        cases e1
        exact kV_is ru
      · have hm : (h'.objs.size == sysModules) = false := beq_eq_false_iff_ne.mpr (Nat.ne_of_gt I2.big)
        have rel := kv_zip (ks := kks) rv2
        have hlen : (mergeK [] (kks.zip ys)).length ≤ sizeLine := by
          refine Nat.le_trans (length_mergeK (kks.zip ys) []) ?_
          rw [List.length_nil, Nat.zero_add, List.length_zip]
          exact Nat.le_trans (Nat.min_le_left _ _) hz
        refine ⟨.ref h'.objs.size, _, I2.turnedNew (t' := tk) (ch := [s1.heap.objs.size + 4, s1.heap.objs.size + 3, s1.heap.objs.size, s1.heap.objs.size + 1]) (fun b' o' hb e => k b' o' hb e) (fun c hc => hle c ?_) (Nat.le_refl _) (show ObjOk X.prog X.w _ _ _ (.dK (mergeK [] (kks.zip ys))) from ⟨hlen, hm, merged [] (kks.zip its2), KV.merge rel .nil, hd⟩), rfl, q1 _ (I2.hok.fresh (Nat.le_refl _))⟩
        have e' : c = s1.heap.objs.size + 4 ∨ c = s1.heap.objs.size + 3 ∨ c = s1.heap.objs.size ∨ c = s1.heap.objs.size + 1 := by simpa using hc
        rcases e' with e | e | e | e <;> rw [e] <;> omega
def keysOf : List D → Option (List Key)
  | [] => some []
  | d :: ds => d.key.bind fun k => (keysOf ds).map (k :: ·)
def gDictZip : List D → Option D
  | [.lst xs, .tup ys] => (keysOf xs).map fun kks => .dct ((mergeD [] (kks.zip ys)).map (·.1)) ((mergeD [] (kks.zip ys)).map (·.2))
  | _ => none
section
variable {K : Fw} {W : Wd} {H : Hp}
theorem keysOf_v : ∀ {ds : List D} {vs : List V} {kks : List Key}, Rps K W H vs ds → keysOf ds = some kks → vs = kks.map kV
  | [], _, _, r, h => by cases r; cases h; rfl
  | d :: ds, _, _, r, h => by
    cases r with
    | cons a b =>
      unfold keysOf at h
      obtain ⟨k, e1, h⟩ := Option.bind_eq_some_iff.mp h
      obtain ⟨ks, e2, rfl⟩ := Option.map_eq_some_iff.mp h
      rw [List.map_cons, key_v a e1, keysOf_v b e2]
theorem rkv_zip : ∀ {kks : List Key} {vs : List V} {ds : List D}, Rps K W H vs ds → RKV K W H (kks.zip vs) (kks.zip ds)
  | [], _, _, _ => .nil
  | _ :: _, _, _, .nil => .nil
  | _ :: _, _, _, .cons a b => .cons ⟨rfl, a⟩ (rkv_zip b)
theorem dictzip_f : CallF K (rDictZip K) gDictZip := fun W H vs ds d Q wf r h k => by
  unfold gDictZip at h
  split at h
  · rename_i xs ys
    obtain ⟨kks, e1, rfl⟩ := Option.map_eq_some_iff.mp h
    obtain ⟨v, v', rfl, r1, r2⟩ := rqs2 r
    obtain ⟨a, ws, rfl, q, z, rs⟩ := rq_lstH r1
    obtain ⟨b, ws', rfl, q', z', rs'⟩ := rq_tup r2
    have ew := keysOf_v rs e1
    subst ew
    refine ⟨a, b, kks, ws', rfl, .of q, q'.sqt, by simpa using z, fun p hp => ?_⟩
    obtain ⟨m1, m2⟩ := rkv_rps (rkv_merge (rkv_zip (kks := kks) rs') .nil)
    rw [m1]
    exact k p _ hp (by rw [List.length_map, List.length_map]; have := m2.length; simpa using this.symm) m2
  · cases h
end
end DL

set_option Elab.async false
set_option linter.all false
set_option maxRecDepth 100000
set_option maxHeartbeats 1000000
namespace DL
open PySem
section
variable {prog : Program} {w : World} {A : Around} {E : Value → Shared → Prop} {s : Shared} {l : Addr} {xs : Array (Int × Tok)} {its : List Value} {ns : List Int}
theorem iter_intTup {Q : Value → Shared → Prop} (hl : s.heap.IsTuple l (intItems xs))
    (h : ∀ s₂ : Shared, s₂ = { s with heap := s.heap.push { cls := .type "tuple_iterator", data := .fields #[.ref l, .int 0 0] } } →
      (s₂.heap.IsTupleIter s.heap.objs.size l 0 ∧ s₂.heap.IsTuple l (intItems xs)) → (∀ b ∈ [s.heap.objs.size, l], b < s₂.heap.objs.size) → l ≠ s.heap.objs.size → Q (.ref s.heap.objs.size) s₂) :
    wpAny (model prog w) A (pyIter (.ref l)) Q E s := by
  have hlt : l < s.heap.objs.size := by obtain ⟨_, e, _⟩ := hl; exact Heap.lt_size e
  refine wpAny_pyIter_tuple hl (h _ rfl ⟨⟨_, Heap.get?_push_size _ rfl, rfl, rfl⟩, hl.push _⟩ (fun b hb => ?_) (Nat.ne_of_lt hlt))
  show b < (s.heap.push _).objs.size
  rw [Heap.size_push]
  have hb' : b = s.heap.objs.size ∨ b = l := by simpa using hb
  rcases hb' with e | e
  · rw [e]; exact Nat.lt_succ_self _
  · rw [e]; exact Nat.lt_succ_of_lt hlt
theorem old_keptT {h' : Heap} {o : Obj} (hk : ∀ b o', b ∉ [s.heap.objs.size] → (s.heap.push o).get? b = some o' → h'.get? b = some o') : ∀ b o', s.heap.get? b = some o' → h'.get? b = some o' :=
  fun b o' e => hk b o' (fun hm => absurd (Heap.lt_size e) (by rw [List.mem_singleton.mp hm]; exact Nat.lt_irrefl _)) (Heap.get?_push_of_some _ e)
theorem sumT_raw {Q : Value → Shared → Prop} (hh : A.handled = none) (hl : s.heap.IsTuple l its.toArray) (hi : PyProof.Rows.IntsAre its ns)
    (h : ∀ h' tk t', (∀ b o, s.heap.get? b = some o → h'.get? b = some o) → Q (.int ns.sum t') { s with heap := h', toks := tk }) : wpAny (model prog w) A (call (.builtin "sum") [.ref l]) Q E s := by
  obtain ⟨xs, e⟩ := hi.allInts.items
  have hn : numsOf (intItems xs).toList = ns := by rw [← e]; exact hi.numsOf
  rw [PySem.nums_intItems] at hn
  rw [e] at hl
  refine call_sum_walkG (iter_intTup hl fun s₂ e st hfp hlI => ?_)
  subst e
  refine ⟨_, _, _, _, _, _, numAt xs, rfl, Walks.tuple (A := A.in1) hh _ l hlI (intItems xs), st, hfp, (fun _ _ => intItems_at), fun h' tk t' hk => ?_⟩
  have q := h h' tk t' (old_keptT hk)
  have e2 : preSum (numAt xs) (intItems xs).size = ns.sum := by
    have : (intItems xs).size = xs.size := by simp [intItems]
    rw [this, PySem.preSum_eq, List.take_of_length_le (by simp), hn]
  rw [e2]
  exact q
theorem maxT_raw {Q : Value → Shared → Prop} (hh : A.handled = none) (hl : s.heap.IsTuple l its.toArray) (hi : PyProof.Rows.IntsAre its ns) (hne : 0 < ns.length)
    (h : ∀ h' tk M t', (∀ b o, s.heap.get? b = some o → h'.get? b = some o) → M ∈ ns → (∀ a, a ∈ ns → a ≤ M) → Q (.int M t') { s with heap := h', toks := tk }) : wpAny (model prog w) A (call (.builtin "max") [.ref l]) Q E s := by
  obtain ⟨xs, e⟩ := hi.allInts.items
  have hn : numsOf (intItems xs).toList = ns := by rw [← e]; exact hi.numsOf
  rw [PySem.nums_intItems] at hn
  subst hn
  rw [e] at hl
  have hsz : 0 < xs.size := by simpa using hne
  refine call_max_walk (iter_intTup hl fun s₂ e st hfp hlI => ?_)
  subst e
  refine ⟨_, _, _, _, _, _, _, rfl, Walks.tuple (A := A.in1) hh _ l hlI (intItems xs), st, hfp, by simpa [intItems] using hsz, CmpOf.ints_gt (numAt xs) (fun _ _ => intItems_at), fun v h' tk hP hk => ?_⟩
  have hP' : (intItems xs)[argBest (fun i j => decide (numAt xs i > numAt xs j)) (xs.size - 1)]? = some v := by simpa [intItems] using hP
  obtain ⟨t, rfl⟩ := intItems_at hP'
  obtain ⟨h1, h2⟩ := PySem.argBest_gt (numAt xs) (xs.size - 1)
  refine h h' tk _ t (old_keptT hk) ?_ fun a ha => ?_
  · rw [PySem.numAt_eq]; exact PySem.getD_mem (by rw [List.length_map, Array.length_toList]; omega)
  · obtain ⟨j, hj, rfl⟩ := PySem.mem_getD ha
    rw [List.length_map, Array.length_toList] at hj
    rw [← PySem.numAt_eq]; exact h2 j (by omega)
end
end DL
namespace DL
open PySem PySem.Spec PyProof.Rows L2
section
variable {X : Cx}
theorem callR_or {f : Value} {r r' : List V → Hp → VK → Prop} (h : CallR X f r) (h' : CallR X f r') : CallR X f (fun vs H Q => r vs H Q ∨ r' vs H Q) :=
  fun pins s σ H vs us Q I rv w => w.elim (fun w => h pins s σ H vs us Q I rv w) fun w => h' pins s σ H vs us Q I rv w
/-- sum, max of a tuple of ints -/
def rSumT (K : PySem.W.Frag) : List V → Hp → VK → Prop := fun vs H Q => ∃ (a : Addr) (ns : List Int), vs = [V.ref a] ∧ SqT K H a (ns.map V.int) ∧ Q (.int ns.sum) H
def rMaxT (K : PySem.W.Frag) : List V → Hp → VK → Prop := fun vs H Q => ∃ (a : Addr) (ns : List Int), vs = [V.ref a] ∧ SqT K H a (ns.map V.int) ∧ 0 < ns.length ∧ ∀ m, m ∈ ns → (∀ y, y ∈ ns → y ≤ m) → Q (.int m) H
theorem cr_sumT (hc : X.calm = true) : CallR X (.builtin "sum") (rSumT X.K) := by
  intro pins s σ H vs us Q I r h
  obtain ⟨a, ns, rfl, hs, q⟩ := h
  obtain ⟨its, rv, hl, _⟩ := I.tuple hs
  rw [Vals.ref1 r]
  exact sumT_raw (I.ok.hd hc) (show s.heap.IsTuple a its.toArray from hl) rv.ints fun h' tk t' hk => ⟨.int _, H, I.kept hk, ⟨_, rfl⟩, q⟩
theorem cr_maxT (hc : X.calm = true) : CallR X (.builtin "max") (rMaxT X.K) := by
  intro pins s σ H vs us Q I r h
  obtain ⟨a, ns, rfl, hs, hne, q⟩ := h
  obtain ⟨its, rv, hl, _⟩ := I.tuple hs
  rw [Vals.ref1 r]
  exact maxT_raw (I.ok.hd hc) (show s.heap.IsTuple a its.toArray from hl) rv.ints hne fun h' tk m t' hk h1 h2 => ⟨.int _, H, I.kept hk, ⟨_, rfl⟩, q m h1 h2⟩
theorem cr_sumA (hc : X.calm = true) : CallR X (.builtin "sum") (fun vs H Q => rSum X.K vs H Q ∨ rSumT X.K vs H Q) := callR_or (cr_sum hc) (cr_sumT hc)
def rMax2 : List V → Hp → VK → Prop := fun xs H Q => ∃ i j, xs = [.int i, .int j] ∧ Q (.int (if j > i then j else i)) H
theorem cr_maxA (hc : X.calm = true) : CallR X (.builtin "max") (fun vs H Q => (rMax2 vs H Q ∨ rMax X.K vs H Q) ∨ rMaxT X.K vs H Q) := callR_or (callR_or (call_max2 hc) (cr_max hc)) (cr_maxT hc)
end
def gSumA : List D → Option D
  | [.lst xs] => (intsOf xs).map fun ns => .int ns.sum
  | [.tup xs] => (intsOf xs).map fun ns => .int ns.sum
  | _ => none
def maxL : List Int → Option Int
  | [] => none
  | n :: ns => some (ns.foldl max n)
theorem maxL_spec : ∀ {ns : List Int} {m : Int}, maxL ns = some m → m ∈ ns ∧ ∀ y ∈ ns, y ≤ m := by
  have key : ∀ (ns : List Int) (n : Int), (ns.foldl max n = n ∨ ns.foldl max n ∈ ns) ∧ n ≤ ns.foldl max n ∧ ∀ y ∈ ns, y ≤ ns.foldl max n := by
    intro ns
    induction ns with
    | nil => intro n; exact ⟨.inl rfl, Int.le_refl _, fun _ h => nomatch h⟩
    | cons k ns ih =>
      intro n
      obtain ⟨h1, h2, h3⟩ := ih (max n k)
      rw [List.foldl_cons]
      refine ⟨?_, by omega, fun y hy => ?_⟩
      · rcases h1 with h1 | h1
        · rw [h1]
          rcases Int.le_total n k with z | z
          · exact .inr (by rw [Int.max_eq_right z]; exact .head _)
          · exact .inl (Int.max_eq_left z)
        · exact .inr (.tail _ h1)
      · cases hy with
        | head => omega
        | tail _ hy => exact h3 y hy
  intro ns m h
  cases ns with
  | nil => cases h
  | cons n ns =>
    cases h
    obtain ⟨h1, h2, h3⟩ := key ns n
    refine ⟨?_, fun y hy => ?_⟩
    · rcases h1 with h1 | h1
      · rw [h1]; exact .head _
      · exact .tail _ h1
    · cases hy with
      | head => exact h2
      | tail _ hy => exact h3 y hy
def gMaxA : List D → Option D
  | [.int i, .int j] => some (.int (if j > i then j else i))
  | [.lst xs] => (intsOf xs).bind fun ns => (maxL ns).map .int
  | [.tup xs] => (intsOf xs).bind fun ns => (maxL ns).map .int
  | _ => none
def D.isB : D → D → Option D
  | .bl a, .bl b => some (.bl (decide (a = b)))
  | _, _ => none
def D.notB : D → D → Option D
  | .bl a, .bl b => some (.bl (!decide (a = b)))
  | _, _ => none
section
variable {K : Fw} {W : Wd} {H : Hp}
theorem sumA_d : CallD K (fun vs H Q => rSum K vs H Q ∨ rSumT K vs H Q) gSumA := fun W H vs ds d Q wf r h k => by
  unfold gSumA at h
  split at h
  · obtain ⟨ns, e1, rfl⟩ := Option.map_eq_some_iff.mp h
    obtain ⟨v, rfl, r1⟩ := rqs1 r
    obtain ⟨a, ws, rfl, q, z, rs⟩ := rq_lstH r1
    exact .inl ⟨a, ns, rfl, by rw [← intsOf_rps e1 rs]; exact .of q, k _ H (.refl _) (.int _)⟩
  · obtain ⟨ns, e1, rfl⟩ := Option.map_eq_some_iff.mp h
    obtain ⟨v, rfl, r1⟩ := rqs1 r
    obtain ⟨a, ws, rfl, q, z, rs⟩ := rq_tup r1
    exact .inr ⟨a, ns, rfl, by rw [← intsOf_rps e1 rs]; exact q.sqt, k _ H (.refl _) (.int _)⟩
  · cases h
theorem maxA_d : CallD K (fun vs H Q => (rMax2 vs H Q ∨ rMax K vs H Q) ∨ rMaxT K vs H Q) gMaxA := fun W H vs ds d Q wf r h k => by
  have one : ∀ {ns : List Int} {m m' : Int}, maxL ns = some m → m' ∈ ns → (∀ y ∈ ns, y ≤ m') → m' = m := fun e h1 h2 => by
    obtain ⟨q1, q2⟩ := maxL_spec e
    exact Int.le_antisymm (q2 _ h1) (h2 _ q1)
  have pos : ∀ {ns : List Int} {m : Int}, maxL ns = some m → 0 < ns.length := fun e => by
    cases hn : (‹List Int› : List Int) with
    | nil => rename_i ns m; rw [hn] at e; cases e
    | cons a b => simp
  unfold gMaxA at h
  split at h
  · cases h
    obtain ⟨v, v', rfl, r1, r2⟩ := rqs2 r
    rw [rq_int r1, rq_int r2]
    exact .inl (.inl ⟨_, _, rfl, k _ H (.refl _) (.int _)⟩)
  · obtain ⟨ns, e1, h⟩ := Option.bind_eq_some_iff.mp h
    obtain ⟨m, e2, rfl⟩ := Option.map_eq_some_iff.mp h
    obtain ⟨v, rfl, r1⟩ := rqs1 r
    obtain ⟨a, ws, rfl, q, z, rs⟩ := rq_lstH r1
    exact .inl (.inr ⟨a, ns, rfl, by rw [← intsOf_rps e1 rs]; exact .of q, pos e2, fun m' h1 h2 => by rw [one e2 h1 h2]; exact k _ H (.refl _) (.int _)⟩)
  · obtain ⟨ns, e1, h⟩ := Option.bind_eq_some_iff.mp h
    obtain ⟨m, e2, rfl⟩ := Option.map_eq_some_iff.mp h
    obtain ⟨v, rfl, r1⟩ := rqs1 r
    obtain ⟨a, ws, rfl, q, z, rs⟩ := rq_tup r1
    exact .inr ⟨a, ns, rfl, by rw [← intsOf_rps e1 rs]; exact q.sqt, pos e2, fun m' h1 h2 => by rw [one e2 h1 h2]; exact k _ H (.refl _) (.int _)⟩
  · cases h
theorem isB_d : OpD K (fun x y H Q => ∃ a b, x = .bl a ∧ y = .bl b ∧ Q (.bl (decide (a = b))) H) D.isB := fun W H v1 v2 d1 d2 d Q wf r1 r2 h k => by
  unfold D.isB at h
  split at h
  · cases h
    exact ⟨_, _, rp_bl r1, rp_bl r2, k _ H (.refl _) (.bl _)⟩
  · cases h
theorem notB_d : OpD K (fun x y H Q => ∃ a b, x = .bl a ∧ y = .bl b ∧ Q (.bl (!decide (a = b))) H) D.notB := fun W H v1 v2 d1 d2 d Q wf r1 r2 h k => by
  unfold D.notB at h
  split at h
  · cases h
    exact ⟨_, _, rp_bl r1, rp_bl r2, k _ H (.refl _) (.bl _)⟩
  · cases h
end
end DL

set_option Elab.async false
set_option linter.all false
set_option maxRecDepth 100000
set_option maxHeartbeats 4000000
/-! printed by gen.py: the walk through every def -/
namespace W17
open PySem PySem.Spec PyProof.Rows L2 DL
def top (i : Nat) : Stmt := PySem.Challenge.pw_causeworth_k17_lots_and_what_would_have.main.body.getD i (.Pass ⟨0, 0, 0, 0⟩)
abbrev s_is_integer : Stmt := top 2
abbrev s_fraction : Stmt := top 4
abbrev s_rows_of : Stmt := top 10
abbrev s_fits : Stmt := top 11
abbrev s_place_of : Stmt := top 17
abbrev s__law_start : Stmt := top 34
abbrev s__law_fill : Stmt := top 35
abbrev s__law_alike : Stmt := top 38
abbrev s__law_divisor : Stmt := top 39
abbrev s__law_values : Stmt := top 48
abbrev s__law_place : Stmt := top 49
abbrev s__law_has : Stmt := top 53
abbrev s_plus : Stmt := top 5
abbrev s_times : Stmt := top 6
abbrev s_over : Stmt := top 7
abbrev s_is_fraction : Stmt := top 9
abbrev s_are_sizes : Stmt := top 15
abbrev s_is_rule : Stmt := top 16
abbrev s_values : Stmt := top 18
abbrev s__law_take : Stmt := top 36
abbrev s__law_fraction : Stmt := top 40
abbrev s__law_run : Stmt := top 51
abbrev s_total : Stmt := top 8
abbrev s_drawn : Stmt := top 25
abbrev s__law_plus : Stmt := top 41
abbrev s__law_times : Stmt := top 42
abbrev s__law_rule : Stmt := top 50
abbrev s__law_deed : Stmt := top 52
abbrev s_are_chances : Stmt := top 23
abbrev s_done_world : Stmt := top 26
abbrev s_twins : Stmt := top 28
abbrev s_both : Stmt := top 32
abbrev s__law_total : Stmt := top 45
abbrev s__law_lots : Stmt := top 54
abbrev s__law_drawn : Stmt := top 55
abbrev s_are_lots : Stmt := top 24
abbrev s_seen_world : Stmt := top 27
abbrev s_would : Stmt := top 29
abbrev s__law_world : Stmt := top 56
abbrev s__law_pairs : Stmt := top 57
abbrev s_necessity : Stmt := top 30
abbrev s_sufficiency : Stmt := top 31
abbrev s__law_would : Stmt := top 58
abbrev s__law_two : Stmt := top 59
abbrev s_law : Stmt := top 60
structure Top (K : PySem.W.Frag) (w : World) (P : Program) (mg : Str → Option Value) where
  D_is_integer : DefAt K mg "is_integer" "is_integer" s_is_integer ["value"]
  D_fraction : DefAt K mg "fraction" "fraction" s_fraction ["above", "below"]
  D_rows_of : DefAt K mg "rows_of" "rows_of" s_rows_of ["sizes"]
  D_fits : DefAt K mg "fits" "fits" s_fits ["row", "event"]
  D_place_of : DefAt K mg "place_of" "place_of" s_place_of ["sizes", "row"]
  D__law_start : DefAt K mg "_law_start" "_law_start" s__law_start ["script"]
  D__law_fill : DefAt K mg "_law_fill" "_law_fill" s__law_fill ["c"]
  D__law_alike : DefAt K mg "_law_alike" "_law_alike" s__law_alike ["value", "due"]
  D__law_divisor : DefAt K mg "_law_divisor" "_law_divisor" s__law_divisor ["a", "b"]
  D__law_values : DefAt K mg "_law_values" "_law_values" s__law_values ["sizes"]
  D__law_place : DefAt K mg "_law_place" "_law_place" s__law_place ["sizes", "row"]
  D__law_has : DefAt K mg "_law_has" "_law_has" s__law_has ["row", "event"]
  D_plus : DefAt K mg "plus" "plus" s_plus ["a", "b"]
  D_times : DefAt K mg "times" "times" s_times ["a", "b"]
  D_over : DefAt K mg "over" "over" s_over ["a", "b"]
  D_is_fraction : DefAt K mg "is_fraction" "is_fraction" s_is_fraction ["value"]
  D_are_sizes : DefAt K mg "are_sizes" "are_sizes" s_are_sizes ["value"]
  D_is_rule : DefAt K mg "is_rule" "is_rule" s_is_rule ["sizes", "v", "value"]
  D_values : DefAt K mg "values" "values" s_values ["functions", "deed"]
  D__law_take : DefAt K mg "_law_take" "_law_take" s__law_take ["c", "many"]
  D__law_fraction : DefAt K mg "_law_fraction" "_law_fraction" s__law_fraction ["n", "d"]
  D__law_run : DefAt K mg "_law_run" "_law_run" s__law_run ["functions", "deed"]
  D_total : DefAt K mg "total" "total" s_total ["fractions"]
  D_drawn : DefAt K mg "drawn" "drawn" s_drawn ["lots"]
  D__law_plus : DefAt K mg "_law_plus" "_law_plus" s__law_plus ["a", "b"]
  D__law_times : DefAt K mg "_law_times" "_law_times" s__law_times ["a", "b"]
  D__law_rule : DefAt K mg "_law_rule" "_law_rule" s__law_rule ["c", "sizes", "v"]
  D__law_deed : DefAt K mg "_law_deed" "_law_deed" s__law_deed ["c", "sizes", "most", "barred"]
  D_are_chances : DefAt K mg "are_chances" "are_chances" s_are_chances ["size", "value"]
  D_done_world : DefAt K mg "done_world" "done_world" s_done_world ["lots", "deed"]
  D_twins : DefAt K mg "twins" "twins" s_twins ["lots", "deed"]
  D_both : DefAt K mg "both" "both" s_both ["lots", "x", "y"]
  D__law_total : DefAt K mg "_law_total" "_law_total" s__law_total ["row"]
  D__law_lots : DefAt K mg "_law_lots" "_law_lots" s__law_lots ["c"]
  D__law_drawn : DefAt K mg "_law_drawn" "_law_drawn" s__law_drawn ["all_lots"]
  D_are_lots : DefAt K mg "are_lots" "are_lots" s_are_lots ["value"]
  D_seen_world : DefAt K mg "seen_world" "seen_world" s_seen_world ["lots"]
  D_would : DefAt K mg "would" "would" s_would ["lots", "seen", "deed", "event"]
  D__law_world : DefAt K mg "_law_world" "_law_world" s__law_world ["all_lots", "deed"]
  D__law_pairs : DefAt K mg "_law_pairs" "_law_pairs" s__law_pairs ["all_lots", "deed"]
  D_necessity : DefAt K mg "necessity" "necessity" s_necessity ["lots", "x", "y"]
  D_sufficiency : DefAt K mg "sufficiency" "sufficiency" s_sufficiency ["lots", "x", "y"]
  D__law_would : DefAt K mg "_law_would" "_law_would" s__law_would ["all_lots", "seen", "deed", "event"]
  D__law_two : DefAt K mg "_law_two" "_law_two" s__law_two ["all_lots", "x", "y"]
  D_law : DefAt K mg "law" "law" s_law ["script"]
  z_abs : mg "abs" = none
  z_all : mg "all" = none
  z_bool : mg "bool" = none
  z_dict : mg "dict" = none
  z_enumerate : mg "enumerate" = none
  z_int : mg "int" = none
  z_isinstance : mg "isinstance" = none
  z_len : mg "len" = none
  z_list : mg "list" = none
  z_max : mg "max" = none
  z_min : mg "min" = none
  z_range : mg "range" = none
  z_repr : mg "repr" = none
  z_sorted : mg "sorted" = none
  z_sum : mg "sum" = none
  z_tuple : mg "tuple" = none
  z_zip : mg "zip" = none
  c_MOST_ROWS : GlobAt K w P mg "MOST_ROWS" (.int 128)
  c_MOST_SIZE : GlobAt K w P mg "MOST_SIZE" (.int 3)
  c_MOST_VARIABLES : GlobAt K w P mg "MOST_VARIABLES" (.int 7)
  c_ONE : GlobAt K w P mg "ONE" (.tup [.int 1, .int 1])
  c_ZERO : GlobAt K w P mg "ZERO" (.tup [.int 0, .int 1])
  g_gcd : mg "gcd" = some (.builtin "math.gcd")
section
variable {P : Program} {w : World} {K : PySem.W.Frag} {mg : Str → Option Value} {base : Heap}
theorem sc_is_integer : FnScope ["value"] ["value"] (defScope s_is_integer) := ⟨rfl, rfl, rfl, by decide +kernel, rfl, by decide +kernel, by decide +kernel⟩
def b_is_integer : Stm :=
    (sRet (eAn (eCB gIsi (aCons (bVar 0) (aCons (eC (.ty "int")) aNil))) (eNo (eCB gIsi (aCons (bVar 0) (aCons (eC (.ty "bool")) aNil))))))
def F_is_integer : Fn := fnD 1 b_is_integer
theorem ok_is_integer (T : Top K w P mg) : FnG P w K mg base 1 T.D_is_integer.f T.D_is_integer.d ["value"] (spD ⟨K, w, P⟩ 1 F_is_integer) := fnG_ok T.D_is_integer.F sc_is_integer (by decide) fun cdv A outer s H E hG hr =>
    (ss_one (st_ret (e_and (e_cb (pe_callB call_isi (by rfl) T.z_isinstance bt_isinstance (aq_cons (b_var (pv 0)) (aq_cons (b_of (e_ty (by rfl) T.z_int bt_int)) aq_nil))) isi_d) (e_one (e_not (b_of (e_cb (pe_callB call_isi (by rfl) T.z_isinstance bt_isinstance (aq_cons (b_var (pv 0)) (aq_cons (b_of (e_ty (by rfl) T.z_bool bt_bool)) aq_nil))) isi_d)))))))
theorem sc_fraction : FnScope ["above", "below", "g"] ["above", "below"] (defScope s_fraction) := ⟨rfl, rfl, rfl, by decide +kernel, rfl, by decide +kernel, by decide +kernel⟩
def b_fraction : Stm :=
    (sSeq (sAsg (eCB gGcd (aCons (bVar 0) (aCons (bVar 1) aNil))) (gNm 2))
    (sRet (eTup (aCons (eBin D.fdiv (bVar 0) (bVar 2)) (aCons (eBin D.fdiv (bVar 1) (bVar 2)) aNil)))))
def F_fraction : Fn := fnD 3 b_fraction
theorem ok_fraction (T : Top K w P mg) : FnG P w K mg base 1 T.D_fraction.f T.D_fraction.d ["above", "below"] (spD ⟨K, w, P⟩ 2 F_fraction) := fnG_ok T.D_fraction.F sc_fraction (by decide) fun cdv A outer s H E hG hr =>
    (ss_cons (st_set (ps_set (i := 2) sc_fraction.nd rfl (by first | exact Or.inl rfl | exact Or.inr rfl) (e_cb (pe_callBfun cr_gcd (by rfl) T.g_gcd (aq_cons (b_var (pv 0)) (aq_cons (b_var (pv 1)) aq_nil))) gcd_d)))
    (ss_one (st_ret (e_tup (a_cons (e_bin op_fdivW fdiv_d (b_var (pv 0)) (b_var (pv 2))) (a_cons (e_bin op_fdivW fdiv_d (b_var (pv 1)) (b_var (pv 2))) a_nil))))))
theorem sc_rows_of : FnScope ["sizes", "found", "size", "row", "x"] ["sizes"] (defScope s_rows_of) := ⟨rfl, rfl, rfl, by decide +kernel, rfl, by decide +kernel, by decide +kernel⟩
def b_rows_of : Stm :=
    (sSeq (sAsg (eLst (aCons (eTup aNil) aNil)) (gNm 1))
    (sSeq (sFor (iSeq (eVar 0)) (gNm 2)
    (sAsg (eLc2 (iSeq (bVar 1)) (gNm 3) tYs (iRng (aCons (bVar 2) aNil)) (gNm 4) tYs (eBin D.add (bVar 3) (eTup (aCons (eVar 4) aNil))) [3, 4] [4]) (gNm 1)))
    (sRet (eCB gTuple (aCons (bVar 1) aNil)))))
def F_rows_of : Fn := fnD 5 b_rows_of
theorem ok_rows_of (T : Top K w P mg) : FnG P w K mg base 1 T.D_rows_of.f T.D_rows_of.d ["sizes"] (spD ⟨K, w, P⟩ 1 F_rows_of) := fnG_ok T.D_rows_of.F sc_rows_of (by decide) fun cdv A outer s H E hG hr =>
    (ss_cons (st_set (ps_set (i := 1) sc_rows_of.nd rfl (by first | exact Or.inl rfl | exact Or.inr rfl) (e_of (n_lst (a_cons (e_tup a_nil) a_nil)))))
    (ss_cons (st_for (vs := [2]) PassesOwn.never rfl (it_seq (e_var (pv 0))) (g_name (pg_name sc_rows_of.nd rfl (by first | exact Or.inl rfl | exact Or.inr rfl)) (by decide))
    (ss_one (st_set (asg_imp (ps_setLc2 (i := 1) (own := [("row", 3), ("x", 4)]) (vs1 := [4]) rfl sc_rows_of.nd rfl rfl (by rfl) (ib_seq (b_var (pv 1))) (blkOk_by (by kernel_rfl)) (by decide) (fun _ _ _ _ _ => (g_name (pg_name sc_rows_of.nd rfl (by first | exact Or.inl rfl | exact Or.inr rfl)) (by decide))) (fun _ _ _ _ _ => ts_nil) (fun _ _ _ _ _ => (it_range1 (pi_range1 (by rfl) T.z_range (aq_cons (b_var (pv 2)) aq_nil)) (alS al0))) (fun _ _ _ _ _ => (g_name (pg_name sc_rows_of.nd rfl (by first | exact Or.inl rfl | exact Or.inr rfl)) (by decide))) (fun _ _ _ _ _ => ts_nil) (fun _ _ _ _ _ => (e_bin op_addD add_d (b_var (pv 3)) (b_of (e_tup (a_cons (e_var (pv 4)) a_nil)))))) fun _ _ _ h => lc2_f (tF_D h)))))
    (ss_one (st_ret (e_cb (pe_callTy call_tupleZ (by rfl) T.z_tuple bt_tuple (aq_cons (b_var (pv 1)) aq_nil)) tuple_d)))))
theorem sc_fits : FnScope ["row", "event", "v", "x"] ["row", "event"] (defScope s_fits) := ⟨rfl, rfl, rfl, by decide +kernel, rfl, by decide +kernel, by decide +kernel⟩
def b_fits : Stm :=
    (sRet (eCB gAll (aCons (eLc (iSeq (bVar 1)) (gTp 2 (gsCons (gNm 2) (gsCons (gNm 3) gsNil))) tYs (eBin D.eq (eBin D.ix (bVar 0) (bVar 2)) (bVar 3)) [2, 3]) aNil)))
def F_fits : Fn := fnD 4 b_fits
theorem ok_fits (T : Top K w P mg) : FnG P w K mg base 1 T.D_fits.f T.D_fits.d ["row", "event"] (spD ⟨K, w, P⟩ 2 F_fits) := fnG_ok T.D_fits.F sc_fits (by decide) fun cdv A outer s H E hG hr =>
    (ss_one (st_ret (e_cb (pe_callB (cr_all (by rfl)) (by rfl) T.z_all bt_all (aq_cons (b_of (e_of (n_lc (own := [("v", 2), ("x", 3)]) rfl sc_fits.nd (ib_seq (b_var (pv 1))) (blkOk_by (by kernel_rfl)) (fun _ _ _ _ _ => (g_tup rfl (gs_cons (g_name (pg_name sc_fits.nd rfl (by first | exact Or.inl rfl | exact Or.inr rfl)) (by decide)) (gs_cons (g_name (pg_name sc_fits.nd rfl (by first | exact Or.inl rfl | exact Or.inr rfl)) (by decide)) gs_nil)))) (fun _ _ _ _ _ => ts_nil) (fun _ _ _ _ _ => (e_cmp (op_eqP hr.units) eq_d (b_of (e_ix (b_var (pv 0)) (b_var (pv 2)))) (b_var (pv 3))))))) aq_nil)) all_d)))
theorem sc_place_of : FnScope ["sizes", "row", "found", "size", "x"] ["sizes", "row"] (defScope s_place_of) := ⟨rfl, rfl, rfl, by decide +kernel, rfl, by decide +kernel, by decide +kernel⟩
def b_place_of : Stm :=
    (sSeq (sAsg (eC (.int 0)) (gNm 2))
    (sSeq (sFor (iZp (aCons (eVar 0) (aCons (eVar 1) aNil))) (gTp 2 (gsCons (gNm 3) (gsCons (gNm 4) gsNil)))
    (sAsg (eBin D.add (eBin D.mul (bVar 2) (bVar 3)) (bVar 4)) (gNm 2)))
    (sRet (eVar 2))))
def F_place_of : Fn := fnD 5 b_place_of
theorem ok_place_of (T : Top K w P mg) : FnG P w K mg base 1 T.D_place_of.f T.D_place_of.d ["sizes", "row"] (spD ⟨K, w, P⟩ 2 F_place_of) := fnG_ok T.D_place_of.F sc_place_of (by decide) fun cdv A outer s H E hG hr =>
    (ss_cons (st_set (ps_set (i := 2) sc_place_of.nd rfl (by first | exact Or.inl rfl | exact Or.inr rfl) e_int))
    (ss_cons (st_for (vs := [3, 4]) PassesOwn.never rfl (it_zip (pi_zipZ (by rfl) T.z_zip (a_cons (e_var (pv 0)) (a_cons (e_var (pv 1)) a_nil)))) (g_tup rfl (gs_cons (g_name (pg_name sc_place_of.nd rfl (by first | exact Or.inl rfl | exact Or.inr rfl)) (by decide)) (gs_cons (g_name (pg_name sc_place_of.nd rfl (by first | exact Or.inl rfl | exact Or.inr rfl)) (by decide)) gs_nil)))
    (ss_one (st_set (ps_set (i := 2) sc_place_of.nd rfl (by first | exact Or.inl rfl | exact Or.inr rfl) (e_bin op_addD add_d (b_of (e_bin op_mulW mul_d (b_var (pv 2)) (b_var (pv 3)))) (b_var (pv 4)))))))
    (ss_one (st_ret (e_var (pv 2))))))
theorem sc__law_start : FnScope ["script", "cell"] ["script"] (defScope s__law_start) := ⟨rfl, rfl, rfl, by decide +kernel, rfl, by decide +kernel, by decide +kernel⟩
def b__law_start : Ex :=
    (eLst (aCons (eLc (iSeq (eSl D.slice (bVar 0) pNo (pIs (eC (.int 63))))) (gNm 1) tYs (eCB gInt (aCons (bVar 1) aNil)) [1]) (aCons (eC (.int 0)) (aCons (eC (.int 0)) (aCons (eC (.int 0)) (aCons (eC (.int 20)) aNil))))))
def F__law_start : Fn := fnE 2 b__law_start
theorem ok__law_start (T : Top K w P mg) : FnG P w K mg base 1 T.D__law_start.f T.D__law_start.d ["script"] (spN ⟨K, w, P⟩ 1 F__law_start) := fnGN_ok T.D__law_start.F sc__law_start (by decide) fun cdv A outer s H E hG hr =>
    ret_n (n_lst (a_cons (e_of (n_lc (own := [("cell", 1)]) rfl sc__law_start.nd (ib_seq (b_of (e_sl sl_slice slice_d (b_var (pv 0)) p_no (p_is (b_of e_int))))) (blkOk_by (by kernel_rfl)) (fun _ _ _ _ _ => (g_name (pg_name sc__law_start.nd rfl (by first | exact Or.inl rfl | exact Or.inr rfl)) (by decide))) (fun _ _ _ _ _ => ts_nil) (fun _ _ _ _ _ => (e_cb (pe_callTy call_int1 (by rfl) T.z_int bt_int (aq_cons (b_var (pv 1)) aq_nil)) int_c)))) (a_cons e_int (a_cons e_int (a_cons e_int (a_cons e_int a_nil))))))
theorem sc__law_fill : FnScope ["c", "number"] ["c"] (defScope s__law_fill) := ⟨rfl, rfl, rfl, by decide +kernel, rfl, by decide +kernel, by decide +kernel⟩
def b__law_fill : Stm :=
    (sSeq (sSetR (eVar 0) (eBin D.add (eIxR (eVar 0) (eC (.int 3))) (eC (.int 1))) (eC (.int 3)))
    (sSeq (sAsg (eBin D.add (eBin D.mul (eIxR (eVar 0) (eC (.int 3))) (eC (.int 69621))) (eC (.int 12345))) (gNm 1))
    (sSeq (sIf (tBl (eBin D.lt (eIxR (eVar 0) (eC (.int 1))) (eCB gLen (aCons (eIxR (eVar 0) (eC (.int 0))) aNil)))) (sSeq (sAsg (eBin D.ix (eIxR (eVar 0) (eC (.int 0))) (eIxR (eVar 0) (eC (.int 1)))) (gNm 1))
    (sSeq (sSetR (eVar 0) (eBin D.add (eIxR (eVar 0) (eC (.int 1))) (eC (.int 1))) (eC (.int 1)))
    (sSeq (sIf (tBl (eBin D.lt (bVar 1) (eC (.int 0)))) (sAsg (eBin D.sub (eBin D.sub (eC (.int 0)) (eC (.int 1))) (bVar 1)) (gNm 1)) sNx)
    (sIf (tBl (eBin D.ge (bVar 1) (eBin D.pow (eC (.int 10)) (eC (.int 18))))) (sRet (eVar 1)) sNx)))) sNx)
    (sSeq (sIf (tAn (tTru (eIxR (eVar 0) (eC (.int 0)))) (tBl (eBin D.ge (eIxR (eVar 0) (eC (.int 1))) (eCB gLen (aCons (eIxR (eVar 0) (eC (.int 0))) aNil))))) (sAsg (eBin D.add (bVar 1) (eBin D.mod (eCB gInt (aCons (eBin D.ix (eIxR (eVar 0) (eC (.int 0))) (eUn D.neg (eC (.int 1)))) aNil)) (eC (.int 1000003)))) (gNm 1)) sNx)
    (sSeq (sAsg (eBin D.mod (eCB gInt (aCons (eBin D.add (eBin D.mul (bVar 1) (eC (.int 48271))) (eBin D.mul (eIxR (eVar 0) (eC (.int 3))) (eC (.int 69621)))) aNil)) (eC (.int 2147483647))) (gNm 1))
    (sRet (eBin D.add (eBin D.fdiv (eCB gInt (aCons (eBin D.add (eBin D.add (eBin D.mul (bVar 1) (bVar 1)) (eBin D.mul (eIxR (eVar 0) (eC (.int 3))) (eC (.int 7919)))) (eC (.int 11))) aNil)) (eC (.int 64))) (eC (.int 36028797018963968)))))))))
def F__law_fill : Fn := fnD 2 b__law_fill
theorem ok__law_fill (T : Top K w P mg) : FnG P w K mg base 1 T.D__law_fill.f T.D__law_fill.d ["c"] (spD ⟨K, w, P⟩ 1 F__law_fill) := fnG_ok T.D__law_fill.F sc__law_fill (by decide) fun cdv A outer s H E hG hr =>
    (ss_cons (st_setR (ps_asg (e_bin op_addD add_d (b_of (e_ixR (e_var (pv 0)) (b_of e_int))) (b_of e_int)) (pg_sub (e_var (pv 0)) (b_of e_int) set_list)))
    (ss_cons (st_set (ps_set (i := 1) sc__law_fill.nd rfl (by first | exact Or.inl rfl | exact Or.inr rfl) (e_bin op_addD add_d (b_of (e_bin op_mulW mul_d (b_of (e_ixR (e_var (pv 0)) (b_of e_int))) (b_of e_int))) (b_of e_int))))
    (ss_cons (st_if (t_cmp op_lt lt_d (b_of (e_ixR (e_var (pv 0)) (b_of e_int))) (b_of (e_cb (pe_callB call_len (by rfl) T.z_len bt_len (aq_cons (b_of (e_ixR (e_var (pv 0)) (b_of e_int))) aq_nil)) len_d))) (ss_cons (st_set (ps_set (i := 1) sc__law_fill.nd rfl (by first | exact Or.inl rfl | exact Or.inr rfl) (e_ix (b_of (e_ixR (e_var (pv 0)) (b_of e_int))) (b_of (e_ixR (e_var (pv 0)) (b_of e_int))))))
    (ss_cons (st_setR (ps_asg (e_bin op_addD add_d (b_of (e_ixR (e_var (pv 0)) (b_of e_int))) (b_of e_int)) (pg_sub (e_var (pv 0)) (b_of e_int) set_list)))
    (ss_cons (st_if (t_cmp op_lt lt_d (b_var (pv 1)) (b_of e_int)) (ss_one (st_set (ps_set (i := 1) sc__law_fill.nd rfl (by first | exact Or.inl rfl | exact Or.inr rfl) (e_bin op_sub sub_d (b_of (e_bin op_sub sub_d (b_of e_int) (b_of e_int))) (b_var (pv 1)))))) ss_nil)
    (ss_one (st_if (t_cmp op_ge ge_d (b_var (pv 1)) (b_of (e_bin op_pow pow_d (b_of e_int) (b_of e_int)))) (ss_one (st_ret (e_var (pv 1)))) ss_nil))))) ss_nil)
    (ss_cons (st_if (PW.pt (tw_and (t_tru (b_of (e_ixR (e_var (pv 0)) (b_of e_int)))) (tw_and1 (t_cmp op_ge ge_d (b_of (e_ixR (e_var (pv 0)) (b_of e_int))) (b_of (e_cb (pe_callB call_len (by rfl) T.z_len bt_len (aq_cons (b_of (e_ixR (e_var (pv 0)) (b_of e_int))) aq_nil)) len_d)))))) (ss_one (st_set (ps_set (i := 1) sc__law_fill.nd rfl (by first | exact Or.inl rfl | exact Or.inr rfl) (e_bin op_addD add_d (b_var (pv 1)) (b_of (e_bin op_modN mod_d (b_of (e_cb (pe_callTy call_int1 (by rfl) T.z_int bt_int (aq_cons (b_of (e_ix (b_of (e_ixR (e_var (pv 0)) (b_of e_int))) (b_of (e_neg (b_of e_int))))) aq_nil)) int_c)) (b_of e_int))))))) ss_nil)
    (ss_cons (st_set (ps_set (i := 1) sc__law_fill.nd rfl (by first | exact Or.inl rfl | exact Or.inr rfl) (e_bin op_modN mod_d (b_of (e_cb (pe_callTy call_int1 (by rfl) T.z_int bt_int (aq_cons (b_of (e_bin op_addD add_d (b_of (e_bin op_mulW mul_d (b_var (pv 1)) (b_of e_int))) (b_of (e_bin op_mulW mul_d (b_of (e_ixR (e_var (pv 0)) (b_of e_int))) (b_of e_int))))) aq_nil)) int_c)) (b_of e_int))))
    (ss_one (st_ret (e_bin op_addD add_d (b_of (e_bin op_fdivW fdiv_d (b_of (e_cb (pe_callTy call_int1 (by rfl) T.z_int bt_int (aq_cons (b_of (e_bin op_addD add_d (b_of (e_bin op_addD add_d (b_of (e_bin op_mulW mul_d (b_var (pv 1)) (b_var (pv 1)))) (b_of (e_bin op_mulW mul_d (b_of (e_ixR (e_var (pv 0)) (b_of e_int))) (b_of e_int))))) (b_of e_int))) aq_nil)) int_c)) (b_of e_int))) (b_of e_int)))))))))
theorem sc__law_alike : FnScope ["value", "due"] ["value", "due"] (defScope s__law_alike) := ⟨rfl, rfl, rfl, by decide +kernel, rfl, by decide +kernel, by decide +kernel⟩
def b__law_alike : Stm :=
    (sRet (eBin D.eq (eCB gRepr (aCons (bVar 0) aNil)) (eCB gRepr (aCons (bVar 1) aNil))))
def F__law_alike : Fn := fnD 2 b__law_alike
theorem ok__law_alike (T : Top K w P mg) : FnG P w K mg base 1 T.D__law_alike.f T.D__law_alike.d ["value", "due"] (spD ⟨K, w, P⟩ 2 F__law_alike) := fnG_ok T.D__law_alike.F sc__law_alike (by decide) fun cdv A outer s H E hG hr =>
    (ss_one (st_ret (e_cmp (op_eqP hr.units) eq_d (b_of (e_cb (pe_callB (call_repr hG hr.units) (by rfl) T.z_repr bt_repr (aq_cons (b_var (pv 0)) aq_nil)) repr_d)) (b_of (e_cb (pe_callB (call_repr hG hr.units) (by rfl) T.z_repr bt_repr (aq_cons (b_var (pv 1)) aq_nil)) repr_d)))))
theorem sc__law_divisor : FnScope ["a", "b", "turn"] ["a", "b"] (defScope s__law_divisor) := ⟨rfl, rfl, rfl, by decide +kernel, rfl, by decide +kernel, by decide +kernel⟩
def b__law_divisor : Stm :=
    (sSeq (sFor (iRng (aCons (eC (.int 20000)) aNil)) (gNm 2)
    (sSeq (sIf (tBl (eBin D.eq (bVar 1) (eC (.int 0)))) (sRet (eCB gAbs (aCons (bVar 0) aNil))) sNx)
    (sPar 0 1 (aCons (eVar 1) (aCons (eBin D.mod (bVar 0) (bVar 1)) aNil)))))
    (sRet (eC (.int 1))))
def F__law_divisor : Fn := fnD 3 b__law_divisor
theorem ok__law_divisor (T : Top K w P mg) : FnG P w K mg base 1 T.D__law_divisor.f T.D__law_divisor.d ["a", "b"] (spD ⟨K, w, P⟩ 2 F__law_divisor) := fnG_ok T.D__law_divisor.F sc__law_divisor (by decide) fun cdv A outer s H E hG hr =>
    (ss_cons (st_for (vs := [2]) PassesOwn.never rfl (it_range1 (pi_range1 (by rfl) T.z_range (aq_cons (b_of e_int) aq_nil)) (alS al0)) (g_name (pg_name sc__law_divisor.nd rfl (by first | exact Or.inl rfl | exact Or.inr rfl)) (by decide))
    (ss_cons (st_if (t_cmp (op_eqP hr.units) eq_d (b_var (pv 1)) (b_of e_int)) (ss_one (st_ret (e_cb (pe_callB call_abs (by rfl) T.z_abs bt_abs (aq_cons (b_var (pv 0)) aq_nil)) abs_d))) ss_nil)
    (ss_one (st_par (ps_par (i := 0) (j := 1) rfl sc__law_divisor.nd rfl rfl (by decide) rfl rfl (a_cons (e_var (pv 1)) (a_cons (e_bin op_modN mod_d (b_var (pv 0)) (b_var (pv 1))) a_nil)) (by rfl))))))
    (ss_one (st_ret e_int)))
theorem sc__law_values : FnScope ["sizes", "found", "size", "more", "row", "x"] ["sizes"] (defScope s__law_values) := ⟨rfl, rfl, rfl, by decide +kernel, rfl, by decide +kernel, by decide +kernel⟩
def b__law_values : Stm :=
    (sSeq (sAsg (eLst (aCons (eTup aNil) aNil)) (gNm 1))
    (sSeq (sFor (iSeq (eVar 0)) (gNm 2)
    (sSeq (sAsg (eLst aNil) (gNm 3))
    (sSeq (sFor (iSeq (eVar 1)) (gNm 4)
    (sAsg (eBin D.add (bVar 3) (eLc (iRng (aCons (bVar 2) aNil)) (gNm 5) tYs (eBin D.add (bVar 4) (eTup (aCons (eVar 5) aNil))) [5])) (gNm 3)))
    (sAsg (eVar 3) (gNm 1)))))
    (sRet (eVar 1))))
def F__law_values : Fn := fnD 6 b__law_values
theorem ok__law_values (T : Top K w P mg) : FnG P w K mg base 1 T.D__law_values.f T.D__law_values.d ["sizes"] (spD ⟨K, w, P⟩ 1 F__law_values) := fnG_ok T.D__law_values.F sc__law_values (by decide) fun cdv A outer s H E hG hr =>
    (ss_cons (st_set (ps_set (i := 1) sc__law_values.nd rfl (by first | exact Or.inl rfl | exact Or.inr rfl) (e_of (n_lst (a_cons (e_tup a_nil) a_nil)))))
    (ss_cons (st_for (vs := [2]) PassesOwn.never rfl (it_seq (e_var (pv 0))) (g_name (pg_name sc__law_values.nd rfl (by first | exact Or.inl rfl | exact Or.inr rfl)) (by decide))
    (ss_cons (st_set (ps_set (i := 3) sc__law_values.nd rfl (by first | exact Or.inl rfl | exact Or.inr rfl) (e_of (n_lst a_nil))))
    (ss_cons (st_for (vs := [4]) PassesOwn.never rfl (it_seq (e_var (pv 1))) (g_name (pg_name sc__law_values.nd rfl (by first | exact Or.inl rfl | exact Or.inr rfl)) (by decide))
    (ss_one (st_set (ps_set (i := 3) sc__law_values.nd rfl (by first | exact Or.inl rfl | exact Or.inr rfl) (e_bin op_addD add_d (b_var (pv 3)) (b_of (e_of (n_lc (own := [("x", 5)]) rfl sc__law_values.nd (it_range1 (pi_range1 (by rfl) T.z_range (aq_cons (b_var (pv 2)) aq_nil)) (alS al0)) (blkOk_by (by kernel_rfl)) (fun _ _ _ _ _ => (g_name (pg_name sc__law_values.nd rfl (by first | exact Or.inl rfl | exact Or.inr rfl)) (by decide))) (fun _ _ _ _ _ => ts_nil) (fun _ _ _ _ _ => (e_bin op_addD add_d (b_var (pv 4)) (b_of (e_tup (a_cons (e_var (pv 5)) a_nil)))))))))))))
    (ss_one (st_set (ps_set (i := 1) sc__law_values.nd rfl (by first | exact Or.inl rfl | exact Or.inr rfl) (e_var (pv 3))))))))
    (ss_one (st_ret (e_var (pv 1))))))
theorem sc__law_place : FnScope ["sizes", "row", "place", "k"] ["sizes", "row"] (defScope s__law_place) := ⟨rfl, rfl, rfl, by decide +kernel, rfl, by decide +kernel, by decide +kernel⟩
def b__law_place : Stm :=
    (sSeq (sAsg (eC (.int 0)) (gNm 2))
    (sSeq (sFor (iRng (aCons (eCB gLen (aCons (bVar 1) aNil)) aNil)) (gNm 3)
    (sAsg (eBin D.add (eBin D.mul (bVar 2) (eBin D.ix (bVar 0) (bVar 3))) (eBin D.ix (bVar 1) (bVar 3))) (gNm 2)))
    (sRet (eVar 2))))
def F__law_place : Fn := fnD 4 b__law_place
theorem ok__law_place (T : Top K w P mg) : FnG P w K mg base 1 T.D__law_place.f T.D__law_place.d ["sizes", "row"] (spD ⟨K, w, P⟩ 2 F__law_place) := fnG_ok T.D__law_place.F sc__law_place (by decide) fun cdv A outer s H E hG hr =>
    (ss_cons (st_set (ps_set (i := 2) sc__law_place.nd rfl (by first | exact Or.inl rfl | exact Or.inr rfl) e_int))
    (ss_cons (st_for (vs := [3]) PassesOwn.never rfl (it_range1 (pi_range1 (by rfl) T.z_range (aq_cons (b_of (e_cb (pe_callB call_len (by rfl) T.z_len bt_len (aq_cons (b_var (pv 1)) aq_nil)) len_d)) aq_nil)) (alS al0)) (g_name (pg_name sc__law_place.nd rfl (by first | exact Or.inl rfl | exact Or.inr rfl)) (by decide))
    (ss_one (st_set (ps_set (i := 2) sc__law_place.nd rfl (by first | exact Or.inl rfl | exact Or.inr rfl) (e_bin op_addD add_d (b_of (e_bin op_mulW mul_d (b_var (pv 2)) (b_of (e_ix (b_var (pv 0)) (b_var (pv 3)))))) (b_of (e_ix (b_var (pv 1)) (b_var (pv 3)))))))))
    (ss_one (st_ret (e_var (pv 2))))))
theorem sc__law_has : FnScope ["row", "event", "v", "x"] ["row", "event"] (defScope s__law_has) := ⟨rfl, rfl, rfl, by decide +kernel, rfl, by decide +kernel, by decide +kernel⟩
def b__law_has : Stm :=
    (sRet (eCB gAll (aCons (eLc (iSeq (bVar 1)) (gTp 2 (gsCons (gNm 2) (gsCons (gNm 3) gsNil))) tYs (eBin D.eq (eBin D.ix (bVar 0) (bVar 2)) (bVar 3)) [2, 3]) aNil)))
def F__law_has : Fn := fnD 4 b__law_has
theorem ok__law_has (T : Top K w P mg) : FnG P w K mg base 1 T.D__law_has.f T.D__law_has.d ["row", "event"] (spD ⟨K, w, P⟩ 2 F__law_has) := fnG_ok T.D__law_has.F sc__law_has (by decide) fun cdv A outer s H E hG hr =>
    (ss_one (st_ret (e_cb (pe_callB (cr_all (by rfl)) (by rfl) T.z_all bt_all (aq_cons (b_of (e_of (n_lc (own := [("v", 2), ("x", 3)]) rfl sc__law_has.nd (ib_seq (b_var (pv 1))) (blkOk_by (by kernel_rfl)) (fun _ _ _ _ _ => (g_tup rfl (gs_cons (g_name (pg_name sc__law_has.nd rfl (by first | exact Or.inl rfl | exact Or.inr rfl)) (by decide)) (gs_cons (g_name (pg_name sc__law_has.nd rfl (by first | exact Or.inl rfl | exact Or.inr rfl)) (by decide)) gs_nil)))) (fun _ _ _ _ _ => ts_nil) (fun _ _ _ _ _ => (e_cmp (op_eqP hr.units) eq_d (b_of (e_ix (b_var (pv 0)) (b_var (pv 2)))) (b_var (pv 3))))))) aq_nil)) all_d)))
theorem sc_plus : FnScope ["a", "b"] ["a", "b"] (defScope s_plus) := ⟨rfl, rfl, rfl, by decide +kernel, rfl, by decide +kernel, by decide +kernel⟩
def b_plus : Stm :=
    (sRet (eCall F_fraction (aCons (eBin D.add (eBin D.mul (eBin D.ix (bVar 0) (eC (.int 0))) (eBin D.ix (bVar 1) (eC (.int 1)))) (eBin D.mul (eBin D.ix (bVar 1) (eC (.int 0))) (eBin D.ix (bVar 0) (eC (.int 1))))) (aCons (eBin D.mul (eBin D.ix (bVar 0) (eC (.int 1))) (eBin D.ix (bVar 1) (eC (.int 1)))) aNil))))
def F_plus : Fn := fnD 2 b_plus
theorem ok_plus (T : Top K w P mg) : FnG P w K mg base 2 T.D_plus.f T.D_plus.d ["a", "b"] (spD ⟨K, w, P⟩ 2 F_plus) := fnG_ok T.D_plus.F sc_plus (by decide) fun cdv A outer s H E hG hr =>
    (ss_one (st_ret (e_call (pe_callG hG (ok_fraction T) (hr.mono (by decide)) (by rfl) T.D_fraction.m T.D_fraction.k T.D_fraction.b (a_cons (e_bin op_addD add_d (b_of (e_bin op_mulW mul_d (b_of (e_ix (b_var (pv 0)) (b_of e_int))) (b_of (e_ix (b_var (pv 1)) (b_of e_int))))) (b_of (e_bin op_mulW mul_d (b_of (e_ix (b_var (pv 1)) (b_of e_int))) (b_of (e_ix (b_var (pv 0)) (b_of e_int)))))) (a_cons (e_bin op_mulW mul_d (b_of (e_ix (b_var (pv 0)) (b_of e_int))) (b_of (e_ix (b_var (pv 1)) (b_of e_int)))) a_nil))) (alS (alS al0)))))
theorem sc_times : FnScope ["a", "b"] ["a", "b"] (defScope s_times) := ⟨rfl, rfl, rfl, by decide +kernel, rfl, by decide +kernel, by decide +kernel⟩
def b_times : Stm :=
    (sRet (eCall F_fraction (aCons (eBin D.mul (eBin D.ix (bVar 0) (eC (.int 0))) (eBin D.ix (bVar 1) (eC (.int 0)))) (aCons (eBin D.mul (eBin D.ix (bVar 0) (eC (.int 1))) (eBin D.ix (bVar 1) (eC (.int 1)))) aNil))))
def F_times : Fn := fnD 2 b_times
theorem ok_times (T : Top K w P mg) : FnG P w K mg base 2 T.D_times.f T.D_times.d ["a", "b"] (spD ⟨K, w, P⟩ 2 F_times) := fnG_ok T.D_times.F sc_times (by decide) fun cdv A outer s H E hG hr =>
    (ss_one (st_ret (e_call (pe_callG hG (ok_fraction T) (hr.mono (by decide)) (by rfl) T.D_fraction.m T.D_fraction.k T.D_fraction.b (a_cons (e_bin op_mulW mul_d (b_of (e_ix (b_var (pv 0)) (b_of e_int))) (b_of (e_ix (b_var (pv 1)) (b_of e_int)))) (a_cons (e_bin op_mulW mul_d (b_of (e_ix (b_var (pv 0)) (b_of e_int))) (b_of (e_ix (b_var (pv 1)) (b_of e_int)))) a_nil))) (alS (alS al0)))))
theorem sc_over : FnScope ["a", "b", "above", "below"] ["a", "b"] (defScope s_over) := ⟨rfl, rfl, rfl, by decide +kernel, rfl, by decide +kernel, by decide +kernel⟩
def b_over : Stm :=
    (sSeq (sPar 2 3 (aCons (eBin D.mul (eBin D.ix (bVar 0) (eC (.int 0))) (eBin D.ix (bVar 1) (eC (.int 1)))) (aCons (eBin D.mul (eBin D.ix (bVar 0) (eC (.int 1))) (eBin D.ix (bVar 1) (eC (.int 0)))) aNil)))
    (sRet (eIf (tBl (eBin D.gt (bVar 3) (eC (.int 0)))) (eCall F_fraction (aCons (eVar 2) (aCons (eVar 3) aNil))) (eCall F_fraction (aCons (eBin D.sub (eC (.int 0)) (bVar 2)) (aCons (eBin D.sub (eC (.int 0)) (bVar 3)) aNil))))))
def F_over : Fn := fnD 4 b_over
theorem ok_over (T : Top K w P mg) : FnG P w K mg base 2 T.D_over.f T.D_over.d ["a", "b"] (spD ⟨K, w, P⟩ 2 F_over) := fnG_ok T.D_over.F sc_over (by decide) fun cdv A outer s H E hG hr =>
    (ss_cons (st_par (ps_par (i := 2) (j := 3) rfl sc_over.nd rfl rfl (by decide) rfl rfl (a_cons (e_bin op_mulW mul_d (b_of (e_ix (b_var (pv 0)) (b_of e_int))) (b_of (e_ix (b_var (pv 1)) (b_of e_int)))) (a_cons (e_bin op_mulW mul_d (b_of (e_ix (b_var (pv 0)) (b_of e_int))) (b_of (e_ix (b_var (pv 1)) (b_of e_int)))) a_nil)) (by rfl)))
    (ss_one (st_ret (e_if (t_cmp op_gt gt_d (b_var (pv 3)) (b_of e_int)) (e_call (pe_callG hG (ok_fraction T) (hr.mono (by decide)) (by rfl) T.D_fraction.m T.D_fraction.k T.D_fraction.b (a_cons (e_var (pv 2)) (a_cons (e_var (pv 3)) a_nil))) (alS (alS al0))) (e_call (pe_callG hG (ok_fraction T) (hr.mono (by decide)) (by rfl) T.D_fraction.m T.D_fraction.k T.D_fraction.b (a_cons (e_bin op_sub sub_d (b_of e_int) (b_var (pv 2))) (a_cons (e_bin op_sub sub_d (b_of e_int) (b_var (pv 3))) a_nil))) (alS (alS al0)))))))
theorem sc_is_fraction : FnScope ["value", "one"] ["value"] (defScope s_is_fraction) := ⟨rfl, rfl, rfl, by decide +kernel, rfl, by decide +kernel, by decide +kernel⟩
def b_is_fraction : Stm :=
    (sSeq (sIf (tOr (tNo (tTru (eCB gIsi (aCons (bVar 0) (aCons (eC (.ty "tuple")) aNil))))) (tOr (tBl (eBin D.ne (eCB gLen (aCons (bVar 0) aNil)) (eC (.int 2)))) (tNo (tTru (eCB gAll (aCons (eLc (iSeq (bVar 0)) (gNm 1) tYs (eCall F_is_integer (aCons (eVar 1) aNil)) [1]) aNil)))))) (sRet (eC (.bl false))) sNx)
    (sRet (eAn (eBin D.gt (eBin D.ix (bVar 0) (eC (.int 1))) (eC (.int 0))) (eBin D.eq (eCB gGcd (aCons (eBin D.ix (bVar 0) (eC (.int 0))) (aCons (eBin D.ix (bVar 0) (eC (.int 1))) aNil))) (eC (.int 1))))))
def F_is_fraction : Fn := fnD 2 b_is_fraction
theorem ok_is_fraction (T : Top K w P mg) : FnG P w K mg base 2 T.D_is_fraction.f T.D_is_fraction.d ["value"] (spD ⟨K, w, P⟩ 1 F_is_fraction) := fnG_ok T.D_is_fraction.F sc_is_fraction (by decide) fun cdv A outer s H E hG hr =>
    (ss_cons (st_if (PW.pt (tw_or (t_not (t_tru (b_of (e_cb (pe_callB call_isi (by rfl) T.z_isinstance bt_isinstance (aq_cons (b_var (pv 0)) (aq_cons (b_of (e_ty (by rfl) T.z_tuple bt_tuple)) aq_nil))) isi_d)))) (tw_or (t_cmp (op_neP hr.units) ne_d (b_of (e_cb (pe_callB call_len (by rfl) T.z_len bt_len (aq_cons (b_var (pv 0)) aq_nil)) len_d)) (b_of e_int)) (tw_or1 (t_not (t_tru (b_of (e_cb (pe_callB (cr_all (by rfl)) (by rfl) T.z_all bt_all (aq_cons (b_of (e_of (n_lc (own := [("one", 1)]) rfl sc_is_fraction.nd (ib_seq (b_var (pv 0))) (blkOk_by (by kernel_rfl)) (fun _ _ _ _ _ => (g_name (pg_name sc_is_fraction.nd rfl (by first | exact Or.inl rfl | exact Or.inr rfl)) (by decide))) (fun _ _ _ _ _ => ts_nil) (fun _ _ _ _ _ => (e_call (pe_callG hG (ok_is_integer T) (hr.mono (by decide)) (by rfl) T.D_is_integer.m T.D_is_integer.k T.D_is_integer.b (a_cons (e_var (pv 1)) a_nil)) (alS al0)))))) aq_nil)) all_d)))))))) (ss_one (st_ret e_bl)) ss_nil)
    (ss_one (st_ret (e_and (e_cmp op_gt gt_d (b_of (e_ix (b_var (pv 0)) (b_of e_int))) (b_of e_int)) (e_one (e_cmp (op_eqP hr.units) eq_d (b_of (e_cb (pe_callBfun cr_gcd (by rfl) T.g_gcd (aq_cons (b_of (e_ix (b_var (pv 0)) (b_of e_int))) (aq_cons (b_of (e_ix (b_var (pv 0)) (b_of e_int))) aq_nil))) gcd_d)) (b_of e_int)))))))
theorem sc_are_sizes : FnScope ["value", "size"] ["value"] (defScope s_are_sizes) := ⟨rfl, rfl, rfl, by decide +kernel, rfl, by decide +kernel, by decide +kernel⟩
def b_are_sizes : Stm :=
    (sSeq (sIf (tOr (tNo (tTru (eCB gIsi (aCons (bVar 0) (aCons (eC (.ty "tuple")) aNil))))) (tNo (tBl (eChain D.le D.le (eC (.int 1)) (eCB gLen (aCons (bVar 0) aNil)) (eC (.int 7)))))) (sRet (eC (.bl false))) sNx)
    (sRet (eCB gAll (aCons (eLc (iSeq (bVar 0)) (gNm 1) tYs (eAn (eCall F_is_integer (aCons (eVar 1) aNil)) (eChain D.le D.le (eC (.int 1)) (bVar 1) (eC (.int 3)))) [1]) aNil))))
def F_are_sizes : Fn := fnD 2 b_are_sizes
theorem ok_are_sizes (T : Top K w P mg) : FnG P w K mg base 2 T.D_are_sizes.f T.D_are_sizes.d ["value"] (spD ⟨K, w, P⟩ 1 F_are_sizes) := fnG_ok T.D_are_sizes.F sc_are_sizes (by decide) fun cdv A outer s H E hG hr =>
    (ss_cons (st_if (PW.pt (tw_or (t_not (t_tru (b_of (e_cb (pe_callB call_isi (by rfl) T.z_isinstance bt_isinstance (aq_cons (b_var (pv 0)) (aq_cons (b_of (e_ty (by rfl) T.z_tuple bt_tuple)) aq_nil))) isi_d)))) (tw_or1 (t_not (t_chain op_le le_d op_le le_d (b_of e_int) (b_of (e_cb (pe_callB call_len (by rfl) T.z_len bt_len (aq_cons (b_var (pv 0)) aq_nil)) len_d)) (b_of (e_glob T.c_MOST_VARIABLES (by rfl)))))))) (ss_one (st_ret e_bl)) ss_nil)
    (ss_one (st_ret (e_cb (pe_callB (cr_all (by rfl)) (by rfl) T.z_all bt_all (aq_cons (b_of (e_of (n_lc (own := [("size", 1)]) rfl sc_are_sizes.nd (ib_seq (b_var (pv 0))) (blkOk_by (by kernel_rfl)) (fun _ _ _ _ _ => (g_name (pg_name sc_are_sizes.nd rfl (by first | exact Or.inl rfl | exact Or.inr rfl)) (by decide))) (fun _ _ _ _ _ => ts_nil) (fun _ _ _ _ _ => (e_and (e_call (pe_callG hG (ok_is_integer T) (hr.mono (by decide)) (by rfl) T.D_is_integer.m T.D_is_integer.k T.D_is_integer.b (a_cons (e_var (pv 1)) a_nil)) (alS al0)) (e_one (e_chain op_le le_d op_le le_d (b_of e_int) (b_var (pv 1)) (b_of (e_glob T.c_MOST_SIZE (by rfl)))))))))) aq_nil)) all_d))))
theorem sc_is_rule : FnScope ["sizes", "v", "value", "part", "a", "one", "two", "x"] ["sizes", "v", "value"] (defScope s_is_rule) := ⟨rfl, rfl, rfl, by decide +kernel, rfl, by decide +kernel, by decide +kernel⟩
def b_is_rule : Stm :=
    (sSeq (sIf (tOr (tNo (tTru (eCB gIsi (aCons (bVar 2) (aCons (eC (.ty "tuple")) aNil))))) (tOr (tBl (eBin D.ne (eCB gLen (aCons (bVar 2) aNil)) (eC (.int 2)))) (tNo (tTru (eCB gAll (aCons (eLc (iSeq (bVar 2)) (gNm 3) tYs (eCB gIsi (aCons (bVar 3) (aCons (eC (.ty "tuple")) aNil))) [3]) aNil)))))) (sRet (eC (.bl false))) sNx)
    (sSeq (sIf (tNo (tTru (eCB gAll (aCons (eLc (iSeq (eBin D.ix (bVar 2) (eC (.int 0)))) (gNm 4) tYs (eAn (eCall F_is_integer (aCons (eVar 4) aNil)) (eChain D.le D.lt (eC (.int 0)) (bVar 4) (bVar 1))) [4]) aNil)))) (sRet (eC (.bl false))) sNx)
    (sSeq (sIf (tNo (tTru (eCB gAll (aCons (eLc (iZp (aCons (eBin D.ix (bVar 2) (eC (.int 0))) (aCons (eSl D.slice (eBin D.ix (bVar 2) (eC (.int 0))) (pIs (eC (.int 1))) pNo) aNil))) (gTp 2 (gsCons (gNm 5) (gsCons (gNm 6) gsNil))) tYs (eBin D.lt (bVar 5) (bVar 6)) [5, 6]) aNil)))) (sRet (eC (.bl false))) sNx)
    (sSeq (sIf (tBl (eBin D.ne (eCB gLen (aCons (eBin D.ix (bVar 2) (eC (.int 1))) aNil)) (eCB gLen (aCons (eCall F_rows_of (aCons (eLc (iSeq (eBin D.ix (bVar 2) (eC (.int 0)))) (gNm 4) tYs (eBin D.ix (bVar 0) (bVar 4)) [4]) aNil)) aNil)))) (sRet (eC (.bl false))) sNx)
    (sRet (eCB gAll (aCons (eLc (iSeq (eBin D.ix (bVar 2) (eC (.int 1)))) (gNm 7) tYs (eAn (eCall F_is_integer (aCons (eVar 7) aNil)) (eChain D.le D.lt (eC (.int 0)) (bVar 7) (eBin D.ix (bVar 0) (bVar 1)))) [7]) aNil)))))))
def F_is_rule : Fn := fnD 8 b_is_rule
theorem ok_is_rule (T : Top K w P mg) : FnG P w K mg base 2 T.D_is_rule.f T.D_is_rule.d ["sizes", "v", "value"] (spD ⟨K, w, P⟩ 3 F_is_rule) := fnG_ok T.D_is_rule.F sc_is_rule (by decide) fun cdv A outer s H E hG hr =>
    (ss_cons (st_if (PW.pt (tw_or (t_not (t_tru (b_of (e_cb (pe_callB call_isi (by rfl) T.z_isinstance bt_isinstance (aq_cons (b_var (pv 2)) (aq_cons (b_of (e_ty (by rfl) T.z_tuple bt_tuple)) aq_nil))) isi_d)))) (tw_or (t_cmp (op_neP hr.units) ne_d (b_of (e_cb (pe_callB call_len (by rfl) T.z_len bt_len (aq_cons (b_var (pv 2)) aq_nil)) len_d)) (b_of e_int)) (tw_or1 (t_not (t_tru (b_of (e_cb (pe_callB (cr_all (by rfl)) (by rfl) T.z_all bt_all (aq_cons (b_of (e_of (n_lc (own := [("part", 3)]) rfl sc_is_rule.nd (ib_seq (b_var (pv 2))) (blkOk_by (by kernel_rfl)) (fun _ _ _ _ _ => (g_name (pg_name sc_is_rule.nd rfl (by first | exact Or.inl rfl | exact Or.inr rfl)) (by decide))) (fun _ _ _ _ _ => ts_nil) (fun _ _ _ _ _ => (e_cb (pe_callB call_isi (by rfl) T.z_isinstance bt_isinstance (aq_cons (b_var (pv 3)) (aq_cons (b_of (e_ty (by rfl) T.z_tuple bt_tuple)) aq_nil))) isi_d))))) aq_nil)) all_d)))))))) (ss_one (st_ret e_bl)) ss_nil)
    (ss_cons (st_if (t_not (t_tru (b_of (e_cb (pe_callB (cr_all (by rfl)) (by rfl) T.z_all bt_all (aq_cons (b_of (e_of (n_lc (own := [("a", 4)]) rfl sc_is_rule.nd (ib_seq (b_of (e_ix (b_var (pv 2)) (b_of e_int)))) (blkOk_by (by kernel_rfl)) (fun _ _ _ _ _ => (g_name (pg_name sc_is_rule.nd rfl (by first | exact Or.inl rfl | exact Or.inr rfl)) (by decide))) (fun _ _ _ _ _ => ts_nil) (fun _ _ _ _ _ => (e_and (e_call (pe_callG hG (ok_is_integer T) (hr.mono (by decide)) (by rfl) T.D_is_integer.m T.D_is_integer.k T.D_is_integer.b (a_cons (e_var (pv 4)) a_nil)) (alS al0)) (e_one (e_chain op_le le_d op_lt lt_d (b_of e_int) (b_var (pv 4)) (b_var (pv 1))))))))) aq_nil)) all_d)))) (ss_one (st_ret e_bl)) ss_nil)
    (ss_cons (st_if (t_not (t_tru (b_of (e_cb (pe_callB (cr_all (by rfl)) (by rfl) T.z_all bt_all (aq_cons (b_of (e_of (n_lc (own := [("one", 5), ("two", 6)]) rfl sc_is_rule.nd (ib_zip (pi_zipZ (by rfl) T.z_zip (aq_cons (b_of (e_ix (b_var (pv 2)) (b_of e_int))) (aq_cons (b_of (e_sl sl_slice slice_d (b_of (e_ix (b_var (pv 2)) (b_of e_int))) (p_is (b_of e_int)) p_no)) aq_nil)))) (blkOk_by (by kernel_rfl)) (fun _ _ _ _ _ => (g_tup rfl (gs_cons (g_name (pg_name sc_is_rule.nd rfl (by first | exact Or.inl rfl | exact Or.inr rfl)) (by decide)) (gs_cons (g_name (pg_name sc_is_rule.nd rfl (by first | exact Or.inl rfl | exact Or.inr rfl)) (by decide)) gs_nil)))) (fun _ _ _ _ _ => ts_nil) (fun _ _ _ _ _ => (e_cmp op_lt lt_d (b_var (pv 5)) (b_var (pv 6))))))) aq_nil)) all_d)))) (ss_one (st_ret e_bl)) ss_nil)
    (ss_cons (st_if (t_cmp (op_neP hr.units) ne_d (b_of (e_cb (pe_callB call_len (by rfl) T.z_len bt_len (aq_cons (b_of (e_ix (b_var (pv 2)) (b_of e_int))) aq_nil)) len_d)) (b_of (e_cb (pe_callB call_len (by rfl) T.z_len bt_len (aq_cons (b_of (e_call (pe_callG hG (ok_rows_of T) (hr.mono (by decide)) (by rfl) T.D_rows_of.m T.D_rows_of.k T.D_rows_of.b (a_cons (e_of (n_lc (own := [("a", 4)]) rfl sc_is_rule.nd (ib_seq (b_of (e_ix (b_var (pv 2)) (b_of e_int)))) (blkOk_by (by kernel_rfl)) (fun _ _ _ _ _ => (g_name (pg_name sc_is_rule.nd rfl (by first | exact Or.inl rfl | exact Or.inr rfl)) (by decide))) (fun _ _ _ _ _ => ts_nil) (fun _ _ _ _ _ => (e_ix (b_var (pv 0)) (b_var (pv 4)))))) a_nil)) (alS al0))) aq_nil)) len_d))) (ss_one (st_ret e_bl)) ss_nil)
    (ss_one (st_ret (e_cb (pe_callB (cr_all (by rfl)) (by rfl) T.z_all bt_all (aq_cons (b_of (e_of (n_lc (own := [("x", 7)]) rfl sc_is_rule.nd (ib_seq (b_of (e_ix (b_var (pv 2)) (b_of e_int)))) (blkOk_by (by kernel_rfl)) (fun _ _ _ _ _ => (g_name (pg_name sc_is_rule.nd rfl (by first | exact Or.inl rfl | exact Or.inr rfl)) (by decide))) (fun _ _ _ _ _ => ts_nil) (fun _ _ _ _ _ => (e_and (e_call (pe_callG hG (ok_is_integer T) (hr.mono (by decide)) (by rfl) T.D_is_integer.m T.D_is_integer.k T.D_is_integer.b (a_cons (e_var (pv 7)) a_nil)) (alS al0)) (e_one (e_chain op_le le_d op_lt lt_d (b_of e_int) (b_var (pv 7)) (b_of (e_ix (b_var (pv 0)) (b_var (pv 1))))))))))) aq_nil)) all_d)))))))
theorem sc_values : FnScope ["functions", "deed", "sizes", "rules", "told", "row", "v", "parents", "table", "a"] ["functions", "deed"] (defScope s_values) := ⟨rfl, rfl, rfl, by decide +kernel, rfl, by decide +kernel, by decide +kernel⟩
def b_values : Stm :=
    (sSeq (sAsg (eVar 0) (gTp 2 (gsCons (gNm 2) (gsCons (gNm 3) gsNil))))
    (sSeq (sAsg (eCB gDict (aCons (bVar 1) aNil)) (gNm 4))
    (sSeq (sAsg (eTup aNil) (gNm 5))
    (sSeq (sFor (iEn (aCons (eVar 3) aNil)) (gTp 2 (gsCons (gNm 6) (gsCons (gTp 2 (gsCons (gNm 7) (gsCons (gNm 8) gsNil))) gsNil)))
    (sIf (tBl (eBin D.isInA (bVar 6) (bVar 4))) (sAug D.iadd 5 (eTup (aCons (eBin D.dix (bVar 4) (bVar 6)) aNil))) (sAug D.iadd 5 (eTup (aCons (eBin D.ix (bVar 8) (eCall F_place_of (aCons (eLc (iSeq (bVar 7)) (gNm 9) tYs (eBin D.ix (bVar 2) (bVar 9)) [9]) (aCons (eLc (iSeq (bVar 7)) (gNm 9) tYs (eBin D.ix (bVar 5) (bVar 9)) [9]) aNil)))) aNil)))))
    (sRet (eVar 5))))))
def F_values : Fn := fnD 10 b_values
theorem ok_values (T : Top K w P mg) : FnG P w K mg base 2 T.D_values.f T.D_values.d ["functions", "deed"] (spD ⟨K, w, P⟩ 2 F_values) := fnG_ok T.D_values.F sc_values (by decide) fun cdv A outer s H E hG hr =>
    (ss_cons (st_asg (vs := [2, 3]) (ps_asg (e_var (pv 0)) (g_tup rfl (gs_cons (g_name (pg_name sc_values.nd rfl (by first | exact Or.inl rfl | exact Or.inr rfl)) (by decide)) (gs_cons (g_name (pg_name sc_values.nd rfl (by first | exact Or.inl rfl | exact Or.inr rfl)) (by decide)) gs_nil)))))
    (ss_cons (st_set (ps_set (i := 4) sc_values.nd rfl (by first | exact Or.inl rfl | exact Or.inr rfl) (e_of (n_cb (pe_callTy (call_dictZ (by rfl)) (by rfl) T.z_dict bt_dict (aq_cons (b_var (pv 1)) aq_nil)) dict_f))))
    (ss_cons (st_set (ps_set (i := 5) sc_values.nd rfl (by first | exact Or.inl rfl | exact Or.inr rfl) (e_tup a_nil)))
    (ss_cons (st_for (vs := [6, 7, 8]) PassesOwn.never rfl (it_enum (pi_enumTZ (by rfl) T.z_enumerate (a_cons (e_var (pv 3)) a_nil))) (g_tup rfl (gs_cons (g_name (pg_name sc_values.nd rfl (by first | exact Or.inl rfl | exact Or.inr rfl)) (by decide)) (gs_cons (g_tup rfl (gs_cons (g_name (pg_name sc_values.nd rfl (by first | exact Or.inl rfl | exact Or.inr rfl)) (by decide)) (gs_cons (g_name (pg_name sc_values.nd rfl (by first | exact Or.inl rfl | exact Or.inr rfl)) (by decide)) gs_nil))) gs_nil)))
    (ss_one (st_if (t_cmp (op_inA hr.units) isInA_d (b_var (pv 6)) (b_var (pv 4))) (ss_one (st_aug (ps_aug (i := 5) sc_values.nd rfl (by first | exact Or.inl rfl | exact Or.inr rfl) (b_of (e_tup (a_cons (e_dix hr.units (b_var (pv 4)) (b_var (pv 6))) a_nil))) iop_addD) iadd_d)) (ss_one (st_aug (ps_aug (i := 5) sc_values.nd rfl (by first | exact Or.inl rfl | exact Or.inr rfl) (b_of (e_tup (a_cons (e_ix (b_var (pv 8)) (b_of (e_call (pe_callG hG (ok_place_of T) (hr.mono (by decide)) (by rfl) T.D_place_of.m T.D_place_of.k T.D_place_of.b (a_cons (e_of (n_lc (own := [("a", 9)]) rfl sc_values.nd (ib_seq (b_var (pv 7))) (blkOk_by (by kernel_rfl)) (fun _ _ _ _ _ => (g_name (pg_name sc_values.nd rfl (by first | exact Or.inl rfl | exact Or.inr rfl)) (by decide))) (fun _ _ _ _ _ => ts_nil) (fun _ _ _ _ _ => (e_ix (b_var (pv 2)) (b_var (pv 9)))))) (a_cons (e_of (n_lc (own := [("a", 9)]) rfl sc_values.nd (ib_seq (b_var (pv 7))) (blkOk_by (by kernel_rfl)) (fun _ _ _ _ _ => (g_name (pg_name sc_values.nd rfl (by first | exact Or.inl rfl | exact Or.inr rfl)) (by decide))) (fun _ _ _ _ _ => ts_nil) (fun _ _ _ _ _ => (e_ix (b_var (pv 5)) (b_var (pv 9)))))) a_nil))) (alS (alS al0))))) a_nil))) iop_addD) iadd_d)))))
    (ss_one (st_ret (e_var (pv 5))))))))
theorem sc__law_take : FnScope ["c", "many", "digit"] ["c", "many"] (defScope s__law_take) := ⟨rfl, rfl, rfl, by decide +kernel, rfl, by decide +kernel, by decide +kernel⟩
def b__law_take : Stm :=
    (sSeq (sIf (tBl (eBin D.lt (eIxR (eVar 0) (eC (.int 2))) (bVar 1))) (sSetR (eVar 0) (eCall F__law_fill (aCons (eVar 0) aNil)) (eC (.int 2))) sNx)
    (sSeq (sAsg (eBin D.mod (eCB gInt (aCons (eIxR (eVar 0) (eC (.int 2))) aNil)) (bVar 1)) (gNm 2))
    (sSeq (sSetR (eVar 0) (eBin D.fdiv (eIxR (eVar 0) (eC (.int 2))) (bVar 1)) (eC (.int 2)))
    (sRet (eVar 2)))))
def F__law_take : Fn := fnD 3 b__law_take
theorem ok__law_take (T : Top K w P mg) : FnG P w K mg base 2 T.D__law_take.f T.D__law_take.d ["c", "many"] (spD ⟨K, w, P⟩ 2 F__law_take) := fnG_ok T.D__law_take.F sc__law_take (by decide) fun cdv A outer s H E hG hr =>
    (ss_cons (st_if (t_cmp op_lt lt_d (b_of (e_ixR (e_var (pv 0)) (b_of e_int))) (b_var (pv 1))) (ss_one (st_setR (ps_asg (e_call (pe_callG hG (ok__law_fill T) (hr.mono (by decide)) (by rfl) T.D__law_fill.m T.D__law_fill.k T.D__law_fill.b (a_cons (e_var (pv 0)) a_nil)) (alS al0)) (pg_sub (e_var (pv 0)) (b_of e_int) set_list)))) ss_nil)
    (ss_cons (st_set (ps_set (i := 2) sc__law_take.nd rfl (by first | exact Or.inl rfl | exact Or.inr rfl) (e_bin op_modN mod_d (b_of (e_cb (pe_callTy call_int1 (by rfl) T.z_int bt_int (aq_cons (b_of (e_ixR (e_var (pv 0)) (b_of e_int))) aq_nil)) int_c)) (b_var (pv 1)))))
    (ss_cons (st_setR (ps_asg (e_bin op_fdivW fdiv_d (b_of (e_ixR (e_var (pv 0)) (b_of e_int))) (b_var (pv 1))) (pg_sub (e_var (pv 0)) (b_of e_int) set_list)))
    (ss_one (st_ret (e_var (pv 2)))))))
theorem sc__law_fraction : FnScope ["n", "d", "many"] ["n", "d"] (defScope s__law_fraction) := ⟨rfl, rfl, rfl, by decide +kernel, rfl, by decide +kernel, by decide +kernel⟩
def b__law_fraction : Stm :=
    (sSeq (sAsg (eCall F__law_divisor (aCons (eVar 0) (aCons (eVar 1) aNil))) (gNm 2))
    (sSeq (sAsg (eIf (tBl (eBin D.gt (bVar 1) (eC (.int 0)))) (eVar 2) (eBin D.sub (eC (.int 0)) (bVar 2))) (gNm 2))
    (sRet (eTup (aCons (eBin D.fdiv (bVar 0) (bVar 2)) (aCons (eBin D.fdiv (bVar 1) (bVar 2)) aNil))))))
def F__law_fraction : Fn := fnD 3 b__law_fraction
theorem ok__law_fraction (T : Top K w P mg) : FnG P w K mg base 2 T.D__law_fraction.f T.D__law_fraction.d ["n", "d"] (spD ⟨K, w, P⟩ 2 F__law_fraction) := fnG_ok T.D__law_fraction.F sc__law_fraction (by decide) fun cdv A outer s H E hG hr =>
    (ss_cons (st_set (ps_set (i := 2) sc__law_fraction.nd rfl (by first | exact Or.inl rfl | exact Or.inr rfl) (e_call (pe_callG hG (ok__law_divisor T) (hr.mono (by decide)) (by rfl) T.D__law_divisor.m T.D__law_divisor.k T.D__law_divisor.b (a_cons (e_var (pv 0)) (a_cons (e_var (pv 1)) a_nil))) (alS (alS al0)))))
    (ss_cons (st_set (ps_set (i := 2) sc__law_fraction.nd rfl (by first | exact Or.inl rfl | exact Or.inr rfl) (e_if (t_cmp op_gt gt_d (b_var (pv 1)) (b_of e_int)) (e_var (pv 2)) (e_bin op_sub sub_d (b_of e_int) (b_var (pv 2))))))
    (ss_one (st_ret (e_tup (a_cons (e_bin op_fdivW fdiv_d (b_var (pv 0)) (b_var (pv 2))) (a_cons (e_bin op_fdivW fdiv_d (b_var (pv 1)) (b_var (pv 2))) a_nil)))))))
theorem sc__law_run : FnScope ["functions", "deed", "sizes", "rules", "told", "row", "v", "parents", "table", "a"] ["functions", "deed"] (defScope s__law_run) := ⟨rfl, rfl, rfl, by decide +kernel, rfl, by decide +kernel, by decide +kernel⟩
def b__law_run : Stm :=
    (sSeq (sAsg (eVar 0) (gTp 2 (gsCons (gNm 2) (gsCons (gNm 3) gsNil))))
    (sSeq (sParDF 4 5 (eCB gDict (aCons (bVar 1) aNil)) (eLst aNil))
    (sSeq (sFor (iRng (aCons (eCB gLen (aCons (bVar 2) aNil)) aNil)) (gNm 6)
    (sSeq (sAsg (eBin D.ix (bVar 3) (bVar 6)) (gTp 2 (gsCons (gNm 7) (gsCons (gNm 8) gsNil))))
    (sIf (tBl (eBin D.isInA (bVar 6) (bVar 4))) (sMut gAppend 5 (aCons (eBin D.dix (bVar 4) (bVar 6)) aNil)) (sMut gAppend 5 (aCons (eBin D.ix (bVar 8) (eCall F__law_place (aCons (eLc (iSeq (bVar 7)) (gNm 9) tYs (eBin D.ix (bVar 2) (bVar 9)) [9]) (aCons (eLc (iSeq (bVar 7)) (gNm 9) tYs (eBin D.ix (bVar 5) (bVar 9)) [9]) aNil)))) aNil)))))
    (sFz 5 (sRet (eCB gTuple (aCons (bVar 5) aNil)))))))
def F__law_run : Fn := fnD 10 b__law_run
theorem ok__law_run (T : Top K w P mg) : FnG P w K mg base 2 T.D__law_run.f T.D__law_run.d ["functions", "deed"] (spD ⟨K, w, P⟩ 2 F__law_run) := fnG_ok T.D__law_run.F sc__law_run (by decide) fun cdv A outer s H E hG hr =>
    (ss_cons (st_asg (vs := [2, 3]) (ps_asg (e_var (pv 0)) (g_tup rfl (gs_cons (g_name (pg_name sc__law_run.nd rfl (by first | exact Or.inl rfl | exact Or.inr rfl)) (by decide)) (gs_cons (g_name (pg_name sc__law_run.nd rfl (by first | exact Or.inl rfl | exact Or.inr rfl)) (by decide)) gs_nil)))))
    (ss_cons (st_parDFc (i := 4) (j := 5) (ps_asg (pe_tupZ (pa_cons (e_of (n_cb (pe_callTy (call_dictZ (by rfl)) (by rfl) T.z_dict bt_dict (aq_cons (b_var (pv 1)) aq_nil)) dict_f)) (pa_cons (n_lst a_nil) pa_nil))) (pg_tup rfl (pgs_cons (pg_name sc__law_run.nd rfl (by first | exact Or.inl rfl | exact Or.inr rfl)) (pgs_cons (pg_name sc__law_run.nd rfl (by first | exact Or.inl rfl | exact Or.inr rfl)) pgs_nil)))))
    (ss_cons (st_for (vs := [6]) PassesOwn.never rfl (it_range1 (pi_range1 (by rfl) T.z_range (aq_cons (b_of (e_cb (pe_callB call_len (by rfl) T.z_len bt_len (aq_cons (b_var (pv 2)) aq_nil)) len_d)) aq_nil)) (alS al0)) (g_name (pg_name sc__law_run.nd rfl (by first | exact Or.inl rfl | exact Or.inr rfl)) (by decide))
    (ss_cons (st_asg (vs := [7, 8]) (ps_asg (e_ix (b_var (pv 3)) (b_var (pv 6))) (g_tup rfl (gs_cons (g_name (pg_name sc__law_run.nd rfl (by first | exact Or.inl rfl | exact Or.inr rfl)) (by decide)) (gs_cons (g_name (pg_name sc__law_run.nd rfl (by first | exact Or.inl rfl | exact Or.inr rfl)) (by decide)) gs_nil)))))
    (ss_one (st_if (t_cmp (op_inA hr.units) isInA_d (b_var (pv 6)) (b_var (pv 4))) (ss_one (st_mut (ps_expr (pe_bm PySem.F.plainAttrs_list PySem.F.slot_list_append PySem.F.type_list_append mt_append (pv 5) (a_cons (e_dix hr.units (b_var (pv 4)) (b_var (pv 6))) a_nil))) append_d append_l)) (ss_one (st_mut (ps_expr (pe_bm PySem.F.plainAttrs_list PySem.F.slot_list_append PySem.F.type_list_append mt_append (pv 5) (a_cons (e_ix (b_var (pv 8)) (b_of (e_call (pe_callG hG (ok__law_place T) (hr.mono (by decide)) (by rfl) T.D__law_place.m T.D__law_place.k T.D__law_place.b (a_cons (e_of (n_lc (own := [("a", 9)]) rfl sc__law_run.nd (ib_seq (b_var (pv 7))) (blkOk_by (by kernel_rfl)) (fun _ _ _ _ _ => (g_name (pg_name sc__law_run.nd rfl (by first | exact Or.inl rfl | exact Or.inr rfl)) (by decide))) (fun _ _ _ _ _ => ts_nil) (fun _ _ _ _ _ => (e_ix (b_var (pv 2)) (b_var (pv 9)))))) (a_cons (e_of (n_lc (own := [("a", 9)]) rfl sc__law_run.nd (ib_seq (b_var (pv 7))) (blkOk_by (by kernel_rfl)) (fun _ _ _ _ _ => (g_name (pg_name sc__law_run.nd rfl (by first | exact Or.inl rfl | exact Or.inr rfl)) (by decide))) (fun _ _ _ _ _ => ts_nil) (fun _ _ _ _ _ => (e_ix (b_var (pv 5)) (b_var (pv 9)))))) a_nil))) (alS (alS al0))))) a_nil))) append_d append_l))))))
    (ss_fz 5 (ss_one (st_ret (e_cb (pe_callTy call_tupleZ (by rfl) T.z_tuple bt_tuple (aq_cons (b_var (pv 5)) aq_nil)) tuple_d)))))))
theorem sc_total : FnScope ["fractions", "found", "one"] ["fractions"] (defScope s_total) := ⟨rfl, rfl, rfl, by decide +kernel, rfl, by decide +kernel, by decide +kernel⟩
def b_total : Stm :=
    (sSeq (sAsg (eTup (aCons (eC (.int 0)) (aCons (eC (.int 1)) aNil))) (gNm 1))
    (sSeq (sFor (iSeq (eVar 0)) (gNm 2)
    (sAsg (eCall F_plus (aCons (eVar 1) (aCons (eVar 2) aNil))) (gNm 1)))
    (sRet (eVar 1))))
def F_total : Fn := fnD 3 b_total
theorem ok_total (T : Top K w P mg) : FnG P w K mg base 3 T.D_total.f T.D_total.d ["fractions"] (spD ⟨K, w, P⟩ 1 F_total) := fnG_ok T.D_total.F sc_total (by decide) fun cdv A outer s H E hG hr =>
    (ss_cons (st_set (ps_set (i := 1) sc_total.nd rfl (by first | exact Or.inl rfl | exact Or.inr rfl) (e_tup (a_cons e_int (a_cons e_int a_nil)))))
    (ss_cons (st_for (vs := [2]) PassesOwn.never rfl (it_seq (e_var (pv 0))) (g_name (pg_name sc_total.nd rfl (by first | exact Or.inl rfl | exact Or.inr rfl)) (by decide))
    (ss_one (st_set (ps_set (i := 1) sc_total.nd rfl (by first | exact Or.inl rfl | exact Or.inr rfl) (e_call (pe_callG hG (ok_plus T) (hr.mono (by decide)) (by rfl) T.D_plus.m T.D_plus.k T.D_plus.b (a_cons (e_var (pv 1)) (a_cons (e_var (pv 2)) a_nil))) (alS (alS al0)))))))
    (ss_one (st_ret (e_var (pv 1))))))
theorem sc_drawn : FnScope ["lots", "sizes", "rules", "chances", "free", "found", "row", "told", "one", "v", "own"] ["lots"] (defScope s_drawn) := ⟨rfl, rfl, rfl, by decide +kernel, rfl, by decide +kernel, by decide +kernel⟩
def b_drawn : Stm :=
    (sSeq (sAsg (eVar 0) (gTp 3 (gsCons (gNm 1) (gsCons (gNm 2) (gsCons (gNm 3) gsNil)))))
    (sSeq (sAsg (eLc (iRng (aCons (eCB gLen (aCons (bVar 1) aNil)) aNil)) (gNm 9) (tBl (eBin D.isN (eBin D.ix (bVar 2) (bVar 9)) (eC .non))) (eVar 9) [9]) (gNm 4))
    (sSeq (sOwn (eLst aNil) 5)
    (sSeq (sFor (iSeq (eCall F_rows_of (aCons (eLc (iSeq (bVar 4)) (gNm 9) tYs (eBin D.ix (bVar 1) (bVar 9)) [9]) aNil))) (gNm 6)
    (sSeq (sAsg (eCB gDictZip (aCons (bVar 4) (aCons (bVar 6) aNil))) (gNm 7))
    (sSeq (sAsg (eC (.tup [.int 1, .int 1])) (gNm 8))
    (sSeq (sFor (iSeq (eVar 4)) (gNm 9)
    (sAsg (eCall F_times (aCons (eVar 8) (aCons (eBin D.ix (eBin D.ix (bVar 3) (bVar 9)) (eBin D.dix (bVar 7) (bVar 9))) aNil))) (gNm 8)))
    (sIf (tBl (eBin D.gt (eBin D.ix (bVar 8) (eC (.int 0))) (eC (.int 0)))) (sSeq (sAsg (eCB gTuple (aCons (eLc (iRng (aCons (eCB gLen (aCons (bVar 1) aNil)) aNil)) (gNm 9) tYs (eIf (tBl (eBin D.isInA (bVar 9) (bVar 7))) (eTup (aCons (eTup aNil) (aCons (eTup (aCons (eBin D.dix (bVar 7) (bVar 9)) aNil)) aNil))) (eBin D.ix (bVar 2) (bVar 9))) [9]) aNil)) (gNm 10))
    (sMut gAppend 5 (aCons (eTup (aCons (eTup (aCons (eVar 1) (aCons (eVar 10) aNil))) (aCons (eVar 8) aNil))) aNil))) sNx)))))
    (sFz 5 (sRet (eCB gTuple (aCons (bVar 5) aNil))))))))
def F_drawn : Fn := fnD 11 b_drawn
theorem ok_drawn (T : Top K w P mg) : FnG P w K mg base 3 T.D_drawn.f T.D_drawn.d ["lots"] (spD ⟨K, w, P⟩ 1 F_drawn) := fnG_ok T.D_drawn.F sc_drawn (by decide) fun cdv A outer s H E hG hr =>
    (ss_cons (st_asg (vs := [1, 2, 3]) (ps_asg (e_var (pv 0)) (g_tup rfl (gs_cons (g_name (pg_name sc_drawn.nd rfl (by first | exact Or.inl rfl | exact Or.inr rfl)) (by decide)) (gs_cons (g_name (pg_name sc_drawn.nd rfl (by first | exact Or.inl rfl | exact Or.inr rfl)) (by decide)) (gs_cons (g_name (pg_name sc_drawn.nd rfl (by first | exact Or.inl rfl | exact Or.inr rfl)) (by decide)) gs_nil))))))
    (ss_cons (st_set (asg_imp (ps_setLc (i := 4) (own := [("v", 9)]) rfl sc_drawn.nd rfl rfl (by rfl) (it_range1 (pi_range1 (by rfl) T.z_range (aq_cons (b_of (e_cb (pe_callB call_len (by rfl) T.z_len bt_len (aq_cons (b_var (pv 1)) aq_nil)) len_d)) aq_nil)) (alS al0)) (blkOk_by (by kernel_rfl)) (fun _ _ _ _ _ => (g_name (pg_name sc_drawn.nd rfl (by first | exact Or.inl rfl | exact Or.inr rfl)) (by decide))) (fun _ _ _ _ _ => (ts_one (t_cmp op_isN isN_d (b_of (e_ix (b_var (pv 2)) (b_var (pv 9)))) (b_of e_non)))) (fun _ _ _ _ _ => (e_var (pv 9)))) fun _ _ _ h => lc_f (tF_D h)))
    (ss_cons (st_own (ps_set (i := 5) sc_drawn.nd rfl (by first | exact Or.inl rfl | exact Or.inr rfl) (n_lst a_nil)))
    (ss_cons (st_for (vs := [6]) PassesOwn.never rfl (it_seq (e_call (pe_callG hG (ok_rows_of T) (hr.mono (by decide)) (by rfl) T.D_rows_of.m T.D_rows_of.k T.D_rows_of.b (a_cons (e_of (n_lc (own := [("v", 9)]) rfl sc_drawn.nd (ib_seq (b_var (pv 4))) (blkOk_by (by kernel_rfl)) (fun _ _ _ _ _ => (g_name (pg_name sc_drawn.nd rfl (by first | exact Or.inl rfl | exact Or.inr rfl)) (by decide))) (fun _ _ _ _ _ => ts_nil) (fun _ _ _ _ _ => (e_ix (b_var (pv 1)) (b_var (pv 9)))))) a_nil)) (alS al0))) (g_name (pg_name sc_drawn.nd rfl (by first | exact Or.inl rfl | exact Or.inr rfl)) (by decide))
    (ss_cons (st_set (ps_set (i := 7) sc_drawn.nd rfl (by first | exact Or.inl rfl | exact Or.inr rfl) (e_of (n_cb (pe_dictzip (by rfl) (by rfl) T.z_dict (by rfl) T.z_zip (aq_cons (b_var (pv 4)) (aq_cons (b_var (pv 6)) aq_nil))) dictzip_f))))
    (ss_cons (st_set (ps_set (i := 8) sc_drawn.nd rfl (by first | exact Or.inl rfl | exact Or.inr rfl) (e_glob T.c_ONE (by rfl))))
    (ss_cons (st_for (vs := [9]) PassesOwn.never rfl (it_seq (e_var (pv 4))) (g_name (pg_name sc_drawn.nd rfl (by first | exact Or.inl rfl | exact Or.inr rfl)) (by decide))
    (ss_one (st_set (ps_set (i := 8) sc_drawn.nd rfl (by first | exact Or.inl rfl | exact Or.inr rfl) (e_call (pe_callG hG (ok_times T) (hr.mono (by decide)) (by rfl) T.D_times.m T.D_times.k T.D_times.b (a_cons (e_var (pv 8)) (a_cons (e_ix (b_of (e_ix (b_var (pv 3)) (b_var (pv 9)))) (b_of (e_dix hr.units (b_var (pv 7)) (b_var (pv 9))))) a_nil))) (alS (alS al0)))))))
    (ss_one (st_if (t_cmp op_gt gt_d (b_of (e_ix (b_var (pv 8)) (b_of e_int))) (b_of e_int)) (ss_cons (st_set (ps_set (i := 10) sc_drawn.nd rfl (by first | exact Or.inl rfl | exact Or.inr rfl) (e_cb (pe_callTy call_tupleZ (by rfl) T.z_tuple bt_tuple (aq_cons (b_of (e_of (n_lc (own := [("v", 9)]) rfl sc_drawn.nd (it_range1 (pi_range1 (by rfl) T.z_range (aq_cons (b_of (e_cb (pe_callB call_len (by rfl) T.z_len bt_len (aq_cons (b_var (pv 1)) aq_nil)) len_d)) aq_nil)) (alS al0)) (blkOk_by (by kernel_rfl)) (fun _ _ _ _ _ => (g_name (pg_name sc_drawn.nd rfl (by first | exact Or.inl rfl | exact Or.inr rfl)) (by decide))) (fun _ _ _ _ _ => ts_nil) (fun _ _ _ _ _ => (e_if (t_cmp (op_inA hr.units) isInA_d (b_var (pv 9)) (b_var (pv 7))) (e_tup (a_cons (e_tup a_nil) (a_cons (e_tup (a_cons (e_dix hr.units (b_var (pv 7)) (b_var (pv 9))) a_nil)) a_nil))) (e_ix (b_var (pv 2)) (b_var (pv 9)))))))) aq_nil)) tuple_d)))
    (ss_one (st_mut (ps_expr (pe_bm PySem.F.plainAttrs_list PySem.F.slot_list_append PySem.F.type_list_append mt_append (pv 5) (a_cons (e_tup (a_cons (e_tup (a_cons (e_var (pv 1)) (a_cons (e_var (pv 10)) a_nil))) (a_cons (e_var (pv 8)) a_nil))) a_nil))) append_d append_l))) ss_nil))))))
    (ss_fz 5 (ss_one (st_ret (e_cb (pe_callTy call_tupleZ (by rfl) T.z_tuple bt_tuple (aq_cons (b_var (pv 5)) aq_nil)) tuple_d))))))))
theorem sc__law_plus : FnScope ["a", "b"] ["a", "b"] (defScope s__law_plus) := ⟨rfl, rfl, rfl, by decide +kernel, rfl, by decide +kernel, by decide +kernel⟩
def b__law_plus : Stm :=
    (sRet (eCall F__law_fraction (aCons (eBin D.add (eBin D.mul (eBin D.ix (bVar 0) (eC (.int 0))) (eBin D.ix (bVar 1) (eC (.int 1)))) (eBin D.mul (eBin D.ix (bVar 1) (eC (.int 0))) (eBin D.ix (bVar 0) (eC (.int 1))))) (aCons (eBin D.mul (eBin D.ix (bVar 0) (eC (.int 1))) (eBin D.ix (bVar 1) (eC (.int 1)))) aNil))))
def F__law_plus : Fn := fnD 2 b__law_plus
theorem ok__law_plus (T : Top K w P mg) : FnG P w K mg base 3 T.D__law_plus.f T.D__law_plus.d ["a", "b"] (spD ⟨K, w, P⟩ 2 F__law_plus) := fnG_ok T.D__law_plus.F sc__law_plus (by decide) fun cdv A outer s H E hG hr =>
    (ss_one (st_ret (e_call (pe_callG hG (ok__law_fraction T) (hr.mono (by decide)) (by rfl) T.D__law_fraction.m T.D__law_fraction.k T.D__law_fraction.b (a_cons (e_bin op_addD add_d (b_of (e_bin op_mulW mul_d (b_of (e_ix (b_var (pv 0)) (b_of e_int))) (b_of (e_ix (b_var (pv 1)) (b_of e_int))))) (b_of (e_bin op_mulW mul_d (b_of (e_ix (b_var (pv 1)) (b_of e_int))) (b_of (e_ix (b_var (pv 0)) (b_of e_int)))))) (a_cons (e_bin op_mulW mul_d (b_of (e_ix (b_var (pv 0)) (b_of e_int))) (b_of (e_ix (b_var (pv 1)) (b_of e_int)))) a_nil))) (alS (alS al0)))))
theorem sc__law_times : FnScope ["a", "b"] ["a", "b"] (defScope s__law_times) := ⟨rfl, rfl, rfl, by decide +kernel, rfl, by decide +kernel, by decide +kernel⟩
def b__law_times : Stm :=
    (sRet (eCall F__law_fraction (aCons (eBin D.mul (eBin D.ix (bVar 0) (eC (.int 0))) (eBin D.ix (bVar 1) (eC (.int 0)))) (aCons (eBin D.mul (eBin D.ix (bVar 0) (eC (.int 1))) (eBin D.ix (bVar 1) (eC (.int 1)))) aNil))))
def F__law_times : Fn := fnD 2 b__law_times
theorem ok__law_times (T : Top K w P mg) : FnG P w K mg base 3 T.D__law_times.f T.D__law_times.d ["a", "b"] (spD ⟨K, w, P⟩ 2 F__law_times) := fnG_ok T.D__law_times.F sc__law_times (by decide) fun cdv A outer s H E hG hr =>
    (ss_one (st_ret (e_call (pe_callG hG (ok__law_fraction T) (hr.mono (by decide)) (by rfl) T.D__law_fraction.m T.D__law_fraction.k T.D__law_fraction.b (a_cons (e_bin op_mulW mul_d (b_of (e_ix (b_var (pv 0)) (b_of e_int))) (b_of (e_ix (b_var (pv 1)) (b_of e_int)))) (a_cons (e_bin op_mulW mul_d (b_of (e_ix (b_var (pv 0)) (b_of e_int))) (b_of (e_ix (b_var (pv 1)) (b_of e_int)))) a_nil))) (alS (alS al0)))))
theorem sc__law_rule : FnScope ["c", "sizes", "v", "parents", "kind", "rows", "a", "row"] ["c", "sizes", "v"] (defScope s__law_rule) := ⟨rfl, rfl, rfl, by decide +kernel, rfl, by decide +kernel, by decide +kernel⟩
def b__law_rule : Stm :=
    (sSeq (sAsg (eCB gTuple (aCons (eLc (iRng (aCons (bVar 2) aNil)) (gNm 6) (tBl (eBin D.eq (eCall F__law_take (aCons (eVar 0) (aCons (eC (.int 2)) aNil))) (eC (.int 0)))) (eVar 6) [6]) aNil)) (gNm 3))
    (sSeq (sPar 4 5 (aCons (eCall F__law_take (aCons (eVar 0) (aCons (eC (.int 4)) aNil))) (aCons (eCall F__law_values (aCons (eLc (iSeq (bVar 3)) (gNm 6) tYs (eBin D.ix (bVar 1) (bVar 6)) [6]) aNil)) aNil)))
    (sSeq (sIf (tAn (tBl (eBin D.eq (bVar 4) (eC (.int 0)))) (tTru (bVar 3))) (sRet (eTup (aCons (eVar 3) (aCons (eCB gTuple (aCons (eLc (iSeq (bVar 5)) (gNm 7) tYs (eCB gMin2 (aCons (eCB gMaxA (aCons (bVar 7) aNil)) (aCons (eBin D.sub (eBin D.ix (bVar 1) (bVar 2)) (eC (.int 1))) aNil))) [7]) aNil)) aNil)))) sNx)
    (sSeq (sIf (tAn (tBl (eBin D.eq (bVar 4) (eC (.int 1)))) (tTru (bVar 3))) (sRet (eTup (aCons (eVar 3) (aCons (eCB gTuple (aCons (eLc (iSeq (bVar 5)) (gNm 7) tYs (eBin D.mod (eCB gSumA (aCons (bVar 7) aNil)) (eBin D.ix (bVar 1) (bVar 2))) [7]) aNil)) aNil)))) sNx)
    (sRet (eTup (aCons (eVar 3) (aCons (eCB gTuple (aCons (eLc (iSeq (bVar 5)) (gNm 7) tYs (eCall F__law_take (aCons (eVar 0) (aCons (eBin D.ix (bVar 1) (bVar 2)) aNil))) [7]) aNil)) aNil))))))))
def F__law_rule : Fn := fnD 8 b__law_rule
theorem ok__law_rule (T : Top K w P mg) : FnG P w K mg base 3 T.D__law_rule.f T.D__law_rule.d ["c", "sizes", "v"] (spD ⟨K, w, P⟩ 3 F__law_rule) := fnG_ok T.D__law_rule.F sc__law_rule (by decide) fun cdv A outer s H E hG hr =>
    (ss_cons (st_set (ps_set (i := 3) sc__law_rule.nd rfl (by first | exact Or.inl rfl | exact Or.inr rfl) (e_cb (pe_callTy call_tupleZ (by rfl) T.z_tuple bt_tuple (aq_cons (b_of (e_of (n_lc (own := [("a", 6)]) rfl sc__law_rule.nd (it_range1 (pi_range1 (by rfl) T.z_range (aq_cons (b_var (pv 2)) aq_nil)) (alS al0)) (blkOk_by (by kernel_rfl)) (fun _ _ _ _ _ => (g_name (pg_name sc__law_rule.nd rfl (by first | exact Or.inl rfl | exact Or.inr rfl)) (by decide))) (fun _ _ _ _ _ => (ts_one (t_cmp (op_eqP hr.units) eq_d (b_of (e_call (pe_callG hG (ok__law_take T) (hr.mono (by decide)) (by rfl) T.D__law_take.m T.D__law_take.k T.D__law_take.b (a_cons (e_var (pv 0)) (a_cons e_int a_nil))) (alS (alS al0)))) (b_of e_int)))) (fun _ _ _ _ _ => (e_var (pv 6)))))) aq_nil)) tuple_d)))
    (ss_cons (st_par (ps_par (i := 4) (j := 5) rfl sc__law_rule.nd rfl rfl (by decide) rfl rfl (a_cons (e_call (pe_callG hG (ok__law_take T) (hr.mono (by decide)) (by rfl) T.D__law_take.m T.D__law_take.k T.D__law_take.b (a_cons (e_var (pv 0)) (a_cons e_int a_nil))) (alS (alS al0))) (a_cons (e_call (pe_callG hG (ok__law_values T) (hr.mono (by decide)) (by rfl) T.D__law_values.m T.D__law_values.k T.D__law_values.b (a_cons (e_of (n_lc (own := [("a", 6)]) rfl sc__law_rule.nd (ib_seq (b_var (pv 3))) (blkOk_by (by kernel_rfl)) (fun _ _ _ _ _ => (g_name (pg_name sc__law_rule.nd rfl (by first | exact Or.inl rfl | exact Or.inr rfl)) (by decide))) (fun _ _ _ _ _ => ts_nil) (fun _ _ _ _ _ => (e_ix (b_var (pv 1)) (b_var (pv 6)))))) a_nil)) (alS al0)) a_nil)) (by rfl)))
    (ss_cons (st_if (PW.pt (tw_and (t_cmp (op_eqP hr.units) eq_d (b_var (pv 4)) (b_of e_int)) (tw_and1 (t_tru (b_var (pv 3)))))) (ss_one (st_ret (e_tup (a_cons (e_var (pv 3)) (a_cons (e_cb (pe_callTy call_tupleZ (by rfl) T.z_tuple bt_tuple (aq_cons (b_of (e_of (n_lc (own := [("row", 7)]) rfl sc__law_rule.nd (ib_seq (b_var (pv 5))) (blkOk_by (by kernel_rfl)) (fun _ _ _ _ _ => (g_name (pg_name sc__law_rule.nd rfl (by first | exact Or.inl rfl | exact Or.inr rfl)) (by decide))) (fun _ _ _ _ _ => ts_nil) (fun _ _ _ _ _ => (e_cb (pe_callB (call_min2 (by rfl)) (by rfl) T.z_min bt_min (aq_cons (b_of (e_cb (pe_callB (cr_maxA (by rfl)) (by rfl) T.z_max bt_max (aq_cons (b_var (pv 7)) aq_nil)) maxA_d)) (aq_cons (b_of (e_bin op_sub sub_d (b_of (e_ix (b_var (pv 1)) (b_var (pv 2)))) (b_of e_int))) aq_nil))) min2_d))))) aq_nil)) tuple_d) a_nil))))) ss_nil)
    (ss_cons (st_if (PW.pt (tw_and (t_cmp (op_eqP hr.units) eq_d (b_var (pv 4)) (b_of e_int)) (tw_and1 (t_tru (b_var (pv 3)))))) (ss_one (st_ret (e_tup (a_cons (e_var (pv 3)) (a_cons (e_cb (pe_callTy call_tupleZ (by rfl) T.z_tuple bt_tuple (aq_cons (b_of (e_of (n_lc (own := [("row", 7)]) rfl sc__law_rule.nd (ib_seq (b_var (pv 5))) (blkOk_by (by kernel_rfl)) (fun _ _ _ _ _ => (g_name (pg_name sc__law_rule.nd rfl (by first | exact Or.inl rfl | exact Or.inr rfl)) (by decide))) (fun _ _ _ _ _ => ts_nil) (fun _ _ _ _ _ => (e_bin op_modN mod_d (b_of (e_cb (pe_callB (cr_sumA (by rfl)) (by rfl) T.z_sum bt_sum (aq_cons (b_var (pv 7)) aq_nil)) sumA_d)) (b_of (e_ix (b_var (pv 1)) (b_var (pv 2))))))))) aq_nil)) tuple_d) a_nil))))) ss_nil)
    (ss_one (st_ret (e_tup (a_cons (e_var (pv 3)) (a_cons (e_cb (pe_callTy call_tupleZ (by rfl) T.z_tuple bt_tuple (aq_cons (b_of (e_of (n_lc (own := [("row", 7)]) rfl sc__law_rule.nd (ib_seq (b_var (pv 5))) (blkOk_by (by kernel_rfl)) (fun _ _ _ _ _ => (g_name (pg_name sc__law_rule.nd rfl (by first | exact Or.inl rfl | exact Or.inr rfl)) (by decide))) (fun _ _ _ _ _ => ts_nil) (fun _ _ _ _ _ => (e_call (pe_callG hG (ok__law_take T) (hr.mono (by decide)) (by rfl) T.D__law_take.m T.D__law_take.k T.D__law_take.b (a_cons (e_var (pv 0)) (a_cons (e_ix (b_var (pv 1)) (b_var (pv 2))) a_nil))) (alS (alS al0))))))) aq_nil)) tuple_d) a_nil)))))))))
theorem sc__law_deed : FnScope ["c", "sizes", "most", "barred", "found", "turn", "v"] ["c", "sizes", "most", "barred"] (defScope s__law_deed) := ⟨rfl, rfl, rfl, by decide +kernel, rfl, by decide +kernel, by decide +kernel⟩
def b__law_deed : Stm :=
    (sSeq (sDn false 4)
    (sSeq (sFor (iRng (aCons (eCall F__law_take (aCons (eVar 0) (aCons (eBin D.add (bVar 2) (eC (.int 1))) aNil))) aNil)) (gNm 5)
    (sSeq (sAsg (eCall F__law_take (aCons (eVar 0) (aCons (eCB gLen (aCons (bVar 1) aNil)) aNil))) (gNm 6))
    (sIf (tBl (eBin D.notInA (bVar 6) (bVar 3))) (sDnPut 4 (eCall F__law_take (aCons (eVar 0) (aCons (eBin D.ix (bVar 1) (bVar 6)) aNil))) (eVar 6)) sNx)))
    (sRet (eCB gTuple (aCons (eCB gSorted (aCons (eLc (iDn 4) (gNm 6) tYs (eTup (aCons (eVar 6) (aCons (eDnIx 4 (eVar 6)) aNil))) [6]) aNil)) aNil)))))
def F__law_deed : Fn := fnD 7 b__law_deed
theorem ok__law_deed (T : Top K w P mg) : FnG P w K mg base 3 T.D__law_deed.f T.D__law_deed.d ["c", "sizes", "most", "barred"] (spD ⟨K, w, P⟩ 4 F__law_deed) := fnG_ok T.D__law_deed.F sc__law_deed (by decide) fun cdv A outer s H E hG hr =>
    (ss_cons (st_dinew (ps_set (i := 4) sc__law_deed.nd rfl (by first | exact Or.inl rfl | exact Or.inr rfl) pe_dinew))
    (ss_cons (st_for (vs := [5]) PassesOwn.never rfl (it_range1 (pi_range1 (by rfl) T.z_range (aq_cons (b_of (e_call (pe_callG hG (ok__law_take T) (hr.mono (by decide)) (by rfl) T.D__law_take.m T.D__law_take.k T.D__law_take.b (a_cons (e_var (pv 0)) (a_cons (e_bin op_addD add_d (b_var (pv 2)) (b_of e_int)) a_nil))) (alS (alS al0)))) aq_nil)) (alS al0)) (g_name (pg_name sc__law_deed.nd rfl (by first | exact Or.inl rfl | exact Or.inr rfl)) (by decide))
    (ss_cons (st_set (ps_set (i := 6) sc__law_deed.nd rfl (by first | exact Or.inl rfl | exact Or.inr rfl) (e_call (pe_callG hG (ok__law_take T) (hr.mono (by decide)) (by rfl) T.D__law_take.m T.D__law_take.k T.D__law_take.b (a_cons (e_var (pv 0)) (a_cons (e_cb (pe_callB call_len (by rfl) T.z_len bt_len (aq_cons (b_var (pv 1)) aq_nil)) len_d) a_nil))) (alS (alS al0)))))
    (ss_one (st_if (t_cmp (op_notInA hr.units) notInA_d (b_var (pv 6)) (b_var (pv 3))) (ss_one (st_dnput hr.units (pv 4) (e_var (pv 6)) (e_call (pe_callG hG (ok__law_take T) (hr.mono (by decide)) (by rfl) T.D__law_take.m T.D__law_take.k T.D__law_take.b (a_cons (e_var (pv 0)) (a_cons (e_ix (b_var (pv 1)) (b_var (pv 6))) a_nil))) (alS (alS al0))))) ss_nil))))
    (ss_one (st_ret (e_cb (pe_callTy call_tupleZ (by rfl) T.z_tuple bt_tuple (aq_cons (b_of (e_of (n_cb (pe_callB (cr_sortedD hr.units) (by rfl) T.z_sorted bt_sorted (aq_cons (b_of (e_of (n_lc (own := [("v", 6)]) rfl sc__law_deed.nd (ib_dn (pv 4)) (blkOk_by (by kernel_rfl)) (fun _ _ _ _ _ => (g_name (pg_name sc__law_deed.nd rfl (by first | exact Or.inl rfl | exact Or.inr rfl)) (by decide))) (fun _ _ _ _ _ => ts_nil) (fun _ _ _ _ _ => (e_tup (a_cons (e_var (pv 6)) (a_cons (e_dnix hr.units (pv 4) (e_var (pv 6))) a_nil))))))) aq_nil)) sorted_f))) aq_nil)) tuple_d)))))
theorem sc_are_chances : FnScope ["size", "value", "one"] ["size", "value"] (defScope s_are_chances) := ⟨rfl, rfl, rfl, by decide +kernel, rfl, by decide +kernel, by decide +kernel⟩
def b_are_chances : Stm :=
    (sSeq (sIf (tOr (tNo (tTru (eCB gIsi (aCons (bVar 1) (aCons (eC (.ty "tuple")) aNil))))) (tOr (tBl (eBin D.ne (eCB gLen (aCons (bVar 1) aNil)) (bVar 0))) (tNo (tTru (eCB gAll (aCons (eLc (iSeq (bVar 1)) (gNm 2) tYs (eCall F_is_fraction (aCons (eVar 2) aNil)) [2]) aNil)))))) (sRet (eC (.bl false))) sNx)
    (sRet (eAn (eCB gAll (aCons (eLc (iSeq (bVar 1)) (gNm 2) tYs (eBin D.ge (eBin D.ix (bVar 2) (eC (.int 0))) (eC (.int 0))) [2]) aNil)) (eBin D.eq (eCall F_total (aCons (eVar 1) aNil)) (eC (.tup [.int 1, .int 1]))))))
def F_are_chances : Fn := fnD 3 b_are_chances
theorem ok_are_chances (T : Top K w P mg) : FnG P w K mg base 4 T.D_are_chances.f T.D_are_chances.d ["size", "value"] (spD ⟨K, w, P⟩ 2 F_are_chances) := fnG_ok T.D_are_chances.F sc_are_chances (by decide) fun cdv A outer s H E hG hr =>
    (ss_cons (st_if (PW.pt (tw_or (t_not (t_tru (b_of (e_cb (pe_callB call_isi (by rfl) T.z_isinstance bt_isinstance (aq_cons (b_var (pv 1)) (aq_cons (b_of (e_ty (by rfl) T.z_tuple bt_tuple)) aq_nil))) isi_d)))) (tw_or (t_cmp (op_neP hr.units) ne_d (b_of (e_cb (pe_callB call_len (by rfl) T.z_len bt_len (aq_cons (b_var (pv 1)) aq_nil)) len_d)) (b_var (pv 0))) (tw_or1 (t_not (t_tru (b_of (e_cb (pe_callB (cr_all (by rfl)) (by rfl) T.z_all bt_all (aq_cons (b_of (e_of (n_lc (own := [("one", 2)]) rfl sc_are_chances.nd (ib_seq (b_var (pv 1))) (blkOk_by (by kernel_rfl)) (fun _ _ _ _ _ => (g_name (pg_name sc_are_chances.nd rfl (by first | exact Or.inl rfl | exact Or.inr rfl)) (by decide))) (fun _ _ _ _ _ => ts_nil) (fun _ _ _ _ _ => (e_call (pe_callG hG (ok_is_fraction T) (hr.mono (by decide)) (by rfl) T.D_is_fraction.m T.D_is_fraction.k T.D_is_fraction.b (a_cons (e_var (pv 2)) a_nil)) (alS al0)))))) aq_nil)) all_d)))))))) (ss_one (st_ret e_bl)) ss_nil)
    (ss_one (st_ret (e_and (e_cb (pe_callB (cr_all (by rfl)) (by rfl) T.z_all bt_all (aq_cons (b_of (e_of (n_lc (own := [("one", 2)]) rfl sc_are_chances.nd (ib_seq (b_var (pv 1))) (blkOk_by (by kernel_rfl)) (fun _ _ _ _ _ => (g_name (pg_name sc_are_chances.nd rfl (by first | exact Or.inl rfl | exact Or.inr rfl)) (by decide))) (fun _ _ _ _ _ => ts_nil) (fun _ _ _ _ _ => (e_cmp op_ge ge_d (b_of (e_ix (b_var (pv 2)) (b_of e_int))) (b_of e_int)))))) aq_nil)) all_d) (e_one (e_cmp (op_eqP hr.units) eq_d (b_of (e_call (pe_callG hG (ok_total T) (hr.mono (by decide)) (by rfl) T.D_total.m T.D_total.k T.D_total.b (a_cons (e_var (pv 1)) a_nil)) (alS al0))) (b_of (e_glob T.c_ONE (by rfl)))))))))
theorem sc_done_world : FnScope ["lots", "deed", "found", "functions", "one", "row"] ["lots", "deed"] (defScope s_done_world) := ⟨rfl, rfl, rfl, by decide +kernel, rfl, by decide +kernel, by decide +kernel⟩
def b_done_world : Stm :=
    (sSeq (sDn true 2)
    (sSeq (sFor (iSeq (eCall F_drawn (aCons (eVar 0) aNil))) (gTp 2 (gsCons (gNm 3) (gsCons (gNm 4) gsNil)))
    (sSeq (sAsg (eCall F_values (aCons (eVar 3) (aCons (eVar 1) aNil))) (gNm 5))
    (sDnPut 2 (eCall F_plus (aCons (eDnGet2 2 (eVar 5) (eC (.tup [.int 0, .int 1]))) (aCons (eVar 4) aNil))) (eVar 5))))
    (sRet (eTup (aCons (eBin D.ix (bVar 0) (eC (.int 0))) (aCons (eCB gTuple (aCons (eLc (iSeq (eCall F_rows_of (aCons (eBin D.ix (bVar 0) (eC (.int 0))) aNil))) (gNm 5) tYs (eDnGet2 2 (eVar 5) (eC (.tup [.int 0, .int 1]))) [5]) aNil)) aNil))))))
def F_done_world : Fn := fnD 6 b_done_world
theorem ok_done_world (T : Top K w P mg) : FnG P w K mg base 4 T.D_done_world.f T.D_done_world.d ["lots", "deed"] (spD ⟨K, w, P⟩ 2 F_done_world) := fnG_ok T.D_done_world.F sc_done_world (by decide) fun cdv A outer s H E hG hr =>
    (ss_cons (st_dnew (ps_set (i := 2) sc_done_world.nd rfl (by first | exact Or.inl rfl | exact Or.inr rfl) pe_dnnew))
    (ss_cons (st_for (vs := [3, 4]) PassesOwn.never rfl (it_seq (e_call (pe_callG hG (ok_drawn T) (hr.mono (by decide)) (by rfl) T.D_drawn.m T.D_drawn.k T.D_drawn.b (a_cons (e_var (pv 0)) a_nil)) (alS al0))) (g_tup rfl (gs_cons (g_name (pg_name sc_done_world.nd rfl (by first | exact Or.inl rfl | exact Or.inr rfl)) (by decide)) (gs_cons (g_name (pg_name sc_done_world.nd rfl (by first | exact Or.inl rfl | exact Or.inr rfl)) (by decide)) gs_nil)))
    (ss_cons (st_set (ps_set (i := 5) sc_done_world.nd rfl (by first | exact Or.inl rfl | exact Or.inr rfl) (e_call (pe_callG hG (ok_values T) (hr.mono (by decide)) (by rfl) T.D_values.m T.D_values.k T.D_values.b (a_cons (e_var (pv 3)) (a_cons (e_var (pv 1)) a_nil))) (alS (alS al0)))))
    (ss_one (st_dnput hr.units (pv 2) (e_var (pv 5)) (e_call (pe_callG hG (ok_plus T) (hr.mono (by decide)) (by rfl) T.D_plus.m T.D_plus.k T.D_plus.b (a_cons (e_dnget2 hr.units (pv 2) (e_var (pv 5)) (e_glob T.c_ZERO (by rfl)) ⟨rfl, rfl, rfl, rfl⟩) (a_cons (e_var (pv 4)) a_nil))) (alS (alS al0)))))))
    (ss_one (st_ret (e_tup (a_cons (e_ix (b_var (pv 0)) (b_of e_int)) (a_cons (e_cb (pe_callTy call_tupleZ (by rfl) T.z_tuple bt_tuple (aq_cons (b_of (e_of (n_lc (own := [("row", 5)]) rfl sc_done_world.nd (ib_seq (b_of (e_call (pe_callG hG (ok_rows_of T) (hr.mono (by decide)) (by rfl) T.D_rows_of.m T.D_rows_of.k T.D_rows_of.b (a_cons (e_ix (b_var (pv 0)) (b_of e_int)) a_nil)) (alS al0)))) (blkOk_by (by kernel_rfl)) (fun _ _ _ _ _ => (g_name (pg_name sc_done_world.nd rfl (by first | exact Or.inl rfl | exact Or.inr rfl)) (by decide))) (fun _ _ _ _ _ => ts_nil) (fun _ _ _ _ _ => (e_dnget2 hr.units (pv 2) (e_var (pv 5)) (e_glob T.c_ZERO (by rfl)) ⟨rfl, rfl, rfl, rfl⟩))))) aq_nil)) tuple_d) a_nil)))))))
theorem sc_twins : FnScope ["lots", "deed", "found", "functions", "one", "pair"] ["lots", "deed"] (defScope s_twins) := ⟨rfl, rfl, rfl, by decide +kernel, rfl, by decide +kernel, by decide +kernel⟩
def b_twins : Stm :=
    (sSeq (sDn true 2)
    (sSeq (sFor (iSeq (eCall F_drawn (aCons (eVar 0) aNil))) (gTp 2 (gsCons (gNm 3) (gsCons (gNm 4) gsNil)))
    (sSeq (sAsg (eTup (aCons (eCall F_values (aCons (eVar 3) (aCons (eTup aNil) aNil))) (aCons (eCall F_values (aCons (eVar 3) (aCons (eVar 1) aNil))) aNil))) (gNm 5))
    (sDnPut 2 (eCall F_plus (aCons (eDnGet2 2 (eVar 5) (eC (.tup [.int 0, .int 1]))) (aCons (eVar 4) aNil))) (eVar 5))))
    (sRet (eCB gTuple (aCons (eLc (iSeq (eDnSort 2)) (gNm 5) tYs (eBin D.add (bVar 5) (eTup (aCons (eDnIx 2 (eVar 5)) aNil))) [5]) aNil)))))
def F_twins : Fn := fnD 6 b_twins
theorem ok_twins (T : Top K w P mg) : FnG P w K mg base 4 T.D_twins.f T.D_twins.d ["lots", "deed"] (spD ⟨K, w, P⟩ 2 F_twins) := fnG_ok T.D_twins.F sc_twins (by decide) fun cdv A outer s H E hG hr =>
    (ss_cons (st_dnew (ps_set (i := 2) sc_twins.nd rfl (by first | exact Or.inl rfl | exact Or.inr rfl) pe_dnnew))
    (ss_cons (st_for (vs := [3, 4]) PassesOwn.never rfl (it_seq (e_call (pe_callG hG (ok_drawn T) (hr.mono (by decide)) (by rfl) T.D_drawn.m T.D_drawn.k T.D_drawn.b (a_cons (e_var (pv 0)) a_nil)) (alS al0))) (g_tup rfl (gs_cons (g_name (pg_name sc_twins.nd rfl (by first | exact Or.inl rfl | exact Or.inr rfl)) (by decide)) (gs_cons (g_name (pg_name sc_twins.nd rfl (by first | exact Or.inl rfl | exact Or.inr rfl)) (by decide)) gs_nil)))
    (ss_cons (st_set (ps_set (i := 5) sc_twins.nd rfl (by first | exact Or.inl rfl | exact Or.inr rfl) (e_tup (a_cons (e_call (pe_callG hG (ok_values T) (hr.mono (by decide)) (by rfl) T.D_values.m T.D_values.k T.D_values.b (a_cons (e_var (pv 3)) (a_cons (e_tup a_nil) a_nil))) (alS (alS al0))) (a_cons (e_call (pe_callG hG (ok_values T) (hr.mono (by decide)) (by rfl) T.D_values.m T.D_values.k T.D_values.b (a_cons (e_var (pv 3)) (a_cons (e_var (pv 1)) a_nil))) (alS (alS al0))) a_nil)))))
    (ss_one (st_dnput hr.units (pv 2) (e_var (pv 5)) (e_call (pe_callG hG (ok_plus T) (hr.mono (by decide)) (by rfl) T.D_plus.m T.D_plus.k T.D_plus.b (a_cons (e_dnget2 hr.units (pv 2) (e_var (pv 5)) (e_glob T.c_ZERO (by rfl)) ⟨rfl, rfl, rfl, rfl⟩) (a_cons (e_var (pv 4)) a_nil))) (alS (alS al0)))))))
    (ss_one (st_ret (e_cb (pe_callTy call_tupleZ (by rfl) T.z_tuple bt_tuple (aq_cons (b_of (e_of (n_lc (own := [("pair", 5)]) rfl sc_twins.nd (ib_seq (b_of (e_of (n_dnsort (pe_callB (cr_sortedN (by rfl) hr.units) (by rfl) T.z_sorted bt_sorted (pa_cons (pv 2) pa_nil)))))) (blkOk_by (by kernel_rfl)) (fun _ _ _ _ _ => (g_name (pg_name sc_twins.nd rfl (by first | exact Or.inl rfl | exact Or.inr rfl)) (by decide))) (fun _ _ _ _ _ => ts_nil) (fun _ _ _ _ _ => (e_bin op_addD add_d (b_var (pv 5)) (b_of (e_tup (a_cons (e_dnix hr.units (pv 2) (e_var (pv 5))) a_nil)))))))) aq_nil)) tuple_d)))))
theorem sc_both : FnScope ["lots", "x", "y", "found", "functions", "one"] ["lots", "x", "y"] (defScope s_both) := ⟨rfl, rfl, rfl, by decide +kernel, rfl, by decide +kernel, by decide +kernel⟩
def b_both : Stm :=
    (sSeq (sAsg (eC (.tup [.int 0, .int 1])) (gNm 3))
    (sSeq (sFor (iSeq (eCall F_drawn (aCons (eVar 0) aNil))) (gTp 2 (gsCons (gNm 4) (gsCons (gNm 5) gsNil)))
    (sIf (tAn (tBl (eBin D.eq (eBin D.ix (eCall F_values (aCons (eVar 4) (aCons (eTup (aCons (eTup (aCons (eVar 1) (aCons (eC (.int 1)) aNil))) aNil)) aNil))) (bVar 2)) (eC (.int 1)))) (tBl (eBin D.eq (eBin D.ix (eCall F_values (aCons (eVar 4) (aCons (eTup (aCons (eTup (aCons (eVar 1) (aCons (eC (.int 0)) aNil))) aNil)) aNil))) (bVar 2)) (eC (.int 0))))) (sAsg (eCall F_plus (aCons (eVar 3) (aCons (eVar 5) aNil))) (gNm 3)) sNx))
    (sRet (eVar 3))))
def F_both : Fn := fnD 6 b_both
theorem ok_both (T : Top K w P mg) : FnG P w K mg base 4 T.D_both.f T.D_both.d ["lots", "x", "y"] (spD ⟨K, w, P⟩ 3 F_both) := fnG_ok T.D_both.F sc_both (by decide) fun cdv A outer s H E hG hr =>
    (ss_cons (st_set (ps_set (i := 3) sc_both.nd rfl (by first | exact Or.inl rfl | exact Or.inr rfl) (e_glob T.c_ZERO (by rfl))))
    (ss_cons (st_for (vs := [4, 5]) PassesOwn.never rfl (it_seq (e_call (pe_callG hG (ok_drawn T) (hr.mono (by decide)) (by rfl) T.D_drawn.m T.D_drawn.k T.D_drawn.b (a_cons (e_var (pv 0)) a_nil)) (alS al0))) (g_tup rfl (gs_cons (g_name (pg_name sc_both.nd rfl (by first | exact Or.inl rfl | exact Or.inr rfl)) (by decide)) (gs_cons (g_name (pg_name sc_both.nd rfl (by first | exact Or.inl rfl | exact Or.inr rfl)) (by decide)) gs_nil)))
    (ss_one (st_if (PW.pt (tw_and (t_cmp (op_eqP hr.units) eq_d (b_of (e_ix (b_of (e_call (pe_callG hG (ok_values T) (hr.mono (by decide)) (by rfl) T.D_values.m T.D_values.k T.D_values.b (a_cons (e_var (pv 4)) (a_cons (e_tup (a_cons (e_tup (a_cons (e_var (pv 1)) (a_cons e_int a_nil))) a_nil)) a_nil))) (alS (alS al0)))) (b_var (pv 2)))) (b_of e_int)) (tw_and1 (t_cmp (op_eqP hr.units) eq_d (b_of (e_ix (b_of (e_call (pe_callG hG (ok_values T) (hr.mono (by decide)) (by rfl) T.D_values.m T.D_values.k T.D_values.b (a_cons (e_var (pv 4)) (a_cons (e_tup (a_cons (e_tup (a_cons (e_var (pv 1)) (a_cons e_int a_nil))) a_nil)) a_nil))) (alS (alS al0)))) (b_var (pv 2)))) (b_of e_int))))) (ss_one (st_set (ps_set (i := 3) sc_both.nd rfl (by first | exact Or.inl rfl | exact Or.inr rfl) (e_call (pe_callG hG (ok_plus T) (hr.mono (by decide)) (by rfl) T.D_plus.m T.D_plus.k T.D_plus.b (a_cons (e_var (pv 3)) (a_cons (e_var (pv 5)) a_nil))) (alS (alS al0)))))) ss_nil)))
    (ss_one (st_ret (e_var (pv 3))))))
theorem sc__law_total : FnScope ["row", "found", "one"] ["row"] (defScope s__law_total) := ⟨rfl, rfl, rfl, by decide +kernel, rfl, by decide +kernel, by decide +kernel⟩
def b__law_total : Stm :=
    (sSeq (sAsg (eTup (aCons (eC (.int 0)) (aCons (eC (.int 1)) aNil))) (gNm 1))
    (sSeq (sFor (iSeq (eVar 0)) (gNm 2)
    (sAsg (eCall F__law_plus (aCons (eVar 1) (aCons (eVar 2) aNil))) (gNm 1)))
    (sRet (eVar 1))))
def F__law_total : Fn := fnD 3 b__law_total
theorem ok__law_total (T : Top K w P mg) : FnG P w K mg base 4 T.D__law_total.f T.D__law_total.d ["row"] (spD ⟨K, w, P⟩ 1 F__law_total) := fnG_ok T.D__law_total.F sc__law_total (by decide) fun cdv A outer s H E hG hr =>
    (ss_cons (st_set (ps_set (i := 1) sc__law_total.nd rfl (by first | exact Or.inl rfl | exact Or.inr rfl) (e_tup (a_cons e_int (a_cons e_int a_nil)))))
    (ss_cons (st_for (vs := [2]) PassesOwn.never rfl (it_seq (e_var (pv 0))) (g_name (pg_name sc__law_total.nd rfl (by first | exact Or.inl rfl | exact Or.inr rfl)) (by decide))
    (ss_one (st_set (ps_set (i := 1) sc__law_total.nd rfl (by first | exact Or.inl rfl | exact Or.inr rfl) (e_call (pe_callG hG (ok__law_plus T) (hr.mono (by decide)) (by rfl) T.D__law_plus.m T.D__law_plus.k T.D__law_plus.b (a_cons (e_var (pv 1)) (a_cons (e_var (pv 2)) a_nil))) (alS (alS al0)))))))
    (ss_one (st_ret (e_var (pv 1))))))
theorem sc__law_lots : FnScope ["c", "sizes", "rules", "lots", "v", "weights", "rule", "x"] ["c"] (defScope s__law_lots) := ⟨rfl, rfl, rfl, by decide +kernel, rfl, by decide +kernel, by decide +kernel⟩
def b__law_lots : Stm :=
    (sSeq (sAsg (eCB gTuple (aCons (eLc (iRng (aCons (eBin D.add (eC (.int 2)) (eCall F__law_take (aCons (eVar 0) (aCons (eC (.int 3)) aNil)))) aNil)) (gNm 4) tYs (eBin D.add (eC (.int 2)) (eCB gInt (aCons (eBin D.eq (eCall F__law_take (aCons (eVar 0) (aCons (eC (.int 4)) aNil))) (eC (.int 0))) aNil))) [4]) aNil)) (gNm 1))
    (sSeq (sParFF 2 3 (eLst aNil) (eLst aNil))
    (sSeq (sFor (iRng (aCons (eCB gLen (aCons (bVar 1) aNil)) aNil)) (gNm 4)
    (sIf (tOr (tBl (eBin D.eq (bVar 4) (eC (.int 0)))) (tAn (tBl (eBin D.eq (eCall F__law_take (aCons (eVar 0) (aCons (eC (.int 3)) aNil))) (eC (.int 0)))) (tBl (eBin D.lt (eCB gSumA (aCons (eLc (iSeq (bVar 2)) (gNm 6) tYs (eCB gInt (aCons (eBin D.isN (bVar 6) (eC .non)) aNil)) [6]) aNil)) (eC (.int 3)))))) (sSeq (sOwn (eLc (iRng (aCons (eBin D.ix (bVar 1) (bVar 4)) aNil)) (gNm 7) tYs (eBin D.ix (eLst (aCons (eC (.int 1)) (aCons (eC (.int 0)) (aCons (eC (.int 2)) (aCons (eC (.int 1)) aNil))))) (eCall F__law_take (aCons (eVar 0) (aCons (eC (.int 4)) aNil)))) [7]) 5)
    (sSeq (sSetIx 5 (eBin D.add (eBin D.ix (bVar 5) (eC (.int 0))) (eCB gInt (aCons (eBin D.eq (eCB gSumA (aCons (bVar 5) aNil)) (eC (.int 0))) aNil))) (eC (.int 0)))
    (sSeq (sMut gAppend 2 (aCons (eC .non) aNil))
    (sMut gAppend 3 (aCons (eCB gTuple (aCons (eLc (iSeq (bVar 5)) (gNm 7) tYs (eCall F__law_fraction (aCons (eVar 7) (aCons (eCB gSumA (aCons (bVar 5) aNil)) aNil))) [7]) aNil)) aNil))))) (sSeq (sMut gAppend 2 (aCons (eCall F__law_rule (aCons (eVar 0) (aCons (eVar 1) (aCons (eVar 4) aNil)))) aNil))
    (sMut gAppend 3 (aCons (eC .non) aNil)))))
    (sFz 2 (sFz 3 (sRet (eTup (aCons (eVar 1) (aCons (eCB gTuple (aCons (bVar 2) aNil)) (aCons (eCB gTuple (aCons (bVar 3) aNil)) aNil))))))))))
def F__law_lots : Fn := fnD 8 b__law_lots
theorem ok__law_lots (T : Top K w P mg) : FnG P w K mg base 4 T.D__law_lots.f T.D__law_lots.d ["c"] (spD ⟨K, w, P⟩ 1 F__law_lots) := fnG_ok T.D__law_lots.F sc__law_lots (by decide) fun cdv A outer s H E hG hr =>
    (ss_cons (st_set (ps_set (i := 1) sc__law_lots.nd rfl (by first | exact Or.inl rfl | exact Or.inr rfl) (e_cb (pe_callTy call_tupleZ (by rfl) T.z_tuple bt_tuple (aq_cons (b_of (e_of (n_lc (own := [("v", 4)]) rfl sc__law_lots.nd (it_range1 (pi_range1 (by rfl) T.z_range (aq_cons (b_of (e_bin op_addD add_d (b_of e_int) (b_of (e_call (pe_callG hG (ok__law_take T) (hr.mono (by decide)) (by rfl) T.D__law_take.m T.D__law_take.k T.D__law_take.b (a_cons (e_var (pv 0)) (a_cons e_int a_nil))) (alS (alS al0)))))) aq_nil)) (alS al0)) (blkOk_by (by kernel_rfl)) (fun _ _ _ _ _ => (g_name (pg_name sc__law_lots.nd rfl (by first | exact Or.inl rfl | exact Or.inr rfl)) (by decide))) (fun _ _ _ _ _ => ts_nil) (fun _ _ _ _ _ => (e_bin op_addD add_d (b_of e_int) (b_of (e_cb (pe_callTy call_int1 (by rfl) T.z_int bt_int (aq_cons (b_of (e_cmp (op_eqP hr.units) eq_d (b_of (e_call (pe_callG hG (ok__law_take T) (hr.mono (by decide)) (by rfl) T.D__law_take.m T.D__law_take.k T.D__law_take.b (a_cons (e_var (pv 0)) (a_cons e_int a_nil))) (alS (alS al0)))) (b_of e_int))) aq_nil)) int_c))))))) aq_nil)) tuple_d)))
    (ss_cons (st_parFF (by decide) (ps_par (i := 2) (j := 3) rfl sc__law_lots.nd rfl rfl (by decide) rfl rfl (pa_cons (n_lst a_nil) (pa_cons (n_lst a_nil) pa_nil)) (by rfl)))
    (ss_cons (st_for (vs := [4]) PassesOwn.never rfl (it_range1 (pi_range1 (by rfl) T.z_range (aq_cons (b_of (e_cb (pe_callB call_len (by rfl) T.z_len bt_len (aq_cons (b_var (pv 1)) aq_nil)) len_d)) aq_nil)) (alS al0)) (g_name (pg_name sc__law_lots.nd rfl (by first | exact Or.inl rfl | exact Or.inr rfl)) (by decide))
    (ss_one (st_if (PW.pt (tw_or (t_cmp (op_eqP hr.units) eq_d (b_var (pv 4)) (b_of e_int)) (tw_or1 (PW.pt (tw_and (t_cmp (op_eqP hr.units) eq_d (b_of (e_call (pe_callG hG (ok__law_take T) (hr.mono (by decide)) (by rfl) T.D__law_take.m T.D__law_take.k T.D__law_take.b (a_cons (e_var (pv 0)) (a_cons e_int a_nil))) (alS (alS al0)))) (b_of e_int)) (tw_and1 (t_cmp op_lt lt_d (b_of (e_cb (pe_callB (cr_sumA (by rfl)) (by rfl) T.z_sum bt_sum (aq_cons (b_of (e_of (n_lc (own := [("rule", 6)]) rfl sc__law_lots.nd (ib_seq (b_var (pv 2))) (blkOk_by (by kernel_rfl)) (fun _ _ _ _ _ => (g_name (pg_name sc__law_lots.nd rfl (by first | exact Or.inl rfl | exact Or.inr rfl)) (by decide))) (fun _ _ _ _ _ => ts_nil) (fun _ _ _ _ _ => (e_cb (pe_callTy call_int1 (by rfl) T.z_int bt_int (aq_cons (b_of (e_cmp op_isN isN_d (b_var (pv 6)) (b_of e_non))) aq_nil)) int_c))))) aq_nil)) sumA_d)) (b_of e_int)))))))) (ss_cons (st_own (ps_set (i := 5) sc__law_lots.nd rfl (by first | exact Or.inl rfl | exact Or.inr rfl) (n_lc (own := [("x", 7)]) rfl sc__law_lots.nd (it_range1 (pi_range1 (by rfl) T.z_range (aq_cons (b_of (e_ix (b_var (pv 1)) (b_var (pv 4)))) aq_nil)) (alS al0)) (blkOk_by (by kernel_rfl)) (fun _ _ _ _ _ => (g_name (pg_name sc__law_lots.nd rfl (by first | exact Or.inl rfl | exact Or.inr rfl)) (by decide))) (fun _ _ _ _ _ => ts_nil) (fun _ _ _ _ _ => (e_ix (b_of (e_of (n_lst (a_cons e_int (a_cons e_int (a_cons e_int (a_cons e_int a_nil))))))) (b_of (e_call (pe_callG hG (ok__law_take T) (hr.mono (by decide)) (by rfl) T.D__law_take.m T.D__law_take.k T.D__law_take.b (a_cons (e_var (pv 0)) (a_cons e_int a_nil))) (alS (alS al0)))))))))
    (ss_cons (st_setIx (ps_asg (e_bin op_addD add_d (b_of (e_ix (b_var (pv 5)) (b_of e_int))) (b_of (e_cb (pe_callTy call_int1 (by rfl) T.z_int bt_int (aq_cons (b_of (e_cmp (op_eqP hr.units) eq_d (b_of (e_cb (pe_callB (cr_sumA (by rfl)) (by rfl) T.z_sum bt_sum (aq_cons (b_var (pv 5)) aq_nil)) sumA_d)) (b_of e_int))) aq_nil)) int_c))) (pg_sub (pv 5) (b_of e_int) set_list)))
    (ss_cons (st_mut (ps_expr (pe_bm PySem.F.plainAttrs_list PySem.F.slot_list_append PySem.F.type_list_append mt_append (pv 2) (a_cons e_non a_nil))) append_d append_l)
    (ss_one (st_mut (ps_expr (pe_bm PySem.F.plainAttrs_list PySem.F.slot_list_append PySem.F.type_list_append mt_append (pv 3) (a_cons (e_cb (pe_callTy call_tupleZ (by rfl) T.z_tuple bt_tuple (aq_cons (b_of (e_of (n_lc (own := [("x", 7)]) rfl sc__law_lots.nd (ib_seq (b_var (pv 5))) (blkOk_by (by kernel_rfl)) (fun _ _ _ _ _ => (g_name (pg_name sc__law_lots.nd rfl (by first | exact Or.inl rfl | exact Or.inr rfl)) (by decide))) (fun _ _ _ _ _ => ts_nil) (fun _ _ _ _ _ => (e_call (pe_callG hG (ok__law_fraction T) (hr.mono (by decide)) (by rfl) T.D__law_fraction.m T.D__law_fraction.k T.D__law_fraction.b (a_cons (e_var (pv 7)) (a_cons (e_cb (pe_callB (cr_sumA (by rfl)) (by rfl) T.z_sum bt_sum (aq_cons (b_var (pv 5)) aq_nil)) sumA_d) a_nil))) (alS (alS al0))))))) aq_nil)) tuple_d) a_nil))) append_d append_l))))) (ss_cons (st_mut (ps_expr (pe_bm PySem.F.plainAttrs_list PySem.F.slot_list_append PySem.F.type_list_append mt_append (pv 2) (a_cons (e_call (pe_callG hG (ok__law_rule T) (hr.mono (by decide)) (by rfl) T.D__law_rule.m T.D__law_rule.k T.D__law_rule.b (a_cons (e_var (pv 0)) (a_cons (e_var (pv 1)) (a_cons (e_var (pv 4)) a_nil)))) (alS (alS (alS al0)))) a_nil))) append_d append_l)
    (ss_one (st_mut (ps_expr (pe_bm PySem.F.plainAttrs_list PySem.F.slot_list_append PySem.F.type_list_append mt_append (pv 3) (a_cons e_non a_nil))) append_d append_l))))))
    (ss_fz 2 (ss_fz 3 (ss_one (st_ret (e_tup (a_cons (e_var (pv 1)) (a_cons (e_cb (pe_callTy call_tupleZ (by rfl) T.z_tuple bt_tuple (aq_cons (b_var (pv 2)) aq_nil)) tuple_d) (a_cons (e_cb (pe_callTy call_tupleZ (by rfl) T.z_tuple bt_tuple (aq_cons (b_var (pv 3)) aq_nil)) tuple_d) a_nil)))))))))))
theorem sc__law_drawn : FnScope ["all_lots", "sizes", "rules", "lots", "free", "found", "row", "share", "own", "k", "v"] ["all_lots"] (defScope s__law_drawn) := ⟨rfl, rfl, rfl, by decide +kernel, rfl, by decide +kernel, by decide +kernel⟩
def b__law_drawn : Stm :=
    (sSeq (sAsg (eVar 0) (gTp 3 (gsCons (gNm 1) (gsCons (gNm 2) (gsCons (gNm 3) gsNil)))))
    (sSeq (sAsg (eLc (iRng (aCons (eCB gLen (aCons (bVar 1) aNil)) aNil)) (gNm 10) (tBl (eBin D.isN (eBin D.ix (bVar 2) (bVar 10)) (eC .non))) (eVar 10) [10]) (gNm 4))
    (sSeq (sOwn (eLst aNil) 5)
    (sSeq (sFor (iSeq (eCall F__law_values (aCons (eLc (iSeq (bVar 4)) (gNm 10) tYs (eBin D.ix (bVar 1) (bVar 10)) [10]) aNil))) (gNm 6)
    (sSeq (sParDF 7 8 (eTup (aCons (eC (.int 1)) (aCons (eC (.int 1)) aNil))) (eCB gList (aCons (bVar 2) aNil)))
    (sSeq (sFor (iRng (aCons (eCB gLen (aCons (bVar 4) aNil)) aNil)) (gNm 9)
    (sSeq (sAsg (eCall F__law_times (aCons (eVar 7) (aCons (eBin D.ix (eBin D.ix (bVar 3) (eBin D.ix (bVar 4) (bVar 9))) (eBin D.ix (bVar 6) (bVar 9))) aNil))) (gNm 7))
    (sSetIx 8 (eTup (aCons (eTup aNil) (aCons (eTup (aCons (eBin D.ix (bVar 6) (bVar 9)) aNil)) aNil))) (eBin D.ix (bVar 4) (bVar 9)))))
    (sIf (tBl (eBin D.gt (eBin D.ix (bVar 7) (eC (.int 0))) (eC (.int 0)))) (sMut gAppend 5 (aCons (eTup (aCons (eTup (aCons (eVar 1) (aCons (eCB gTuple (aCons (bVar 8) aNil)) aNil))) (aCons (eVar 7) aNil))) aNil)) sNx))))
    (sFz 5 (sRet (eVar 5)))))))
def F__law_drawn : Fn := fnD 11 b__law_drawn
theorem ok__law_drawn (T : Top K w P mg) : FnG P w K mg base 4 T.D__law_drawn.f T.D__law_drawn.d ["all_lots"] (spD ⟨K, w, P⟩ 1 F__law_drawn) := fnG_ok T.D__law_drawn.F sc__law_drawn (by decide) fun cdv A outer s H E hG hr =>
    (ss_cons (st_asg (vs := [1, 2, 3]) (ps_asg (e_var (pv 0)) (g_tup rfl (gs_cons (g_name (pg_name sc__law_drawn.nd rfl (by first | exact Or.inl rfl | exact Or.inr rfl)) (by decide)) (gs_cons (g_name (pg_name sc__law_drawn.nd rfl (by first | exact Or.inl rfl | exact Or.inr rfl)) (by decide)) (gs_cons (g_name (pg_name sc__law_drawn.nd rfl (by first | exact Or.inl rfl | exact Or.inr rfl)) (by decide)) gs_nil))))))
    (ss_cons (st_set (asg_imp (ps_setLc (i := 4) (own := [("v", 10)]) rfl sc__law_drawn.nd rfl rfl (by rfl) (it_range1 (pi_range1 (by rfl) T.z_range (aq_cons (b_of (e_cb (pe_callB call_len (by rfl) T.z_len bt_len (aq_cons (b_var (pv 1)) aq_nil)) len_d)) aq_nil)) (alS al0)) (blkOk_by (by kernel_rfl)) (fun _ _ _ _ _ => (g_name (pg_name sc__law_drawn.nd rfl (by first | exact Or.inl rfl | exact Or.inr rfl)) (by decide))) (fun _ _ _ _ _ => (ts_one (t_cmp op_isN isN_d (b_of (e_ix (b_var (pv 2)) (b_var (pv 10)))) (b_of e_non)))) (fun _ _ _ _ _ => (e_var (pv 10)))) fun _ _ _ h => lc_f (tF_D h)))
    (ss_cons (st_own (ps_set (i := 5) sc__law_drawn.nd rfl (by first | exact Or.inl rfl | exact Or.inr rfl) (n_lst a_nil)))
    (ss_cons (st_for (vs := [6]) PassesOwn.never rfl (it_seq (e_call (pe_callG hG (ok__law_values T) (hr.mono (by decide)) (by rfl) T.D__law_values.m T.D__law_values.k T.D__law_values.b (a_cons (e_of (n_lc (own := [("v", 10)]) rfl sc__law_drawn.nd (ib_seq (b_var (pv 4))) (blkOk_by (by kernel_rfl)) (fun _ _ _ _ _ => (g_name (pg_name sc__law_drawn.nd rfl (by first | exact Or.inl rfl | exact Or.inr rfl)) (by decide))) (fun _ _ _ _ _ => ts_nil) (fun _ _ _ _ _ => (e_ix (b_var (pv 1)) (b_var (pv 10)))))) a_nil)) (alS al0))) (g_name (pg_name sc__law_drawn.nd rfl (by first | exact Or.inl rfl | exact Or.inr rfl)) (by decide))
    (ss_cons (st_parDF (ps_par (i := 7) (j := 8) rfl sc__law_drawn.nd rfl rfl (by decide) rfl rfl (pa_cons (e_tup (a_cons e_int (a_cons e_int a_nil))) (pa_cons (n_cb (pe_callTy call_list_of (by rfl) T.z_list bt_list (aq_cons (b_var (pv 2)) aq_nil)) list_f) pa_nil)) (by rfl)))
    (ss_cons (st_for (vs := [9]) PassesOwn.never rfl (it_range1 (pi_range1 (by rfl) T.z_range (aq_cons (b_of (e_cb (pe_callB call_len (by rfl) T.z_len bt_len (aq_cons (b_var (pv 4)) aq_nil)) len_d)) aq_nil)) (alS al0)) (g_name (pg_name sc__law_drawn.nd rfl (by first | exact Or.inl rfl | exact Or.inr rfl)) (by decide))
    (ss_cons (st_set (ps_set (i := 7) sc__law_drawn.nd rfl (by first | exact Or.inl rfl | exact Or.inr rfl) (e_call (pe_callG hG (ok__law_times T) (hr.mono (by decide)) (by rfl) T.D__law_times.m T.D__law_times.k T.D__law_times.b (a_cons (e_var (pv 7)) (a_cons (e_ix (b_of (e_ix (b_var (pv 3)) (b_of (e_ix (b_var (pv 4)) (b_var (pv 9)))))) (b_of (e_ix (b_var (pv 6)) (b_var (pv 9))))) a_nil))) (alS (alS al0)))))
    (ss_one (st_setIx (ps_asg (e_tup (a_cons (e_tup a_nil) (a_cons (e_tup (a_cons (e_ix (b_var (pv 6)) (b_var (pv 9))) a_nil)) a_nil))) (pg_sub (pv 8) (b_of (e_ix (b_var (pv 4)) (b_var (pv 9)))) set_list))))))
    (ss_one (st_if (t_cmp op_gt gt_d (b_of (e_ix (b_var (pv 7)) (b_of e_int))) (b_of e_int)) (ss_one (st_mut (ps_expr (pe_bm PySem.F.plainAttrs_list PySem.F.slot_list_append PySem.F.type_list_append mt_append (pv 5) (a_cons (e_tup (a_cons (e_tup (a_cons (e_var (pv 1)) (a_cons (e_cb (pe_callTy call_tupleZ (by rfl) T.z_tuple bt_tuple (aq_cons (b_var (pv 8)) aq_nil)) tuple_d) a_nil))) (a_cons (e_var (pv 7)) a_nil))) a_nil))) append_d append_l)) ss_nil)))))
    (ss_fz 5 (ss_one (st_ret (e_var (pv 5)))))))))
theorem sc_are_lots : FnScope ["value", "sizes", "rules", "lots", "many", "v", "size"] ["value"] (defScope s_are_lots) := ⟨rfl, rfl, rfl, by decide +kernel, rfl, by decide +kernel, by decide +kernel⟩
def b_are_lots : Stm :=
    (sSeq (sIf (tOr (tNo (tTru (eCB gIsi (aCons (bVar 0) (aCons (eC (.ty "tuple")) aNil))))) (tOr (tBl (eBin D.ne (eCB gLen (aCons (bVar 0) aNil)) (eC (.int 3)))) (tNo (tTru (eCall F_are_sizes (aCons (eBin D.ix (bVar 0) (eC (.int 0))) aNil)))))) (sRet (eC (.bl false))) sNx)
    (sSeq (sAsg (eVar 0) (gTp 3 (gsCons (gNm 1) (gsCons (gNm 2) (gsCons (gNm 3) gsNil)))))
    (sSeq (sIf (tOr (tNo (tTru (eCB gIsi (aCons (bVar 2) (aCons (eC (.ty "tuple")) aNil))))) (tOr (tNo (tTru (eCB gIsi (aCons (bVar 3) (aCons (eC (.ty "tuple")) aNil))))) (tNo (tBl (eChain D.eq D.eq (eCB gLen (aCons (bVar 2) aNil)) (eCB gLen (aCons (bVar 3) aNil)) (eCB gLen (aCons (bVar 1) aNil))))))) (sRet (eC (.bl false))) sNx)
    (sSeq (sAsg (eC (.int 1)) (gNm 4))
    (sSeq (sFor (iEn (aCons (eVar 1) aNil)) (gTp 2 (gsCons (gNm 5) (gsCons (gNm 6) gsNil)))
    (sIf (tBl (eBin D.isN (eBin D.ix (bVar 2) (bVar 5)) (eC .non))) (sSeq (sAug D.imul 4 (bVar 6))
    (sIf (tNo (tTru (eCall F_are_chances (aCons (eVar 6) (aCons (eBin D.ix (bVar 3) (bVar 5)) aNil))))) (sRet (eC (.bl false))) sNx)) (sIf (tOr (tBl (eBin D.notN (eBin D.ix (bVar 3) (bVar 5)) (eC .non))) (tNo (tTru (eCall F_is_rule (aCons (eVar 1) (aCons (eVar 5) (aCons (eBin D.ix (bVar 2) (bVar 5)) aNil))))))) (sRet (eC (.bl false))) sNx)))
    (sRet (eBin D.le (bVar 4) (eC (.int 128)))))))))
def F_are_lots : Fn := fnD 7 b_are_lots
theorem ok_are_lots (T : Top K w P mg) : FnG P w K mg base 5 T.D_are_lots.f T.D_are_lots.d ["value"] (spD ⟨K, w, P⟩ 1 F_are_lots) := fnG_ok T.D_are_lots.F sc_are_lots (by decide) fun cdv A outer s H E hG hr =>
    (ss_cons (st_if (PW.pt (tw_or (t_not (t_tru (b_of (e_cb (pe_callB call_isi (by rfl) T.z_isinstance bt_isinstance (aq_cons (b_var (pv 0)) (aq_cons (b_of (e_ty (by rfl) T.z_tuple bt_tuple)) aq_nil))) isi_d)))) (tw_or (t_cmp (op_neP hr.units) ne_d (b_of (e_cb (pe_callB call_len (by rfl) T.z_len bt_len (aq_cons (b_var (pv 0)) aq_nil)) len_d)) (b_of e_int)) (tw_or1 (t_not (t_tru (b_of (e_call (pe_callG hG (ok_are_sizes T) (hr.mono (by decide)) (by rfl) T.D_are_sizes.m T.D_are_sizes.k T.D_are_sizes.b (a_cons (e_ix (b_var (pv 0)) (b_of e_int)) a_nil)) (alS al0))))))))) (ss_one (st_ret e_bl)) ss_nil)
    (ss_cons (st_asg (vs := [1, 2, 3]) (ps_asg (e_var (pv 0)) (g_tup rfl (gs_cons (g_name (pg_name sc_are_lots.nd rfl (by first | exact Or.inl rfl | exact Or.inr rfl)) (by decide)) (gs_cons (g_name (pg_name sc_are_lots.nd rfl (by first | exact Or.inl rfl | exact Or.inr rfl)) (by decide)) (gs_cons (g_name (pg_name sc_are_lots.nd rfl (by first | exact Or.inl rfl | exact Or.inr rfl)) (by decide)) gs_nil))))))
    (ss_cons (st_if (PW.pt (tw_or (t_not (t_tru (b_of (e_cb (pe_callB call_isi (by rfl) T.z_isinstance bt_isinstance (aq_cons (b_var (pv 2)) (aq_cons (b_of (e_ty (by rfl) T.z_tuple bt_tuple)) aq_nil))) isi_d)))) (tw_or (t_not (t_tru (b_of (e_cb (pe_callB call_isi (by rfl) T.z_isinstance bt_isinstance (aq_cons (b_var (pv 3)) (aq_cons (b_of (e_ty (by rfl) T.z_tuple bt_tuple)) aq_nil))) isi_d)))) (tw_or1 (t_not (t_chain (op_eqP hr.units) eq_d (op_eqP hr.units) eq_d (b_of (e_cb (pe_callB call_len (by rfl) T.z_len bt_len (aq_cons (b_var (pv 2)) aq_nil)) len_d)) (b_of (e_cb (pe_callB call_len (by rfl) T.z_len bt_len (aq_cons (b_var (pv 3)) aq_nil)) len_d)) (b_of (e_cb (pe_callB call_len (by rfl) T.z_len bt_len (aq_cons (b_var (pv 1)) aq_nil)) len_d)))))))) (ss_one (st_ret e_bl)) ss_nil)
    (ss_cons (st_set (ps_set (i := 4) sc_are_lots.nd rfl (by first | exact Or.inl rfl | exact Or.inr rfl) e_int))
    (ss_cons (st_for (vs := [5, 6]) PassesOwn.never rfl (it_enum (pi_enumTZ (by rfl) T.z_enumerate (a_cons (e_var (pv 1)) a_nil))) (g_tup rfl (gs_cons (g_name (pg_name sc_are_lots.nd rfl (by first | exact Or.inl rfl | exact Or.inr rfl)) (by decide)) (gs_cons (g_name (pg_name sc_are_lots.nd rfl (by first | exact Or.inl rfl | exact Or.inr rfl)) (by decide)) gs_nil)))
    (ss_one (st_if (t_cmp op_isN isN_d (b_of (e_ix (b_var (pv 2)) (b_var (pv 5)))) (b_of e_non)) (ss_cons (st_aug (ps_aug (i := 4) sc_are_lots.nd rfl (by first | exact Or.inl rfl | exact Or.inr rfl) (b_var (pv 6)) iop_mul) imul_d)
    (ss_one (st_if (t_not (t_tru (b_of (e_call (pe_callG hG (ok_are_chances T) (hr.mono (by decide)) (by rfl) T.D_are_chances.m T.D_are_chances.k T.D_are_chances.b (a_cons (e_var (pv 6)) (a_cons (e_ix (b_var (pv 3)) (b_var (pv 5))) a_nil))) (alS (alS al0)))))) (ss_one (st_ret e_bl)) ss_nil))) (ss_one (st_if (PW.pt (tw_or (t_cmp op_notN notN_d (b_of (e_ix (b_var (pv 3)) (b_var (pv 5)))) (b_of e_non)) (tw_or1 (t_not (t_tru (b_of (e_call (pe_callG hG (ok_is_rule T) (hr.mono (by decide)) (by rfl) T.D_is_rule.m T.D_is_rule.k T.D_is_rule.b (a_cons (e_var (pv 1)) (a_cons (e_var (pv 5)) (a_cons (e_ix (b_var (pv 2)) (b_var (pv 5))) a_nil)))) (alS (alS (alS al0)))))))))) (ss_one (st_ret e_bl)) ss_nil)))))
    (ss_one (st_ret (e_cmp op_le le_d (b_var (pv 4)) (b_of (e_glob T.c_MOST_ROWS (by rfl)))))))))))
theorem sc_seen_world : FnScope ["lots"] ["lots"] (defScope s_seen_world) := ⟨rfl, rfl, rfl, by decide +kernel, rfl, by decide +kernel, by decide +kernel⟩
def b_seen_world : Stm :=
    (sRet (eCall F_done_world (aCons (eVar 0) (aCons (eTup aNil) aNil))))
def F_seen_world : Fn := fnD 1 b_seen_world
theorem ok_seen_world (T : Top K w P mg) : FnG P w K mg base 5 T.D_seen_world.f T.D_seen_world.d ["lots"] (spD ⟨K, w, P⟩ 1 F_seen_world) := fnG_ok T.D_seen_world.F sc_seen_world (by decide) fun cdv A outer s H E hG hr =>
    (ss_one (st_ret (e_call (pe_callG hG (ok_done_world T) (hr.mono (by decide)) (by rfl) T.D_done_world.m T.D_done_world.k T.D_done_world.b (a_cons (e_var (pv 0)) (a_cons (e_tup a_nil) a_nil))) (alS (alS al0)))))
theorem sc_would : FnScope ["lots", "seen", "deed", "event", "rows", "below", "row"] ["lots", "seen", "deed", "event"] (defScope s_would) := ⟨rfl, rfl, rfl, by decide +kernel, rfl, by decide +kernel, by decide +kernel⟩
def b_would : Stm :=
    (sSeq (sAsg (eLc (iSeq (eCall F_twins (aCons (eVar 0) (aCons (eVar 2) aNil)))) (gNm 6) (tTru (eCall F_fits (aCons (eBin D.ix (bVar 6) (eC (.int 0))) (aCons (eVar 1) aNil)))) (eVar 6) [6]) (gNm 4))
    (sSeq (sAsg (eCall F_total (aCons (eLc (iSeq (bVar 4)) (gNm 6) tYs (eBin D.ix (bVar 6) (eC (.int 2))) [6]) aNil)) (gNm 5))
    (sSeq (sIf (tBl (eBin D.eq (eBin D.ix (bVar 5) (eC (.int 0))) (eC (.int 0)))) (sRet (eC .non)) sNx)
    (sRet (eCall F_over (aCons (eCall F_total (aCons (eLc (iSeq (bVar 4)) (gNm 6) (tTru (eCall F_fits (aCons (eBin D.ix (bVar 6) (eC (.int 1))) (aCons (eVar 3) aNil)))) (eBin D.ix (bVar 6) (eC (.int 2))) [6]) aNil)) (aCons (eVar 5) aNil)))))))
def F_would : Fn := fnD 7 b_would
theorem ok_would (T : Top K w P mg) : FnG P w K mg base 5 T.D_would.f T.D_would.d ["lots", "seen", "deed", "event"] (spD ⟨K, w, P⟩ 4 F_would) := fnG_ok T.D_would.F sc_would (by decide) fun cdv A outer s H E hG hr =>
    (ss_cons (st_set (asg_imp (ps_setLc (i := 4) (own := [("row", 6)]) rfl sc_would.nd rfl rfl (by rfl) (ib_seq (b_of (e_call (pe_callG hG (ok_twins T) (hr.mono (by decide)) (by rfl) T.D_twins.m T.D_twins.k T.D_twins.b (a_cons (e_var (pv 0)) (a_cons (e_var (pv 2)) a_nil))) (alS (alS al0))))) (blkOk_by (by kernel_rfl)) (fun _ _ _ _ _ => (g_name (pg_name sc_would.nd rfl (by first | exact Or.inl rfl | exact Or.inr rfl)) (by decide))) (fun _ _ _ _ _ => (ts_one (t_tru (b_of (e_call (pe_callG hG (ok_fits T) (hr.mono (by decide)) (by rfl) T.D_fits.m T.D_fits.k T.D_fits.b (a_cons (e_ix (b_var (pv 6)) (b_of e_int)) (a_cons (e_var (pv 1)) a_nil))) (alS (alS al0))))))) (fun _ _ _ _ _ => (e_var (pv 6)))) fun _ _ _ h => lc_f (tF_D h)))
    (ss_cons (st_set (ps_set (i := 5) sc_would.nd rfl (by first | exact Or.inl rfl | exact Or.inr rfl) (e_call (pe_callG hG (ok_total T) (hr.mono (by decide)) (by rfl) T.D_total.m T.D_total.k T.D_total.b (a_cons (e_of (n_lc (own := [("row", 6)]) rfl sc_would.nd (ib_seq (b_var (pv 4))) (blkOk_by (by kernel_rfl)) (fun _ _ _ _ _ => (g_name (pg_name sc_would.nd rfl (by first | exact Or.inl rfl | exact Or.inr rfl)) (by decide))) (fun _ _ _ _ _ => ts_nil) (fun _ _ _ _ _ => (e_ix (b_var (pv 6)) (b_of e_int))))) a_nil)) (alS al0))))
    (ss_cons (st_if (t_cmp (op_eqP hr.units) eq_d (b_of (e_ix (b_var (pv 5)) (b_of e_int))) (b_of e_int)) (ss_one (st_ret e_non)) ss_nil)
    (ss_one (st_ret (e_call (pe_callG hG (ok_over T) (hr.mono (by decide)) (by rfl) T.D_over.m T.D_over.k T.D_over.b (a_cons (e_call (pe_callG hG (ok_total T) (hr.mono (by decide)) (by rfl) T.D_total.m T.D_total.k T.D_total.b (a_cons (e_of (n_lc (own := [("row", 6)]) rfl sc_would.nd (ib_seq (b_var (pv 4))) (blkOk_by (by kernel_rfl)) (fun _ _ _ _ _ => (g_name (pg_name sc_would.nd rfl (by first | exact Or.inl rfl | exact Or.inr rfl)) (by decide))) (fun _ _ _ _ _ => (ts_one (t_tru (b_of (e_call (pe_callG hG (ok_fits T) (hr.mono (by decide)) (by rfl) T.D_fits.m T.D_fits.k T.D_fits.b (a_cons (e_ix (b_var (pv 6)) (b_of e_int)) (a_cons (e_var (pv 3)) a_nil))) (alS (alS al0))))))) (fun _ _ _ _ _ => (e_ix (b_var (pv 6)) (b_of e_int))))) a_nil)) (alS al0)) (a_cons (e_var (pv 5)) a_nil))) (alS (alS al0))))))))
theorem sc__law_world : FnScope ["all_lots", "deed", "rows", "table", "row", "functions", "share", "other"] ["all_lots", "deed"] (defScope s__law_world) := ⟨rfl, rfl, rfl, by decide +kernel, rfl, by decide +kernel, by decide +kernel⟩
def b__law_world : Stm :=
    (sSeq (sAsg (eLc (iSeq (eCall F__law_drawn (aCons (eVar 0) aNil))) (gTp 2 (gsCons (gNm 5) (gsCons (gNm 6) gsNil))) tYs (eTup (aCons (eCall F__law_run (aCons (eVar 5) (aCons (eVar 1) aNil))) (aCons (eVar 6) aNil))) [5, 6]) (gNm 2))
    (sSeq (sOwn (eLst aNil) 3)
    (sSeq (sFor (iSeq (eCall F__law_values (aCons (eBin D.ix (bVar 0) (eC (.int 0))) aNil))) (gNm 4)
    (sMut gAppend 3 (aCons (eCall F__law_total (aCons (eLc (iSeq (bVar 2)) (gTp 2 (gsCons (gNm 7) (gsCons (gNm 6) gsNil))) (tBl (eBin D.eq (bVar 7) (bVar 4))) (eVar 6) [7, 6]) aNil)) aNil)))
    (sFz 3 (sRet (eTup (aCons (eBin D.ix (bVar 0) (eC (.int 0))) (aCons (eCB gTuple (aCons (bVar 3) aNil)) aNil))))))))
def F__law_world : Fn := fnD 8 b__law_world
theorem ok__law_world (T : Top K w P mg) : FnG P w K mg base 5 T.D__law_world.f T.D__law_world.d ["all_lots", "deed"] (spD ⟨K, w, P⟩ 2 F__law_world) := fnG_ok T.D__law_world.F sc__law_world (by decide) fun cdv A outer s H E hG hr =>
    (ss_cons (st_set (asg_imp (ps_setLc (i := 2) (own := [("functions", 5), ("share", 6)]) rfl sc__law_world.nd rfl rfl (by rfl) (ib_seq (b_of (e_call (pe_callG hG (ok__law_drawn T) (hr.mono (by decide)) (by rfl) T.D__law_drawn.m T.D__law_drawn.k T.D__law_drawn.b (a_cons (e_var (pv 0)) a_nil)) (alS al0)))) (blkOk_by (by kernel_rfl)) (fun _ _ _ _ _ => (g_tup rfl (gs_cons (g_name (pg_name sc__law_world.nd rfl (by first | exact Or.inl rfl | exact Or.inr rfl)) (by decide)) (gs_cons (g_name (pg_name sc__law_world.nd rfl (by first | exact Or.inl rfl | exact Or.inr rfl)) (by decide)) gs_nil)))) (fun _ _ _ _ _ => ts_nil) (fun _ _ _ _ _ => (e_tup (a_cons (e_call (pe_callG hG (ok__law_run T) (hr.mono (by decide)) (by rfl) T.D__law_run.m T.D__law_run.k T.D__law_run.b (a_cons (e_var (pv 5)) (a_cons (e_var (pv 1)) a_nil))) (alS (alS al0))) (a_cons (e_var (pv 6)) a_nil))))) fun _ _ _ h => lc_f (tF_D h)))
    (ss_cons (st_own (ps_set (i := 3) sc__law_world.nd rfl (by first | exact Or.inl rfl | exact Or.inr rfl) (n_lst a_nil)))
    (ss_cons (st_for (vs := [4]) PassesOwn.never rfl (it_seq (e_call (pe_callG hG (ok__law_values T) (hr.mono (by decide)) (by rfl) T.D__law_values.m T.D__law_values.k T.D__law_values.b (a_cons (e_ix (b_var (pv 0)) (b_of e_int)) a_nil)) (alS al0))) (g_name (pg_name sc__law_world.nd rfl (by first | exact Or.inl rfl | exact Or.inr rfl)) (by decide))
    (ss_one (st_mut (ps_expr (pe_bm PySem.F.plainAttrs_list PySem.F.slot_list_append PySem.F.type_list_append mt_append (pv 3) (a_cons (e_call (pe_callG hG (ok__law_total T) (hr.mono (by decide)) (by rfl) T.D__law_total.m T.D__law_total.k T.D__law_total.b (a_cons (e_of (n_lc (own := [("other", 7), ("share", 6)]) rfl sc__law_world.nd (ib_seq (b_var (pv 2))) (blkOk_by (by kernel_rfl)) (fun _ _ _ _ _ => (g_tup rfl (gs_cons (g_name (pg_name sc__law_world.nd rfl (by first | exact Or.inl rfl | exact Or.inr rfl)) (by decide)) (gs_cons (g_name (pg_name sc__law_world.nd rfl (by first | exact Or.inl rfl | exact Or.inr rfl)) (by decide)) gs_nil)))) (fun _ _ _ _ _ => (ts_one (t_cmp (op_eqP hr.units) eq_d (b_var (pv 7)) (b_var (pv 4))))) (fun _ _ _ _ _ => (e_var (pv 6))))) a_nil)) (alS al0)) a_nil))) append_d append_l)))
    (ss_fz 3 (ss_one (st_ret (e_tup (a_cons (e_ix (b_var (pv 0)) (b_of e_int)) (a_cons (e_cb (pe_callTy call_tupleZ (by rfl) T.z_tuple bt_tuple (aq_cons (b_var (pv 3)) aq_nil)) tuple_d) a_nil)))))))))
theorem sc__law_pairs : FnScope ["all_lots", "deed", "functions", "share"] ["all_lots", "deed"] (defScope s__law_pairs) := ⟨rfl, rfl, rfl, by decide +kernel, rfl, by decide +kernel, by decide +kernel⟩
def b__law_pairs : Stm :=
    (sRet (eLc (iSeq (eCall F__law_drawn (aCons (eVar 0) aNil))) (gTp 2 (gsCons (gNm 2) (gsCons (gNm 3) gsNil))) tYs (eTup (aCons (eCall F__law_run (aCons (eVar 2) (aCons (eTup aNil) aNil))) (aCons (eCall F__law_run (aCons (eVar 2) (aCons (eVar 1) aNil))) (aCons (eVar 3) aNil)))) [2, 3]))
def F__law_pairs : Fn := fnD 4 b__law_pairs
theorem ok__law_pairs (T : Top K w P mg) : FnG P w K mg base 5 T.D__law_pairs.f T.D__law_pairs.d ["all_lots", "deed"] (spD ⟨K, w, P⟩ 2 F__law_pairs) := fnG_ok T.D__law_pairs.F sc__law_pairs (by decide) fun cdv A outer s H E hG hr =>
    (ss_one (st_ret (e_of (n_lc (own := [("functions", 2), ("share", 3)]) rfl sc__law_pairs.nd (ib_seq (b_of (e_call (pe_callG hG (ok__law_drawn T) (hr.mono (by decide)) (by rfl) T.D__law_drawn.m T.D__law_drawn.k T.D__law_drawn.b (a_cons (e_var (pv 0)) a_nil)) (alS al0)))) (blkOk_by (by kernel_rfl)) (fun _ _ _ _ _ => (g_tup rfl (gs_cons (g_name (pg_name sc__law_pairs.nd rfl (by first | exact Or.inl rfl | exact Or.inr rfl)) (by decide)) (gs_cons (g_name (pg_name sc__law_pairs.nd rfl (by first | exact Or.inl rfl | exact Or.inr rfl)) (by decide)) gs_nil)))) (fun _ _ _ _ _ => ts_nil) (fun _ _ _ _ _ => (e_tup (a_cons (e_call (pe_callG hG (ok__law_run T) (hr.mono (by decide)) (by rfl) T.D__law_run.m T.D__law_run.k T.D__law_run.b (a_cons (e_var (pv 2)) (a_cons (e_tup a_nil) a_nil))) (alS (alS al0))) (a_cons (e_call (pe_callG hG (ok__law_run T) (hr.mono (by decide)) (by rfl) T.D__law_run.m T.D__law_run.k T.D__law_run.b (a_cons (e_var (pv 2)) (a_cons (e_var (pv 1)) a_nil))) (alS (alS al0))) (a_cons (e_var (pv 3)) a_nil)))))))))
theorem sc_necessity : FnScope ["lots", "x", "y"] ["lots", "x", "y"] (defScope s_necessity) := ⟨rfl, rfl, rfl, by decide +kernel, rfl, by decide +kernel, by decide +kernel⟩
def b_necessity : Stm :=
    (sRet (eCall F_would (aCons (eVar 0) (aCons (eTup (aCons (eTup (aCons (eVar 1) (aCons (eC (.int 1)) aNil))) (aCons (eTup (aCons (eVar 2) (aCons (eC (.int 1)) aNil))) aNil))) (aCons (eTup (aCons (eTup (aCons (eVar 1) (aCons (eC (.int 0)) aNil))) aNil)) (aCons (eTup (aCons (eTup (aCons (eVar 2) (aCons (eC (.int 0)) aNil))) aNil)) aNil))))))
def F_necessity : Fn := fnD 3 b_necessity
theorem ok_necessity (T : Top K w P mg) : FnG P w K mg base 6 T.D_necessity.f T.D_necessity.d ["lots", "x", "y"] (spD ⟨K, w, P⟩ 3 F_necessity) := fnG_ok T.D_necessity.F sc_necessity (by decide) fun cdv A outer s H E hG hr =>
    (ss_one (st_ret (e_call (pe_callG hG (ok_would T) (hr.mono (by decide)) (by rfl) T.D_would.m T.D_would.k T.D_would.b (a_cons (e_var (pv 0)) (a_cons (e_tup (a_cons (e_tup (a_cons (e_var (pv 1)) (a_cons e_int a_nil))) (a_cons (e_tup (a_cons (e_var (pv 2)) (a_cons e_int a_nil))) a_nil))) (a_cons (e_tup (a_cons (e_tup (a_cons (e_var (pv 1)) (a_cons e_int a_nil))) a_nil)) (a_cons (e_tup (a_cons (e_tup (a_cons (e_var (pv 2)) (a_cons e_int a_nil))) a_nil)) a_nil))))) (alS (alS (alS (alS al0)))))))
theorem sc_sufficiency : FnScope ["lots", "x", "y"] ["lots", "x", "y"] (defScope s_sufficiency) := ⟨rfl, rfl, rfl, by decide +kernel, rfl, by decide +kernel, by decide +kernel⟩
def b_sufficiency : Stm :=
    (sRet (eCall F_would (aCons (eVar 0) (aCons (eTup (aCons (eTup (aCons (eVar 1) (aCons (eC (.int 0)) aNil))) (aCons (eTup (aCons (eVar 2) (aCons (eC (.int 0)) aNil))) aNil))) (aCons (eTup (aCons (eTup (aCons (eVar 1) (aCons (eC (.int 1)) aNil))) aNil)) (aCons (eTup (aCons (eTup (aCons (eVar 2) (aCons (eC (.int 1)) aNil))) aNil)) aNil))))))
def F_sufficiency : Fn := fnD 3 b_sufficiency
theorem ok_sufficiency (T : Top K w P mg) : FnG P w K mg base 6 T.D_sufficiency.f T.D_sufficiency.d ["lots", "x", "y"] (spD ⟨K, w, P⟩ 3 F_sufficiency) := fnG_ok T.D_sufficiency.F sc_sufficiency (by decide) fun cdv A outer s H E hG hr =>
    (ss_one (st_ret (e_call (pe_callG hG (ok_would T) (hr.mono (by decide)) (by rfl) T.D_would.m T.D_would.k T.D_would.b (a_cons (e_var (pv 0)) (a_cons (e_tup (a_cons (e_tup (a_cons (e_var (pv 1)) (a_cons e_int a_nil))) (a_cons (e_tup (a_cons (e_var (pv 2)) (a_cons e_int a_nil))) a_nil))) (a_cons (e_tup (a_cons (e_tup (a_cons (e_var (pv 1)) (a_cons e_int a_nil))) a_nil)) (a_cons (e_tup (a_cons (e_tup (a_cons (e_var (pv 2)) (a_cons e_int a_nil))) a_nil)) a_nil))))) (alS (alS (alS (alS al0)))))))
theorem sc__law_would : FnScope ["all_lots", "seen", "deed", "event", "pairs", "below", "above", "one", "row", "other", "share"] ["all_lots", "seen", "deed", "event"] (defScope s__law_would) := ⟨rfl, rfl, rfl, by decide +kernel, rfl, by decide +kernel, by decide +kernel⟩
def b__law_would : Stm :=
    (sSeq (sAsg (eLc (iSeq (eCall F__law_pairs (aCons (eVar 0) (aCons (eVar 2) aNil)))) (gNm 7) (tTru (eCall F__law_has (aCons (eBin D.ix (bVar 7) (eC (.int 0))) (aCons (eVar 1) aNil)))) (eVar 7) [7]) (gNm 4))
    (sSeq (sAsg (eCall F__law_total (aCons (eLc (iSeq (bVar 4)) (gTp 3 (gsCons (gNm 8) (gsCons (gNm 9) (gsCons (gNm 10) gsNil)))) tYs (eVar 10) [8, 9, 10]) aNil)) (gNm 5))
    (sSeq (sIf (tBl (eBin D.eq (eBin D.ix (bVar 5) (eC (.int 0))) (eC (.int 0)))) (sRet (eC .non)) sNx)
    (sSeq (sAsg (eCall F__law_total (aCons (eLc (iSeq (bVar 4)) (gTp 3 (gsCons (gNm 8) (gsCons (gNm 9) (gsCons (gNm 10) gsNil)))) (tTru (eCall F__law_has (aCons (eVar 9) (aCons (eVar 3) aNil)))) (eVar 10) [8, 9, 10]) aNil)) (gNm 6))
    (sRet (eCall F__law_fraction (aCons (eBin D.mul (eBin D.ix (bVar 6) (eC (.int 0))) (eBin D.ix (bVar 5) (eC (.int 1)))) (aCons (eBin D.mul (eBin D.ix (bVar 6) (eC (.int 1))) (eBin D.ix (bVar 5) (eC (.int 0)))) aNil))))))))
def F__law_would : Fn := fnD 11 b__law_would
theorem ok__law_would (T : Top K w P mg) : FnG P w K mg base 6 T.D__law_would.f T.D__law_would.d ["all_lots", "seen", "deed", "event"] (spD ⟨K, w, P⟩ 4 F__law_would) := fnG_ok T.D__law_would.F sc__law_would (by decide) fun cdv A outer s H E hG hr =>
    (ss_cons (st_set (asg_imp (ps_setLc (i := 4) (own := [("one", 7)]) rfl sc__law_would.nd rfl rfl (by rfl) (ib_seq (b_of (e_call (pe_callG hG (ok__law_pairs T) (hr.mono (by decide)) (by rfl) T.D__law_pairs.m T.D__law_pairs.k T.D__law_pairs.b (a_cons (e_var (pv 0)) (a_cons (e_var (pv 2)) a_nil))) (alS (alS al0))))) (blkOk_by (by kernel_rfl)) (fun _ _ _ _ _ => (g_name (pg_name sc__law_would.nd rfl (by first | exact Or.inl rfl | exact Or.inr rfl)) (by decide))) (fun _ _ _ _ _ => (ts_one (t_tru (b_of (e_call (pe_callG hG (ok__law_has T) (hr.mono (by decide)) (by rfl) T.D__law_has.m T.D__law_has.k T.D__law_has.b (a_cons (e_ix (b_var (pv 7)) (b_of e_int)) (a_cons (e_var (pv 1)) a_nil))) (alS (alS al0))))))) (fun _ _ _ _ _ => (e_var (pv 7)))) fun _ _ _ h => lc_f (tF_D h)))
    (ss_cons (st_set (ps_set (i := 5) sc__law_would.nd rfl (by first | exact Or.inl rfl | exact Or.inr rfl) (e_call (pe_callG hG (ok__law_total T) (hr.mono (by decide)) (by rfl) T.D__law_total.m T.D__law_total.k T.D__law_total.b (a_cons (e_of (n_lc (own := [("row", 8), ("other", 9), ("share", 10)]) rfl sc__law_would.nd (ib_seq (b_var (pv 4))) (blkOk_by (by kernel_rfl)) (fun _ _ _ _ _ => (g_tup rfl (gs_cons (g_name (pg_name sc__law_would.nd rfl (by first | exact Or.inl rfl | exact Or.inr rfl)) (by decide)) (gs_cons (g_name (pg_name sc__law_would.nd rfl (by first | exact Or.inl rfl | exact Or.inr rfl)) (by decide)) (gs_cons (g_name (pg_name sc__law_would.nd rfl (by first | exact Or.inl rfl | exact Or.inr rfl)) (by decide)) gs_nil))))) (fun _ _ _ _ _ => ts_nil) (fun _ _ _ _ _ => (e_var (pv 10))))) a_nil)) (alS al0))))
    (ss_cons (st_if (t_cmp (op_eqP hr.units) eq_d (b_of (e_ix (b_var (pv 5)) (b_of e_int))) (b_of e_int)) (ss_one (st_ret e_non)) ss_nil)
    (ss_cons (st_set (ps_set (i := 6) sc__law_would.nd rfl (by first | exact Or.inl rfl | exact Or.inr rfl) (e_call (pe_callG hG (ok__law_total T) (hr.mono (by decide)) (by rfl) T.D__law_total.m T.D__law_total.k T.D__law_total.b (a_cons (e_of (n_lc (own := [("row", 8), ("other", 9), ("share", 10)]) rfl sc__law_would.nd (ib_seq (b_var (pv 4))) (blkOk_by (by kernel_rfl)) (fun _ _ _ _ _ => (g_tup rfl (gs_cons (g_name (pg_name sc__law_would.nd rfl (by first | exact Or.inl rfl | exact Or.inr rfl)) (by decide)) (gs_cons (g_name (pg_name sc__law_would.nd rfl (by first | exact Or.inl rfl | exact Or.inr rfl)) (by decide)) (gs_cons (g_name (pg_name sc__law_would.nd rfl (by first | exact Or.inl rfl | exact Or.inr rfl)) (by decide)) gs_nil))))) (fun _ _ _ _ _ => (ts_one (t_tru (b_of (e_call (pe_callG hG (ok__law_has T) (hr.mono (by decide)) (by rfl) T.D__law_has.m T.D__law_has.k T.D__law_has.b (a_cons (e_var (pv 9)) (a_cons (e_var (pv 3)) a_nil))) (alS (alS al0))))))) (fun _ _ _ _ _ => (e_var (pv 10))))) a_nil)) (alS al0))))
    (ss_one (st_ret (e_call (pe_callG hG (ok__law_fraction T) (hr.mono (by decide)) (by rfl) T.D__law_fraction.m T.D__law_fraction.k T.D__law_fraction.b (a_cons (e_bin op_mulW mul_d (b_of (e_ix (b_var (pv 6)) (b_of e_int))) (b_of (e_ix (b_var (pv 5)) (b_of e_int)))) (a_cons (e_bin op_mulW mul_d (b_of (e_ix (b_var (pv 6)) (b_of e_int))) (b_of (e_ix (b_var (pv 5)) (b_of e_int)))) a_nil))) (alS (alS al0)))))))))
theorem sc__law_two : FnScope ["all_lots", "x", "y", "need", "enough", "share", "functions", "one"] ["all_lots", "x", "y"] (defScope s__law_two) := ⟨rfl, rfl, rfl, by decide +kernel, rfl, by decide +kernel, by decide +kernel⟩
def b__law_two : Stm :=
    (sSeq (sAsg (eCall F__law_would (aCons (eVar 0) (aCons (eTup (aCons (eTup (aCons (eVar 1) (aCons (eC (.int 1)) aNil))) (aCons (eTup (aCons (eVar 2) (aCons (eC (.int 1)) aNil))) aNil))) (aCons (eTup (aCons (eTup (aCons (eVar 1) (aCons (eC (.int 0)) aNil))) aNil)) (aCons (eTup (aCons (eTup (aCons (eVar 2) (aCons (eC (.int 0)) aNil))) aNil)) aNil))))) (gNm 3))
    (sSeq (sAsg (eCall F__law_would (aCons (eVar 0) (aCons (eTup (aCons (eTup (aCons (eVar 1) (aCons (eC (.int 0)) aNil))) (aCons (eTup (aCons (eVar 2) (aCons (eC (.int 0)) aNil))) aNil))) (aCons (eTup (aCons (eTup (aCons (eVar 1) (aCons (eC (.int 1)) aNil))) aNil)) (aCons (eTup (aCons (eTup (aCons (eVar 2) (aCons (eC (.int 1)) aNil))) aNil)) aNil))))) (gNm 4))
    (sSeq (sOwn (eLst aNil) 5)
    (sSeq (sFor (iSeq (eCall F__law_drawn (aCons (eVar 0) aNil))) (gTp 2 (gsCons (gNm 6) (gsCons (gNm 7) gsNil)))
    (sIf (tAn (tBl (eBin D.eq (eBin D.ix (eCall F__law_run (aCons (eVar 6) (aCons (eTup (aCons (eTup (aCons (eVar 1) (aCons (eC (.int 1)) aNil))) aNil)) aNil))) (bVar 2)) (eC (.int 1)))) (tBl (eBin D.eq (eBin D.ix (eCall F__law_run (aCons (eVar 6) (aCons (eTup (aCons (eTup (aCons (eVar 1) (aCons (eC (.int 0)) aNil))) aNil)) aNil))) (bVar 2)) (eC (.int 0))))) (sMut gAppend 5 (aCons (eVar 7) aNil)) sNx))
    (sFz 5 (sRet (eLst (aCons (eVar 3) (aCons (eVar 4) (aCons (eCall F__law_total (aCons (eVar 5) aNil)) aNil))))))))))
def F__law_two : Fn := fnD 8 b__law_two
theorem ok__law_two (T : Top K w P mg) : FnG P w K mg base 7 T.D__law_two.f T.D__law_two.d ["all_lots", "x", "y"] (spD ⟨K, w, P⟩ 3 F__law_two) := fnG_ok T.D__law_two.F sc__law_two (by decide) fun cdv A outer s H E hG hr =>
    (ss_cons (st_set (ps_set (i := 3) sc__law_two.nd rfl (by first | exact Or.inl rfl | exact Or.inr rfl) (e_call (pe_callG hG (ok__law_would T) (hr.mono (by decide)) (by rfl) T.D__law_would.m T.D__law_would.k T.D__law_would.b (a_cons (e_var (pv 0)) (a_cons (e_tup (a_cons (e_tup (a_cons (e_var (pv 1)) (a_cons e_int a_nil))) (a_cons (e_tup (a_cons (e_var (pv 2)) (a_cons e_int a_nil))) a_nil))) (a_cons (e_tup (a_cons (e_tup (a_cons (e_var (pv 1)) (a_cons e_int a_nil))) a_nil)) (a_cons (e_tup (a_cons (e_tup (a_cons (e_var (pv 2)) (a_cons e_int a_nil))) a_nil)) a_nil))))) (alS (alS (alS (alS al0)))))))
    (ss_cons (st_set (ps_set (i := 4) sc__law_two.nd rfl (by first | exact Or.inl rfl | exact Or.inr rfl) (e_call (pe_callG hG (ok__law_would T) (hr.mono (by decide)) (by rfl) T.D__law_would.m T.D__law_would.k T.D__law_would.b (a_cons (e_var (pv 0)) (a_cons (e_tup (a_cons (e_tup (a_cons (e_var (pv 1)) (a_cons e_int a_nil))) (a_cons (e_tup (a_cons (e_var (pv 2)) (a_cons e_int a_nil))) a_nil))) (a_cons (e_tup (a_cons (e_tup (a_cons (e_var (pv 1)) (a_cons e_int a_nil))) a_nil)) (a_cons (e_tup (a_cons (e_tup (a_cons (e_var (pv 2)) (a_cons e_int a_nil))) a_nil)) a_nil))))) (alS (alS (alS (alS al0)))))))
    (ss_cons (st_own (ps_set (i := 5) sc__law_two.nd rfl (by first | exact Or.inl rfl | exact Or.inr rfl) (n_lst a_nil)))
    (ss_cons (st_for (vs := [6, 7]) PassesOwn.never rfl (it_seq (e_call (pe_callG hG (ok__law_drawn T) (hr.mono (by decide)) (by rfl) T.D__law_drawn.m T.D__law_drawn.k T.D__law_drawn.b (a_cons (e_var (pv 0)) a_nil)) (alS al0))) (g_tup rfl (gs_cons (g_name (pg_name sc__law_two.nd rfl (by first | exact Or.inl rfl | exact Or.inr rfl)) (by decide)) (gs_cons (g_name (pg_name sc__law_two.nd rfl (by first | exact Or.inl rfl | exact Or.inr rfl)) (by decide)) gs_nil)))
    (ss_one (st_if (PW.pt (tw_and (t_cmp (op_eqP hr.units) eq_d (b_of (e_ix (b_of (e_call (pe_callG hG (ok__law_run T) (hr.mono (by decide)) (by rfl) T.D__law_run.m T.D__law_run.k T.D__law_run.b (a_cons (e_var (pv 6)) (a_cons (e_tup (a_cons (e_tup (a_cons (e_var (pv 1)) (a_cons e_int a_nil))) a_nil)) a_nil))) (alS (alS al0)))) (b_var (pv 2)))) (b_of e_int)) (tw_and1 (t_cmp (op_eqP hr.units) eq_d (b_of (e_ix (b_of (e_call (pe_callG hG (ok__law_run T) (hr.mono (by decide)) (by rfl) T.D__law_run.m T.D__law_run.k T.D__law_run.b (a_cons (e_var (pv 6)) (a_cons (e_tup (a_cons (e_tup (a_cons (e_var (pv 1)) (a_cons e_int a_nil))) a_nil)) a_nil))) (alS (alS al0)))) (b_var (pv 2)))) (b_of e_int))))) (ss_one (st_mut (ps_expr (pe_bm PySem.F.plainAttrs_list PySem.F.slot_list_append PySem.F.type_list_append mt_append (pv 5) (a_cons (e_var (pv 7)) a_nil))) append_d append_l)) ss_nil)))
    (ss_fz 5 (ss_one (st_ret (e_of (n_lst (a_cons (e_var (pv 3)) (a_cons (e_var (pv 4)) (a_cons (e_call (pe_callG hG (ok__law_total T) (hr.mono (by decide)) (by rfl) T.D__law_total.m T.D__law_total.k T.D__law_total.b (a_cons (e_var (pv 5)) a_nil)) (alS al0)) a_nil))))))))))))
theorem sc_law : FnScope ["script", "c", "all_lots", "sizes", "deed", "event", "seen", "pairs", "row", "other", "share", "two", "x", "y", "told", "due", "world", "ones", "zeros", "parts", "pair", "v"] ["script"] (defScope s_law) := ⟨rfl, rfl, rfl, by decide +kernel, rfl, by decide +kernel, by decide +kernel⟩
def b_law : Stm :=
    (sSeq (sOwn (eCall F__law_start (aCons (eVar 0) aNil)) 1)
    (sPub 1 (sSeq (sAsg (eCall F__law_lots (aCons (eVar 1) aNil)) (gNm 2))
    (sSeq (sAsg (eBin D.ix (bVar 2) (eC (.int 0))) (gNm 3))
    (sSeq (sIf (tOr (tBl (eBin D.notB (eCall F_are_lots (aCons (eVar 2) aNil)) (eC (.bl true)))) (tBl (eBin D.notB (eCall F_are_lots (aCons (eSl D.slice (bVar 2) pNo (pIs (eC (.int 2)))) aNil)) (eC (.bl false))))) (sRet (eC (.bl false))) sNx)
    (sSeq (sIf (tNo (tTru (eCall F__law_alike (aCons (eCall F_drawn (aCons (eVar 2) aNil)) (aCons (eCB gTuple (aCons (eCall F__law_drawn (aCons (eVar 2) aNil)) aNil)) aNil))))) (sRet (eC (.bl false))) sNx)
    (sSeq (sPar 4 5 (aCons (eCall F__law_deed (aCons (eVar 1) (aCons (eVar 3) (aCons (eC (.int 2)) (aCons (eLst aNil) aNil))))) (aCons (eCall F__law_deed (aCons (eVar 1) (aCons (eVar 3) (aCons (eC (.int 2)) (aCons (eLst aNil) aNil))))) aNil)))
    (sSeq (sAsg (eCall F__law_deed (aCons (eVar 1) (aCons (eVar 3) (aCons (eC (.int 2)) (aCons (eLst aNil) aNil))))) (gNm 6))
    (sSeq (sIf (tOr (tNo (tTru (eCall F__law_alike (aCons (eCall F_seen_world (aCons (eVar 2) aNil)) (aCons (eCall F__law_world (aCons (eVar 2) (aCons (eTup aNil) aNil))) aNil))))) (tNo (tTru (eCall F__law_alike (aCons (eCall F_done_world (aCons (eVar 2) (aCons (eVar 4) aNil))) (aCons (eCall F__law_world (aCons (eVar 2) (aCons (eVar 4) aNil))) aNil)))))) (sRet (eC (.bl false))) sNx)
    (sSeq (sDn true 7)
    (sSeq (sFor (iSeq (eCall F__law_pairs (aCons (eVar 2) (aCons (eVar 4) aNil)))) (gTp 3 (gsCons (gNm 8) (gsCons (gNm 9) (gsCons (gNm 10) gsNil))))
    (sDnPut 7 (eCall F__law_plus (aCons (eDnGet2 7 (eTup (aCons (eVar 8) (aCons (eVar 9) aNil))) (eTup (aCons (eC (.int 0)) (aCons (eC (.int 1)) aNil)))) (aCons (eVar 10) aNil))) (eTup (aCons (eVar 8) (aCons (eVar 9) aNil)))))
    (sSeq (sIf (tNo (tTru (eCall F__law_alike (aCons (eCall F_twins (aCons (eVar 2) (aCons (eVar 4) aNil))) (aCons (eCB gTuple (aCons (eCB gSorted (aCons (eLc (iDn 7) (gNm 20) tYs (eBin D.add (bVar 20) (eTup (aCons (eDnIx 7 (eVar 20)) aNil))) [20]) aNil)) aNil)) aNil))))) (sRet (eC (.bl false))) sNx)
    (sSeq (sIf (tNo (tTru (eCall F__law_alike (aCons (eCall F_would (aCons (eVar 2) (aCons (eVar 6) (aCons (eVar 4) (aCons (eVar 5) aNil))))) (aCons (eCall F__law_would (aCons (eVar 2) (aCons (eVar 6) (aCons (eVar 4) (aCons (eVar 5) aNil))))) aNil))))) (sRet (eC (.bl false))) sNx)
    (sSeq (sAsg (eLc (iRng (aCons (eCB gLen (aCons (bVar 3) aNil)) aNil)) (gNm 21) (tBl (eBin D.eq (eBin D.ix (bVar 3) (bVar 21)) (eC (.int 2)))) (eVar 21) [21]) (gNm 11))
    (sSeq (sIf (tBl (eBin D.lt (eCB gLen (aCons (bVar 11) aNil)) (eC (.int 2)))) (sRet (eC (.bl true))) sNx)
    (sSeq (sAsg (eCall F__law_take (aCons (eVar 1) (aCons (eBin D.sub (eCB gLen (aCons (bVar 11) aNil)) (eC (.int 1))) aNil))) (gNm 12))
    (sSeq (sAsg (eBin D.add (eBin D.add (bVar 12) (eC (.int 1))) (eCall F__law_take (aCons (eVar 1) (aCons (eBin D.sub (eBin D.sub (eCB gLen (aCons (bVar 11) aNil)) (eC (.int 1))) (bVar 12)) aNil)))) (gNm 13))
    (sSeq (sAsg (eTup (aCons (eBin D.ix (bVar 11) (bVar 12)) (aCons (eBin D.ix (bVar 11) (bVar 13)) aNil))) (gTp 2 (gsCons (gNm 12) (gsCons (gNm 13) gsNil))))
    (sSeq (sAsg (eLst (aCons (eCall F_necessity (aCons (eVar 2) (aCons (eVar 12) (aCons (eVar 13) aNil)))) (aCons (eCall F_sufficiency (aCons (eVar 2) (aCons (eVar 12) (aCons (eVar 13) aNil)))) (aCons (eCall F_both (aCons (eVar 2) (aCons (eVar 12) (aCons (eVar 13) aNil)))) aNil)))) (gNm 14))
    (sSeq (sAsg (eCall F__law_two (aCons (eVar 2) (aCons (eVar 12) (aCons (eVar 13) aNil)))) (gNm 15))
    (sSeq (sIf (tNo (tTru (eCall F__law_alike (aCons (eVar 14) (aCons (eVar 15) aNil))))) (sRet (eC (.bl false))) sNx)
    (sSeq (sAsg (eCall F__law_pairs (aCons (eVar 2) (aCons (eTup aNil) aNil))) (gNm 16))
    (sSeq (sAsg (eCall F__law_total (aCons (eLc (iSeq (bVar 16)) (gTp 3 (gsCons (gNm 8) (gsCons (gNm 9) (gsCons (gNm 10) gsNil)))) (tAn (tBl (eBin D.eq (eBin D.ix (bVar 8) (bVar 12)) (eC (.int 1)))) (tBl (eBin D.eq (eBin D.ix (bVar 8) (bVar 13)) (eC (.int 1))))) (eVar 10) [8, 9, 10]) aNil)) (gNm 17))
    (sSeq (sAsg (eCall F__law_total (aCons (eLc (iSeq (bVar 16)) (gTp 3 (gsCons (gNm 8) (gsCons (gNm 9) (gsCons (gNm 10) gsNil)))) (tAn (tBl (eBin D.eq (eBin D.ix (bVar 8) (bVar 12)) (eC (.int 0)))) (tBl (eBin D.eq (eBin D.ix (bVar 8) (bVar 13)) (eC (.int 0))))) (eVar 10) [8, 9, 10]) aNil)) (gNm 18))
    (sSeq (sAsg (eLst (aCons (eIf (tBl (eBin D.notN (eBin D.ix (bVar 15) (eC (.int 0))) (eC .non))) (eCall F__law_times (aCons (eBin D.ix (bVar 15) (eC (.int 0))) (aCons (eVar 17) aNil))) (eTup (aCons (eC (.int 0)) (aCons (eC (.int 1)) aNil)))) (aCons (eIf (tBl (eBin D.notN (eBin D.ix (bVar 15) (eC (.int 1))) (eC .non))) (eCall F__law_times (aCons (eBin D.ix (bVar 15) (eC (.int 1))) (aCons (eVar 18) aNil))) (eTup (aCons (eC (.int 0)) (aCons (eC (.int 1)) aNil)))) aNil))) (gNm 19))
    (sRet (eBin D.eq (eCall F__law_plus (aCons (eBin D.ix (bVar 19) (eC (.int 0))) (aCons (eBin D.ix (bVar 19) (eC (.int 1))) aNil))) (eBin D.ix (bVar 15) (eC (.int 2))))))))))))))))))))))))))))))
theorem ok_law (T : Top K w P mg) (math : ∀ ns : List Int, ns.length ≤ 63 → ∃ S', b_law (rho0 22 [.scr ns]) [] = some (.rt (.bl true) S')) : FnG P w K mg base 8 T.D_law.f T.D_law.d ["script"] (DL.spLaw K) := fnGL_ok T.D_law.F sc_law (by decide) rfl (fun cdv A outer s H E hG hr =>
    (ss_cons (st_own (ps_set (i := 1) sc_law.nd rfl (by first | exact Or.inl rfl | exact Or.inr rfl) (n_call (pe_callG hG (ok__law_start T) (hr.mono (by decide)) (by rfl) T.D__law_start.m T.D__law_start.k T.D__law_start.b (a_cons (e_var (pv 0)) a_nil)) (alS al0))))
    (ss_pub 1 (ss_cons (st_set (ps_set (i := 2) sc_law.nd rfl (by first | exact Or.inl rfl | exact Or.inr rfl) (e_call (pe_callG hG (ok__law_lots T) (hr.mono (by decide)) (by rfl) T.D__law_lots.m T.D__law_lots.k T.D__law_lots.b (a_cons (e_var (pv 1)) a_nil)) (alS al0))))
    (ss_cons (st_set (ps_set (i := 3) sc_law.nd rfl (by first | exact Or.inl rfl | exact Or.inr rfl) (e_ix (b_var (pv 2)) (b_of e_int))))
    (ss_cons (st_if (PW.pt (tw_or (t_cmp op_isnot_bl notB_d (b_of (e_call (pe_callG hG (ok_are_lots T) (hr.mono (by decide)) (by rfl) T.D_are_lots.m T.D_are_lots.k T.D_are_lots.b (a_cons (e_var (pv 2)) a_nil)) (alS al0))) (b_of e_bl)) (tw_or1 (t_cmp op_isnot_bl notB_d (b_of (e_call (pe_callG hG (ok_are_lots T) (hr.mono (by decide)) (by rfl) T.D_are_lots.m T.D_are_lots.k T.D_are_lots.b (a_cons (e_sl sl_slice slice_d (b_var (pv 2)) p_no (p_is (b_of e_int))) a_nil)) (alS al0))) (b_of e_bl))))) (ss_one (st_ret e_bl)) ss_nil)
    (ss_cons (st_if (t_not (t_tru (b_of (e_call (pe_callG hG (ok__law_alike T) (hr.mono (by decide)) (by rfl) T.D__law_alike.m T.D__law_alike.k T.D__law_alike.b (a_cons (e_call (pe_callG hG (ok_drawn T) (hr.mono (by decide)) (by rfl) T.D_drawn.m T.D_drawn.k T.D_drawn.b (a_cons (e_var (pv 2)) a_nil)) (alS al0)) (a_cons (e_cb (pe_callTy call_tupleZ (by rfl) T.z_tuple bt_tuple (aq_cons (b_of (e_call (pe_callG hG (ok__law_drawn T) (hr.mono (by decide)) (by rfl) T.D__law_drawn.m T.D__law_drawn.k T.D__law_drawn.b (a_cons (e_var (pv 2)) a_nil)) (alS al0))) aq_nil)) tuple_d) a_nil))) (alS (alS al0)))))) (ss_one (st_ret e_bl)) ss_nil)
    (ss_cons (st_par (ps_par (i := 4) (j := 5) rfl sc_law.nd rfl rfl (by decide) rfl rfl (a_cons (e_call (pe_callG hG (ok__law_deed T) (hr.mono (by decide)) (by rfl) T.D__law_deed.m T.D__law_deed.k T.D__law_deed.b (a_cons (e_var (pv 1)) (a_cons (e_var (pv 3)) (a_cons e_int (a_cons (e_of (n_lst a_nil)) a_nil))))) (alS (alS (alS (alS al0))))) (a_cons (e_call (pe_callG hG (ok__law_deed T) (hr.mono (by decide)) (by rfl) T.D__law_deed.m T.D__law_deed.k T.D__law_deed.b (a_cons (e_var (pv 1)) (a_cons (e_var (pv 3)) (a_cons e_int (a_cons (e_of (n_lst a_nil)) a_nil))))) (alS (alS (alS (alS al0))))) a_nil)) (by rfl)))
    (ss_cons (st_set (ps_set (i := 6) sc_law.nd rfl (by first | exact Or.inl rfl | exact Or.inr rfl) (e_call (pe_callG hG (ok__law_deed T) (hr.mono (by decide)) (by rfl) T.D__law_deed.m T.D__law_deed.k T.D__law_deed.b (a_cons (e_var (pv 1)) (a_cons (e_var (pv 3)) (a_cons e_int (a_cons (e_of (n_lst a_nil)) a_nil))))) (alS (alS (alS (alS al0)))))))
    (ss_cons (st_if (PW.pt (tw_or (t_not (t_tru (b_of (e_call (pe_callG hG (ok__law_alike T) (hr.mono (by decide)) (by rfl) T.D__law_alike.m T.D__law_alike.k T.D__law_alike.b (a_cons (e_call (pe_callG hG (ok_seen_world T) (hr.mono (by decide)) (by rfl) T.D_seen_world.m T.D_seen_world.k T.D_seen_world.b (a_cons (e_var (pv 2)) a_nil)) (alS al0)) (a_cons (e_call (pe_callG hG (ok__law_world T) (hr.mono (by decide)) (by rfl) T.D__law_world.m T.D__law_world.k T.D__law_world.b (a_cons (e_var (pv 2)) (a_cons (e_tup a_nil) a_nil))) (alS (alS al0))) a_nil))) (alS (alS al0)))))) (tw_or1 (t_not (t_tru (b_of (e_call (pe_callG hG (ok__law_alike T) (hr.mono (by decide)) (by rfl) T.D__law_alike.m T.D__law_alike.k T.D__law_alike.b (a_cons (e_call (pe_callG hG (ok_done_world T) (hr.mono (by decide)) (by rfl) T.D_done_world.m T.D_done_world.k T.D_done_world.b (a_cons (e_var (pv 2)) (a_cons (e_var (pv 4)) a_nil))) (alS (alS al0))) (a_cons (e_call (pe_callG hG (ok__law_world T) (hr.mono (by decide)) (by rfl) T.D__law_world.m T.D__law_world.k T.D__law_world.b (a_cons (e_var (pv 2)) (a_cons (e_var (pv 4)) a_nil))) (alS (alS al0))) a_nil))) (alS (alS al0))))))))) (ss_one (st_ret e_bl)) ss_nil)
    (ss_cons (st_dnew (ps_set (i := 7) sc_law.nd rfl (by first | exact Or.inl rfl | exact Or.inr rfl) pe_dnnew))
    (ss_cons (st_for (vs := [8, 9, 10]) PassesOwn.never rfl (it_seq (e_call (pe_callG hG (ok__law_pairs T) (hr.mono (by decide)) (by rfl) T.D__law_pairs.m T.D__law_pairs.k T.D__law_pairs.b (a_cons (e_var (pv 2)) (a_cons (e_var (pv 4)) a_nil))) (alS (alS al0)))) (g_tup rfl (gs_cons (g_name (pg_name sc_law.nd rfl (by first | exact Or.inl rfl | exact Or.inr rfl)) (by decide)) (gs_cons (g_name (pg_name sc_law.nd rfl (by first | exact Or.inl rfl | exact Or.inr rfl)) (by decide)) (gs_cons (g_name (pg_name sc_law.nd rfl (by first | exact Or.inl rfl | exact Or.inr rfl)) (by decide)) gs_nil))))
    (ss_one (st_dnput hr.units (pv 7) (e_tup (a_cons (e_var (pv 8)) (a_cons (e_var (pv 9)) a_nil))) (e_call (pe_callG hG (ok__law_plus T) (hr.mono (by decide)) (by rfl) T.D__law_plus.m T.D__law_plus.k T.D__law_plus.b (a_cons (e_dnget2 hr.units (pv 7) (e_tup (a_cons (e_var (pv 8)) (a_cons (e_var (pv 9)) a_nil))) (e_tup (a_cons e_int (a_cons e_int a_nil))) ⟨rfl, rfl, rfl, rfl⟩) (a_cons (e_var (pv 10)) a_nil))) (alS (alS al0))))))
    (ss_cons (st_if (t_not (t_tru (b_of (e_call (pe_callG hG (ok__law_alike T) (hr.mono (by decide)) (by rfl) T.D__law_alike.m T.D__law_alike.k T.D__law_alike.b (a_cons (e_call (pe_callG hG (ok_twins T) (hr.mono (by decide)) (by rfl) T.D_twins.m T.D_twins.k T.D_twins.b (a_cons (e_var (pv 2)) (a_cons (e_var (pv 4)) a_nil))) (alS (alS al0))) (a_cons (e_cb (pe_callTy call_tupleZ (by rfl) T.z_tuple bt_tuple (aq_cons (b_of (e_of (n_cb (pe_callB (cr_sortedD hr.units) (by rfl) T.z_sorted bt_sorted (aq_cons (b_of (e_of (n_lc (own := [("pair", 20)]) rfl sc_law.nd (ib_dn (pv 7)) (blkOk_by (by kernel_rfl)) (fun _ _ _ _ _ => (g_name (pg_name sc_law.nd rfl (by first | exact Or.inl rfl | exact Or.inr rfl)) (by decide))) (fun _ _ _ _ _ => ts_nil) (fun _ _ _ _ _ => (e_bin op_addD add_d (b_var (pv 20)) (b_of (e_tup (a_cons (e_dnix hr.units (pv 7) (e_var (pv 20))) a_nil)))))))) aq_nil)) sorted_f))) aq_nil)) tuple_d) a_nil))) (alS (alS al0)))))) (ss_one (st_ret e_bl)) ss_nil)
    (ss_cons (st_if (t_not (t_tru (b_of (e_call (pe_callG hG (ok__law_alike T) (hr.mono (by decide)) (by rfl) T.D__law_alike.m T.D__law_alike.k T.D__law_alike.b (a_cons (e_call (pe_callG hG (ok_would T) (hr.mono (by decide)) (by rfl) T.D_would.m T.D_would.k T.D_would.b (a_cons (e_var (pv 2)) (a_cons (e_var (pv 6)) (a_cons (e_var (pv 4)) (a_cons (e_var (pv 5)) a_nil))))) (alS (alS (alS (alS al0))))) (a_cons (e_call (pe_callG hG (ok__law_would T) (hr.mono (by decide)) (by rfl) T.D__law_would.m T.D__law_would.k T.D__law_would.b (a_cons (e_var (pv 2)) (a_cons (e_var (pv 6)) (a_cons (e_var (pv 4)) (a_cons (e_var (pv 5)) a_nil))))) (alS (alS (alS (alS al0))))) a_nil))) (alS (alS al0)))))) (ss_one (st_ret e_bl)) ss_nil)
    (ss_cons (st_set (asg_imp (ps_setLc (i := 11) (own := [("v", 21)]) rfl sc_law.nd rfl rfl (by rfl) (it_range1 (pi_range1 (by rfl) T.z_range (aq_cons (b_of (e_cb (pe_callB call_len (by rfl) T.z_len bt_len (aq_cons (b_var (pv 3)) aq_nil)) len_d)) aq_nil)) (alS al0)) (blkOk_by (by kernel_rfl)) (fun _ _ _ _ _ => (g_name (pg_name sc_law.nd rfl (by first | exact Or.inl rfl | exact Or.inr rfl)) (by decide))) (fun _ _ _ _ _ => (ts_one (t_cmp (op_eqP hr.units) eq_d (b_of (e_ix (b_var (pv 3)) (b_var (pv 21)))) (b_of e_int)))) (fun _ _ _ _ _ => (e_var (pv 21)))) fun _ _ _ h => lc_f (tF_D h)))
    (ss_cons (st_if (t_cmp op_lt lt_d (b_of (e_cb (pe_callB call_len (by rfl) T.z_len bt_len (aq_cons (b_var (pv 11)) aq_nil)) len_d)) (b_of e_int)) (ss_one (st_ret e_bl)) ss_nil)
    (ss_cons (st_set (ps_set (i := 12) sc_law.nd rfl (by first | exact Or.inl rfl | exact Or.inr rfl) (e_call (pe_callG hG (ok__law_take T) (hr.mono (by decide)) (by rfl) T.D__law_take.m T.D__law_take.k T.D__law_take.b (a_cons (e_var (pv 1)) (a_cons (e_bin op_sub sub_d (b_of (e_cb (pe_callB call_len (by rfl) T.z_len bt_len (aq_cons (b_var (pv 11)) aq_nil)) len_d)) (b_of e_int)) a_nil))) (alS (alS al0)))))
    (ss_cons (st_set (ps_set (i := 13) sc_law.nd rfl (by first | exact Or.inl rfl | exact Or.inr rfl) (e_bin op_addD add_d (b_of (e_bin op_addD add_d (b_var (pv 12)) (b_of e_int))) (b_of (e_call (pe_callG hG (ok__law_take T) (hr.mono (by decide)) (by rfl) T.D__law_take.m T.D__law_take.k T.D__law_take.b (a_cons (e_var (pv 1)) (a_cons (e_bin op_sub sub_d (b_of (e_bin op_sub sub_d (b_of (e_cb (pe_callB call_len (by rfl) T.z_len bt_len (aq_cons (b_var (pv 11)) aq_nil)) len_d)) (b_of e_int))) (b_var (pv 12))) a_nil))) (alS (alS al0)))))))
    (ss_cons (st_asg (vs := [12, 13]) (ps_asg (e_tup (a_cons (e_ix (b_var (pv 11)) (b_var (pv 12))) (a_cons (e_ix (b_var (pv 11)) (b_var (pv 13))) a_nil))) (g_tup rfl (gs_cons (g_name (pg_name sc_law.nd rfl (by first | exact Or.inl rfl | exact Or.inr rfl)) (by decide)) (gs_cons (g_name (pg_name sc_law.nd rfl (by first | exact Or.inl rfl | exact Or.inr rfl)) (by decide)) gs_nil)))))
    (ss_cons (st_set (ps_set (i := 14) sc_law.nd rfl (by first | exact Or.inl rfl | exact Or.inr rfl) (e_of (n_lst (a_cons (e_call (pe_callG hG (ok_necessity T) (hr.mono (by decide)) (by rfl) T.D_necessity.m T.D_necessity.k T.D_necessity.b (a_cons (e_var (pv 2)) (a_cons (e_var (pv 12)) (a_cons (e_var (pv 13)) a_nil)))) (alS (alS (alS al0)))) (a_cons (e_call (pe_callG hG (ok_sufficiency T) (hr.mono (by decide)) (by rfl) T.D_sufficiency.m T.D_sufficiency.k T.D_sufficiency.b (a_cons (e_var (pv 2)) (a_cons (e_var (pv 12)) (a_cons (e_var (pv 13)) a_nil)))) (alS (alS (alS al0)))) (a_cons (e_call (pe_callG hG (ok_both T) (hr.mono (by decide)) (by rfl) T.D_both.m T.D_both.k T.D_both.b (a_cons (e_var (pv 2)) (a_cons (e_var (pv 12)) (a_cons (e_var (pv 13)) a_nil)))) (alS (alS (alS al0)))) a_nil)))))))
    (ss_cons (st_set (ps_set (i := 15) sc_law.nd rfl (by first | exact Or.inl rfl | exact Or.inr rfl) (e_call (pe_callG hG (ok__law_two T) (hr.mono (by decide)) (by rfl) T.D__law_two.m T.D__law_two.k T.D__law_two.b (a_cons (e_var (pv 2)) (a_cons (e_var (pv 12)) (a_cons (e_var (pv 13)) a_nil)))) (alS (alS (alS al0))))))
    (ss_cons (st_if (t_not (t_tru (b_of (e_call (pe_callG hG (ok__law_alike T) (hr.mono (by decide)) (by rfl) T.D__law_alike.m T.D__law_alike.k T.D__law_alike.b (a_cons (e_var (pv 14)) (a_cons (e_var (pv 15)) a_nil))) (alS (alS al0)))))) (ss_one (st_ret e_bl)) ss_nil)
    (ss_cons (st_set (ps_set (i := 16) sc_law.nd rfl (by first | exact Or.inl rfl | exact Or.inr rfl) (e_call (pe_callG hG (ok__law_pairs T) (hr.mono (by decide)) (by rfl) T.D__law_pairs.m T.D__law_pairs.k T.D__law_pairs.b (a_cons (e_var (pv 2)) (a_cons (e_tup a_nil) a_nil))) (alS (alS al0)))))
    (ss_cons (st_set (ps_set (i := 17) sc_law.nd rfl (by first | exact Or.inl rfl | exact Or.inr rfl) (e_call (pe_callG hG (ok__law_total T) (hr.mono (by decide)) (by rfl) T.D__law_total.m T.D__law_total.k T.D__law_total.b (a_cons (e_of (n_lc (own := [("row", 8), ("other", 9), ("share", 10)]) rfl sc_law.nd (ib_seq (b_var (pv 16))) (blkOk_by (by kernel_rfl)) (fun _ _ _ _ _ => (g_tup rfl (gs_cons (g_name (pg_name sc_law.nd rfl (by first | exact Or.inl rfl | exact Or.inr rfl)) (by decide)) (gs_cons (g_name (pg_name sc_law.nd rfl (by first | exact Or.inl rfl | exact Or.inr rfl)) (by decide)) (gs_cons (g_name (pg_name sc_law.nd rfl (by first | exact Or.inl rfl | exact Or.inr rfl)) (by decide)) gs_nil))))) (fun _ _ _ _ _ => (ts_one (PW.pt (tw_and (t_cmp (op_eqP hr.units) eq_d (b_of (e_ix (b_var (pv 8)) (b_var (pv 12)))) (b_of e_int)) (tw_and1 (t_cmp (op_eqP hr.units) eq_d (b_of (e_ix (b_var (pv 8)) (b_var (pv 13)))) (b_of e_int))))))) (fun _ _ _ _ _ => (e_var (pv 10))))) a_nil)) (alS al0))))
    (ss_cons (st_set (ps_set (i := 18) sc_law.nd rfl (by first | exact Or.inl rfl | exact Or.inr rfl) (e_call (pe_callG hG (ok__law_total T) (hr.mono (by decide)) (by rfl) T.D__law_total.m T.D__law_total.k T.D__law_total.b (a_cons (e_of (n_lc (own := [("row", 8), ("other", 9), ("share", 10)]) rfl sc_law.nd (ib_seq (b_var (pv 16))) (blkOk_by (by kernel_rfl)) (fun _ _ _ _ _ => (g_tup rfl (gs_cons (g_name (pg_name sc_law.nd rfl (by first | exact Or.inl rfl | exact Or.inr rfl)) (by decide)) (gs_cons (g_name (pg_name sc_law.nd rfl (by first | exact Or.inl rfl | exact Or.inr rfl)) (by decide)) (gs_cons (g_name (pg_name sc_law.nd rfl (by first | exact Or.inl rfl | exact Or.inr rfl)) (by decide)) gs_nil))))) (fun _ _ _ _ _ => (ts_one (PW.pt (tw_and (t_cmp (op_eqP hr.units) eq_d (b_of (e_ix (b_var (pv 8)) (b_var (pv 12)))) (b_of e_int)) (tw_and1 (t_cmp (op_eqP hr.units) eq_d (b_of (e_ix (b_var (pv 8)) (b_var (pv 13)))) (b_of e_int))))))) (fun _ _ _ _ _ => (e_var (pv 10))))) a_nil)) (alS al0))))
    (ss_cons (st_set (ps_set (i := 19) sc_law.nd rfl (by first | exact Or.inl rfl | exact Or.inr rfl) (e_of (n_lst (a_cons (e_if (t_cmp op_notN notN_d (b_of (e_ix (b_var (pv 15)) (b_of e_int))) (b_of e_non)) (e_call (pe_callG hG (ok__law_times T) (hr.mono (by decide)) (by rfl) T.D__law_times.m T.D__law_times.k T.D__law_times.b (a_cons (e_ix (b_var (pv 15)) (b_of e_int)) (a_cons (e_var (pv 17)) a_nil))) (alS (alS al0))) (e_tup (a_cons e_int (a_cons e_int a_nil)))) (a_cons (e_if (t_cmp op_notN notN_d (b_of (e_ix (b_var (pv 15)) (b_of e_int))) (b_of e_non)) (e_call (pe_callG hG (ok__law_times T) (hr.mono (by decide)) (by rfl) T.D__law_times.m T.D__law_times.k T.D__law_times.b (a_cons (e_ix (b_var (pv 15)) (b_of e_int)) (a_cons (e_var (pv 18)) a_nil))) (alS (alS al0))) (e_tup (a_cons e_int (a_cons e_int a_nil)))) a_nil))))))
    (ss_one (st_ret (e_cmp (op_eqP hr.units) eq_d (b_of (e_call (pe_callG hG (ok__law_plus T) (hr.mono (by decide)) (by rfl) T.D__law_plus.m T.D__law_plus.k T.D__law_plus.b (a_cons (e_ix (b_var (pv 19)) (b_of e_int)) (a_cons (e_ix (b_var (pv 19)) (b_of e_int)) a_nil))) (alS (alS al0)))) (b_of (e_ix (b_var (pv 15)) (b_of e_int)))))))))))))))))))))))))))))))) math
end
end W17

set_option Elab.async false
set_option linter.all false
set_option maxRecDepth 100000
namespace DL
open L2
/-! ## meanings: small laws -/
theorem log_lt {x : Int} {k : Nat} (h0 : 0 < k) (h : x.natAbs < 2 ^ k) : x.natAbs.log2 < k := PySem.Flt.log2_lt_of h0 h
theorem okDiv_t {j : Int} (h : 0 < j) (b : j.natAbs < 2 ^ 8999) : okDiv j = true := decide_eq_true ⟨h, Nat.lt_succ_of_lt (log_lt (by decide) b)⟩
theorem okMul_t {i j : Int} (a : i.natAbs < 2 ^ 8999) (b : j.natAbs < 2 ^ 8999) : okMul i j = true := decide_eq_true (by have := log_lt (by decide) a; have := log_lt (by decide) b; omega)
theorem sz0 : ((0 : Nat) ≤ PySem.sizeLine) = True := eq_true (Nat.zero_le _)
theorem sz1 : ((1 : Nat) ≤ PySem.sizeLine) = True := eq_true (by decide)
theorem sz2 : ((2 : Nat) ≤ PySem.sizeLine) = True := eq_true (by decide)
theorem sz4 : ((4 : Nat) ≤ PySem.sizeLine) = True := eq_true (by decide)
theorem sz5 : ((5 : Nat) ≤ PySem.sizeLine) = True := eq_true (by decide)
theorem szle {n : Nat} (h : n ≤ 100000) : n ≤ PySem.sizeLine := Nat.le_trans h (by decide)
theorem atI_lt {α : Type} {xs : List α} {j : Nat} (h : j < xs.length) : atI xs (j : Int) = some xs[j] := atI_nat (List.getElem?_eq_getElem h)
theorem at0 {α : Type} (x : α) (xs : List α) : atI (x :: xs) 0 = some x := atI_nat (j := 0) rfl
theorem at1 {α : Type} (x y : α) (xs : List α) : atI (x :: y :: xs) 1 = some y := atI_nat (j := 1) rfl
theorem at2 {α : Type} (x y z : α) (xs : List α) : atI (x :: y :: z :: xs) 2 = some z := atI_nat (j := 2) rfl
theorem at3 {α : Type} (x y z u : α) (xs : List α) : atI (x :: y :: z :: u :: xs) 3 = some u := atI_nat (j := 3) rfl
theorem eq_int (i j : Int) : D.eq (.int i) (.int j) = some (.bl (decide (i = j))) := by
  have e : ((D.int i).fit 60 && (D.int j).fit 60) = true := by simp [D.fit]
  unfold D.eq
  rw [if_pos e]
  simp only [D.eqv, D.toP, PySem.PyData.eqv]
  first | done | (congr 2)
theorem ne_int (i j : Int) : D.ne (.int i) (.int j) = some (.bl (!decide (i = j))) := by
  have e : ((D.int i).fit 60 && (D.int j).fit 60) = true := by simp [D.fit]
  unfold D.ne
  rw [if_pos e]
  simp only [D.eqv, D.toP, PySem.PyData.eqv]
  first | done | (congr 2)
theorem compF_map {α : Type} {g : Tg} {tt : Tx} {te : Ex} {ρ : Rho} {S : Sto} (enc : α → D) (p : α → Bool) (f : α → D) : ∀ (xs : List α), (∀ x ∈ xs, ∃ ρ2, g (enc x) ρ = some ρ2 ∧ tt ρ2 S = some (p x, S) ∧ (p x = true → te ρ2 S = some (f x, S))) →
    compF g tt te ρ (xs.map enc) S = some ((xs.filter p).map f, S)
  | [], _ => rfl
  | x :: xs, h => by
    obtain ⟨ρ2, h1, h2, h3⟩ := h x List.mem_cons_self
    have ih := compF_map enc p f xs fun y hy => h y (List.mem_cons_of_mem _ hy)
    rw [List.map_cons]
    unfold compF
    rw [h1, Option.bind_some, h2, Option.bind_some]
    cases hp : p x with
    | true => rw [if_pos rfl, h3 hp, Option.bind_some, ih, List.filter_cons, if_pos hp]; rfl
    | false => rw [if_neg Bool.false_ne_true, ih, List.filter_cons, if_neg (by rw [hp]; exact Bool.false_ne_true)]
theorem compF_all {α : Type} {g : Tg} {te : Ex} {ρ : Rho} {S : Sto} (enc : α → D) (f : α → D) (xs : List α) (h : ∀ x ∈ xs, ∃ ρ2, g (enc x) ρ = some ρ2 ∧ te ρ2 S = some (f x, S)) : compF g tYs te ρ (xs.map enc) S = some (xs.map f, S) := by
  rw [compF_map enc (fun _ => true) f xs fun x hx => by
    obtain ⟨ρ2, h1, h2⟩ := h x hx
    exact ⟨ρ2, h1, rfl, fun _ => h2⟩]
  rw [List.filter_eq_self.mpr fun _ _ => rfl]
theorem compO_all {α : Type} {g g1 : Tg} {tt1 : Tx} {it1 : Ars} {te : Ex} {vs1 : List Nat} {ρ : Rho} {S : Sto} (enc : α → D) (f : α → List D) : ∀ (xs : List α), (∀ x ∈ xs, ∃ ρ2 ys, g (enc x) ρ = some ρ2 ∧ it1 ρ2 S = some (ys, S) ∧ compF g1 tt1 te (wipeR ρ2 vs1) ys S = some (f x, S)) →
    compO g tYs it1 g1 tt1 te vs1 ρ (xs.map enc) S = some (xs.flatMap f, S)
  | [], _ => rfl
  | x :: xs, h => by
    obtain ⟨ρ2, ys, h1, h2, h3⟩ := h x List.mem_cons_self
    have ih := compO_all enc f xs fun y hy => h y (List.mem_cons_of_mem _ hy)
    rw [List.map_cons]
    unfold compO
    rw [h1, Option.bind_some]
    show ((some (true, S) : Option (Bool × Sto))).bind _ = _
    rw [Option.bind_some, if_pos rfl, h2, Option.bind_some, h3, Option.bind_some, ih, List.flatMap_cons]
    rfl
theorem forF_nil {g : Tg} {b : Stm} {ρ : Rho} {S : Sto} : forF g b [] ρ S = some (.nx ρ S) := rfl
theorem forF_step {g : Tg} {b : Stm} {x : D} {xs : List D} {ρ ρ1 ρ2 : Rho} {S S2 : Sto} (h1 : g x ρ = some ρ1) (h2 : b ρ1 S = some (.nx ρ2 S2)) : forF g b (x :: xs) ρ S = forF g b xs ρ2 S2 := by
  show ((g x ρ).bind fun ρ1 => (b ρ1 S).bind fun o => o.turn (forF g b xs)) = _
  rw [h1, Option.bind_some, h2]
  rfl
theorem forF_ret {g : Tg} {b : Stm} {x d : D} {xs : List D} {ρ ρ1 : Rho} {S S2 : Sto} (h1 : g x ρ = some ρ1) (h2 : b ρ1 S = some (.rt d S2)) : forF g b (x :: xs) ρ S = some (.rt d S2) := by
  show ((g x ρ).bind fun ρ1 => (b ρ1 S).bind fun o => o.turn (forF g b xs)) = _
  rw [h1, Option.bind_some, h2]
  rfl
theorem rangeD_nat (n : Nat) : rangeD 0 n = (List.range n).map fun (i : Nat) => D.int (i : Int) := by
  unfold rangeD
  exact List.map_congr_left fun i _ => by rw [Int.zero_add]
theorem rangeOf_nat {n : Nat} (h : n ≤ 100000) : rangeOf [.int (n : Int)] = some ((List.range n).map fun (i : Nat) => D.int (i : Int)) := by
  have hz : n ≤ PySem.sizeLine := szle h
  have hc : -(2 ^ 62 : Int) ≤ (n : Int) ∧ (n : Int) < 2 ^ 62 ∧ ((n : Int)).toNat ≤ PySem.sizeLine := ⟨by omega, by omega, by simpa using hz⟩
  simp only [rangeOf, hc, hz, and_self, if_true, rangeD_nat, Int.toNat_natCast]
theorem iRng_of {fs : Ars} {ρ : Rho} {S S1 : Sto} {ds xs : List D} (h1 : fs ρ S = some (ds, S1)) (h2 : rangeOf ds = some xs) : iRng fs ρ S = some (xs, S1) := by
  unfold iRng
  rw [h1, Option.bind_some, h2]
  rfl
theorem sAsg_of {f : Ex} {g : Tg} {ρ ρ' : Rho} {S S1 : Sto} {d : D} (h : f ρ S = some (d, S1)) (hg : g d ρ = some ρ') : sAsg f g ρ S = some (.nx ρ' S1) := by
  unfold sAsg
  rw [h, Option.bind_some, hg]
  rfl
theorem eBin_of {g : D → D → Option D} {f1 f2 : Ex} {ρ : Rho} {S S1 S2 : Sto} {d1 d2 d : D} (h1 : f1 ρ S = some (d1, S1)) (h2 : f2 ρ S1 = some (d2, S2)) (h3 : g d1 d2 = some d) : eBin g f1 f2 ρ S = some (d, S2) := by
  unfold eBin
  rw [h1, Option.bind_some, h2, Option.bind_some, h3]
  rfl
theorem eLc_of {it : Ars} {g : Tg} {tt : Tx} {te : Ex} {vs : List Nat} {ρ : Rho} {S S1 S2 : Sto} {xs ys : List D} (h1 : it ρ S = some (xs, S1)) (h2 : compF g tt te (wipeR ρ vs) xs S1 = some (ys, S2)) : eLc it g tt te vs ρ S = some (.lst ys, S2) := by
  unfold eLc
  rw [h1, Option.bind_some, h2]
  rfl
theorem sSeq_of {a b : Stm} {ρ ρ' : Rho} {S S1 : Sto} {o : Option Out} (h1 : a ρ S = some (.nx ρ' S1)) (h2 : b ρ' S1 = o) : sSeq a b ρ S = o := by
  unfold sSeq
  rw [h1, Option.bind_some]
  exact h2
theorem sSeq_rt {a b : Stm} {ρ : Rho} {S S1 : Sto} {d : D} (h1 : a ρ S = some (.rt d S1)) : sSeq a b ρ S = some (.rt d S1) := by
  unfold sSeq
  rw [h1, Option.bind_some]
  rfl
theorem sFor_of {it : Ars} {g : Tg} {b : Stm} {ρ : Rho} {S S1 : Sto} {xs : List D} {o : Option Out} (h1 : it ρ S = some (xs, S1)) (h2 : forF g b xs ρ S1 = o) : sFor it g b ρ S = o := by
  unfold sFor
  rw [h1, Option.bind_some]
  exact h2
theorem sIf_t {c : Tx} {a b : Stm} {ρ : Rho} {S S1 : Sto} {o : Option Out} (h1 : c ρ S = some (true, S1)) (h2 : a ρ S1 = o) : sIf c a b ρ S = o := by
  unfold sIf
  rw [h1, Option.bind_some, if_pos rfl]
  exact h2
theorem sIf_f {c : Tx} {a b : Stm} {ρ : Rho} {S S1 : Sto} {o : Option Out} (h1 : c ρ S = some (false, S1)) (h2 : b ρ S1 = o) : sIf c a b ρ S = o := by
  unfold sIf
  rw [h1, Option.bind_some, if_neg Bool.false_ne_true]
  exact h2
theorem tBl_of {f : Ex} {ρ : Rho} {S S1 : Sto} {b : Bool} (h : f ρ S = some (.bl b, S1)) : tBl f ρ S = some (b, S1) := by
  unfold tBl
  rw [h, Option.bind_some]
theorem tTru_of {f : Ex} {ρ : Rho} {S S1 : Sto} {d : D} {b : Bool} (h : f ρ S = some (d, S1)) (ht : d.truth = some b) : tTru f ρ S = some (b, S1) := by
  unfold tTru
  rw [h, Option.bind_some, ht]
  rfl
theorem sRet_of {f : Ex} {ρ : Rho} {S S1 : Sto} {d : D} (h : f ρ S = some (d, S1)) : sRet f ρ S = some (.rt d S1) := by
  unfold sRet
  rw [h]
  rfl
theorem eCall_of {F : Fn} {fs : Ars} {ρ : Rho} {S S1 S2 : Sto} {ds : List D} {d : D} (h1 : fs ρ S = some (ds, S1)) (h2 : F ds S1 = some (d, S2)) : eCall F fs ρ S = some (d, S2) := by
  unfold eCall
  rw [h1, Option.bind_some]
  exact h2
theorem eCB_of {g : List D → Option D} {fs : Ars} {ρ : Rho} {S S1 : Sto} {ds : List D} {d : D} (h1 : fs ρ S = some (ds, S1)) (h2 : g ds = some d) : eCB g fs ρ S = some (d, S1) := by
  unfold eCB
  rw [h1, Option.bind_some, h2]
  rfl
theorem eTup_of {fs : Ars} {ρ : Rho} {S S1 : Sto} {ds : List D} (h1 : fs ρ S = some (ds, S1)) (h2 : ds.length ≤ PySem.sizeLine) : eTup fs ρ S = some (.tup ds, S1) := by
  unfold eTup
  rw [h1, Option.bind_some, if_pos h2]
theorem aCons_of {f : Ex} {fs : Ars} {ρ : Rho} {S S1 S2 : Sto} {d : D} {ds : List D} (h1 : f ρ S = some (d, S1)) (h2 : fs ρ S1 = some (ds, S2)) : aCons f fs ρ S = some (d :: ds, S2) := by
  unfold aCons
  rw [h1, Option.bind_some, h2]
  rfl
theorem iSeq_of {f : Ex} {ρ : Rho} {S S1 : Sto} {d : D} {xs : List D} (h : f ρ S = some (d, S1)) (he : d.elems = some xs) : iSeq f ρ S = some (xs, S1) := by
  unfold iSeq
  rw [h, Option.bind_some, he]
  rfl
theorem fnD_rt {n : Nat} {b : Stm} {ds : List D} {S S' : Sto} {d : D} (h : b (rho0 n ds) S = some (.rt d S')) (hl : S'.length = S.length) : fnD n b ds S = some (d, S') := by
  unfold fnD
  rw [h]
  show (if S'.length = S.length then some (d, S') else none) = _
  rw [if_pos hl]
theorem add_lst {xs ys : List D} (h : xs.length + ys.length ≤ PySem.sizeLine) : D.add (.lst xs) (.lst ys) = some (.lst (xs ++ ys)) := by simp only [D.add, h, if_true]
theorem add_tup {xs ys : List D} (h : xs.length + ys.length ≤ PySem.sizeLine) : D.add (.tup xs) (.tup ys) = some (.tup (xs ++ ys)) := by simp only [D.add, h, if_true]
/-! fractions in lowest terms -/
def nf (a b : Int) : Int × Int := (a / (Nat.gcd a.natAbs b.natAbs : Int), b / (Nat.gcd a.natAbs b.natAbs : Int))
def frD (p : Int × Int) : D := .tup [.int p.1, .int p.2]
theorem gcd_pos {a b : Int} (hb : 0 < b) : (0 : Int) < (Nat.gcd a.natAbs b.natAbs : Int) := by
  have : 0 < Nat.gcd a.natAbs b.natAbs := Nat.gcd_pos_of_pos_right _ (by omega)
  omega
theorem gcd_le {a b : Int} (hb : 0 < b) : (Nat.gcd a.natAbs b.natAbs) ≤ b.natAbs := Nat.gcd_le_right _ (by omega)
theorem gcd_dvd1 (a b : Int) : (Nat.gcd a.natAbs b.natAbs : Int) ∣ a := Int.ofNat_dvd_left.mpr (Nat.gcd_dvd_left _ _)
theorem gcd_dvd2 (a b : Int) : (Nat.gcd a.natAbs b.natAbs : Int) ∣ b := Int.ofNat_dvd_left.mpr (Nat.gcd_dvd_right _ _)
theorem nf_cross (a b : Int) : (nf a b).1 * b = a * (nf a b).2 := by
  unfold nf
  generalize hg : (Nat.gcd a.natAbs b.natAbs : Int) = g
  obtain ⟨x, hx⟩ : g ∣ a := hg ▸ gcd_dvd1 a b
  obtain ⟨y, hy⟩ : g ∣ b := hg ▸ gcd_dvd2 a b
  by_cases h0 : g = 0
  · subst h0; simp
  · simp only
    rw [hx, hy, Int.mul_ediv_cancel_left _ h0, Int.mul_ediv_cancel_left _ h0, Int.mul_left_comm, Int.mul_assoc]
theorem nf_pos {a b : Int} (hb : 0 < b) : 0 < (nf a b).2 := by
  unfold nf
  have hg := gcd_pos (a := a) hb
  exact Int.ediv_pos_of_pos_of_dvd hb (Int.le_of_lt hg) (gcd_dvd2 a b)
theorem ediv_abs_le (x : Int) {g : Int} (hg : 0 < g) (hd : g ∣ x) : (x / g).natAbs ≤ x.natAbs := by
  obtain ⟨y, rfl⟩ := hd
  rw [Int.mul_ediv_cancel_left _ (by omega), Int.natAbs_mul]
  exact Nat.le_mul_of_pos_left _ (by omega)
theorem nf_le1 {a b : Int} (hb : 0 < b) : (nf a b).1.natAbs ≤ a.natAbs := ediv_abs_le a (gcd_pos hb) (gcd_dvd1 a b)
theorem nf_le2 {a b : Int} (hb : 0 < b) : (nf a b).2.natAbs ≤ b.natAbs := ediv_abs_le b (gcd_pos hb) (gcd_dvd2 a b)
theorem nf_scale (a b : Int) {k : Int} (hk : 0 < k) : nf (a * k) (b * k) = nf a b := by
  have e : (Nat.gcd (a * k).natAbs (b * k).natAbs : Int) = (Nat.gcd a.natAbs b.natAbs : Int) * k := by
    rw [Int.natAbs_mul, Int.natAbs_mul, Nat.gcd_mul_right, Int.natCast_mul, Int.natAbs_of_nonneg (Int.le_of_lt hk)]
  unfold nf
  rw [e, Int.mul_ediv_mul_of_pos_left _ _ hk, Int.mul_ediv_mul_of_pos_left _ _ hk]
theorem nf_eq {a b c d : Int} (hb : 0 < b) (hd : 0 < d) (h : a * d = c * b) : nf a b = nf c d := by
  rw [← nf_scale a b hd, ← nf_scale c d hb, h, Int.mul_comm b d]
/-- the fraction is of at most k bits -/
structure Fb (k : Nat) (p : Int × Int) : Prop where
  n : p.1.natAbs < 2 ^ k
  pos : 0 < p.2
  d : p.2.natAbs < 2 ^ k
theorem Fb.mono {j k : Nat} {p : Int × Int} (h : Fb j p) (l : j ≤ k) : Fb k p := ⟨Nat.lt_of_lt_of_le h.n (Nat.pow_le_pow_right (by decide) l), h.pos, Nat.lt_of_lt_of_le h.d (Nat.pow_le_pow_right (by decide) l)⟩
theorem mul_bd {a b : Int} {j k : Nat} (ha : a.natAbs < 2 ^ j) (hb : b.natAbs < 2 ^ k) : (a * b).natAbs < 2 ^ (j + k) := L2.wide_lt ha hb
theorem add_bd {a b : Int} {k : Nat} (ha : a.natAbs < 2 ^ k) (hb : b.natAbs < 2 ^ k) : (a + b).natAbs < 2 ^ (k + 1) := by
  rw [Nat.pow_succ]; omega
theorem bd_mono {a : Int} {j k : Nat} (h : a.natAbs < 2 ^ j) (l : j ≤ k) : a.natAbs < 2 ^ k := Nat.lt_of_lt_of_le h (Nat.pow_le_pow_right (by decide) l)
theorem nf_fb {a b : Int} {k : Nat} (ha : a.natAbs < 2 ^ k) (hb : 0 < b) (h2 : b.natAbs < 2 ^ k) : Fb k (nf a b) := ⟨Nat.lt_of_le_of_lt (nf_le1 hb) ha, nf_pos hb, Nat.lt_of_le_of_lt (nf_le2 hb) h2⟩
/-- what plus gives -/
def plF (p q : Int × Int) : Int × Int := nf (p.1 * q.2 + q.1 * p.2) (p.2 * q.2)
theorem plF_fb {j k : Nat} {p q : Int × Int} (hp : Fb j p) (hq : Fb k q) : Fb (j + k + 1) (plF p q) := by
  refine nf_fb (add_bd (mul_bd hp.n hq.d) (by rw [Nat.add_comm j k]; exact mul_bd hq.n hp.d)) (Int.mul_pos hp.pos hq.pos) (bd_mono (mul_bd hp.d hq.d) (Nat.le_succ _))
theorem plF_congr (p : Int × Int) {q r : Int × Int} (hp : 0 < p.2) (hq : 0 < q.2) (hr : 0 < r.2) (h : q.1 * r.2 = r.1 * q.2) : plF p q = plF p r := by
  unfold plF
  refine nf_eq (Int.mul_pos hp hq) (Int.mul_pos hp hr) ?_
  have e1 : (p.1 * q.2 + q.1 * p.2) * (p.2 * r.2) = p.1 * q.2 * p.2 * r.2 + (q.1 * r.2) * (p.2 * p.2) := by
    rw [Int.add_mul]
    congr 1
    · simp only [Int.mul_assoc]
    · simp only [Int.mul_assoc, Int.mul_left_comm, Int.mul_comm]
  have e2 : (p.1 * r.2 + r.1 * p.2) * (p.2 * q.2) = p.1 * q.2 * p.2 * r.2 + (r.1 * q.2) * (p.2 * p.2) := by
    rw [Int.add_mul]
    congr 1
    · simp only [Int.mul_assoc, Int.mul_left_comm, Int.mul_comm]
    · simp only [Int.mul_assoc, Int.mul_left_comm, Int.mul_comm]
  rw [e1, e2, h]
end DL

set_option Elab.async false
set_option linter.all false
set_option maxRecDepth 100000
namespace DL
open L2
/-! ## rows, events -/
def rowD (r : List Int) : D := .tup (r.map D.int)
def pD (p : Nat × Int) : D := .tup [.int (p.1 : Nat), .int p.2]
abbrev Ev := List (Nat × Int)
def evD (e : Ev) : D := .tup (e.map pD)
def szD (s : List Nat) : D := .tup (s.map fun (n : Nat) => D.int (n : Int))
def rowsStep (n : Nat) (r : List Int) : List (List Int) := (List.range n).map fun (x : Nat) => r ++ [(x : Int)]
def rowsM (found : List (List Int)) : List Nat → List (List Int)
  | [] => found
  | n :: s => rowsM (found.flatMap (rowsStep n)) s
/-- sizes at most 3, few enough -/
def Small (found : List (List Int)) (s : List Nat) : Prop := (∀ n ∈ s, n ≤ 3) ∧ found.length * 3 ^ s.length ≤ 1000 ∧ ∀ r ∈ found, r.length + s.length ≤ 100
theorem flat_len {α β : Type} {f : α → List β} {k : Nat} : ∀ {xs : List α}, (∀ x ∈ xs, (f x).length ≤ k) → (xs.flatMap f).length ≤ xs.length * k
  | [], _ => by simp
  | x :: xs, h => by
    rw [List.flatMap_cons, List.length_append, List.length_cons, Nat.succ_mul]
    have := flat_len (xs := xs) (f := f) fun y hy => h y (List.mem_cons_of_mem _ hy)
    have := h x List.mem_cons_self
    omega
theorem Small.next {found : List (List Int)} {n : Nat} {s : List Nat} (h : Small found (n :: s)) : Small (found.flatMap (rowsStep n)) s := by
  obtain ⟨h1, h2, h3⟩ := h
  refine ⟨fun m hm => h1 m (List.mem_cons_of_mem _ hm), ?_, fun r hr => ?_⟩
  · have hn := h1 n List.mem_cons_self
    have := flat_len (f := rowsStep n) (k := 3) (xs := found) fun r _ => by unfold rowsStep; simpa using hn
    rw [List.length_cons, Nat.pow_succ] at h2
    calc (found.flatMap (rowsStep n)).length * 3 ^ s.length ≤ found.length * 3 * 3 ^ s.length := Nat.mul_le_mul_right _ this
      _ = found.length * (3 ^ s.length * 3) := by rw [Nat.mul_assoc, Nat.mul_comm 3]
      _ ≤ 1000 := h2
  · obtain ⟨r', hr', hx⟩ := List.mem_flatMap.mp hr
    unfold rowsStep at hx
    obtain ⟨x, _, rfl⟩ := List.mem_map.mp hx
    have := h3 r' hr'
    rw [List.length_cons] at this
    rw [List.length_append, List.length_singleton]
    omega
theorem Small.len {found : List (List Int)} {s : List Nat} (h : Small found s) : found.length ≤ 1000 := Nat.le_trans (Nat.le_mul_of_pos_right _ (Nat.pow_pos (by decide))) h.2.1
theorem rowsM_len : ∀ {s : List Nat} {found : List (List Int)}, Small found s → (rowsM found s).length ≤ 1000
  | [], found, h => h.len
  | n :: s, found, h => rowsM_len (s := s) h.next
theorem rowsM_rowlen : ∀ {s : List Nat} {found : List (List Int)} {k : Nat}, (∀ r ∈ found, r.length = k) → ∀ r ∈ rowsM found s, r.length = k + s.length
  | [], found, k, h, r, hr => h r hr
  | n :: s, found, k, h, r, hr => by
    have := rowsM_rowlen (s := s) (found := found.flatMap (rowsStep n)) (k := k + 1) (fun r hr => by
      obtain ⟨r', hr', hx⟩ := List.mem_flatMap.mp hr
      unfold rowsStep at hx
      obtain ⟨x, _, rfl⟩ := List.mem_map.mp hx
      rw [List.length_append, h r' hr']; rfl) r hr
    rw [List.length_cons]; omega
theorem nf_zero {w : Int} (h : 0 < w) : nf 0 w = (0, 1) := by
  have e : (Nat.gcd (0 : Int).natAbs w.natAbs : Int) = w := by
    show ((Nat.gcd 0 w.natAbs : Nat) : Int) = w
    rw [Nat.gcd_zero_left]; omega
  unfold nf
  rw [e, Int.zero_ediv, Int.ediv_self (by omega)]
theorem plF_same (a b : Int) {w : Int} (h : 0 < w) : plF (nf a w) (nf b w) = nf (a + b) w := by
  have ha := nf_cross a w
  have hb := nf_cross b w
  unfold plF
  refine nf_eq (Int.mul_pos (nf_pos h) (nf_pos h)) h ?_
  generalize (nf a w).1 = a1 at *
  generalize (nf a w).2 = a2 at *
  generalize (nf b w).1 = b1 at *
  generalize (nf b w).2 = b2 at *
  calc (a1 * b2 + b1 * a2) * w = (a1 * w) * b2 + (b1 * w) * a2 := by
        rw [Int.add_mul]; congr 1 <;> simp only [Int.mul_assoc, Int.mul_comm, Int.mul_left_comm]
    _ = (a * a2) * b2 + (b * b2) * a2 := by rw [ha, hb]
    _ = (a + b) * (a2 * b2) := by
        rw [Int.add_mul]; congr 1 <;> simp only [Int.mul_assoc, Int.mul_comm, Int.mul_left_comm]
def fitsB (r : List Int) (e : Ev) : Bool := e.all fun p => decide (r[p.1]? = some p.2)
end DL
namespace W17
open DL
open L2 (atI atI_nat)
theorem fraction_s (a b : Int) (S : Sto) (hb : 0 < b) (h2 : b.natAbs < 2 ^ 8999) : F_fraction [.int a, .int b] S = some (frD (nf a b), S) := by
  have o : okDiv (Nat.gcd a.natAbs b.natAbs : Int) = true := okDiv_t (gcd_pos hb) (by have := gcd_le (a := a) hb; omega)
  unfold F_fraction b_fraction
  simp only [fnD, fnE, fnOut, rho0, eVar, bVar, Sl.rd, eC, eBin, eTup, eLst, aNil, aCons, eCB, eCall, tTru, tBl, tAn, DL.tOr, tNo, eAn, DL.eOr, eNo, eIf, eIxR, eSl, pNo, pIs, iSeq, iZp, gNm, gTp, gsNil, gsCons, sNx, sBk, sCt, sSeq, Out.seq, sIf, sAsg, sOwn, sPar, sPar3, sRet, sFz, sPub, sDn, sAug, D.iadd, D.imul, sParDF, sParFF, cellOf, iEn, D.isB, D.notB, sSetR, sSetIx, sMut, sDrop, sFor, eLc, tYs, wipeR, D.elems, D.truth, D.add, D.sub, D.mul, D.fdiv, D.mod, D.pow, D.lt, D.le, D.gt, D.ge, D.isN, D.notN, D.ix, D.cat, liftI, Option.bind_some, Option.bind_none, Option.map_some, Option.map_none, List.map_cons, List.map_nil, List.length_cons, List.length_nil, List.cons_append, List.nil_append, List.replicate, List.set_cons_zero, List.set_cons_succ, List.getElem?_cons_zero, List.getElem?_cons_succ, Nat.reduceAdd, Nat.reduceSub, Nat.reduceLeDiff, if_true, if_false, ↓reduceIte, List.isEmpty_nil, List.isEmpty_cons, Bool.not_true, Bool.not_false, Bool.false_eq_true, decide_true, decide_false, decide_eq_true_eq, gGcd, o, sz2]
  rfl
theorem plus_s {j k : Nat} {p q : Int × Int} (S : Sto) (hp : Fb j p) (hq : Fb k q) (l : j + k ≤ 8990) : F_plus [frD p, frD q] S = some (frD (plF p q), S) := by
  have m := fun {x : Int} {i : Nat} (h : x.natAbs < 2 ^ i) (l : i ≤ 8999) => bd_mono h l
  have o1 := okMul_t (m hp.n (by omega)) (m hq.d (by omega))
  have o2 := okMul_t (m hq.n (by omega)) (m hp.d (by omega))
  have o3 := okMul_t (m hp.d (by omega)) (m hq.d (by omega))
  have fs := fraction_s (p.1 * q.2 + q.1 * p.2) (p.2 * q.2) S (Int.mul_pos hp.pos hq.pos) (m (mul_bd hp.d hq.d) (by omega))
  unfold F_plus b_plus frD
  simp only [fnD, fnE, fnOut, rho0, eVar, bVar, Sl.rd, eC, eBin, eTup, eLst, aNil, aCons, eCB, eCall, tTru, tBl, tAn, DL.tOr, tNo, eAn, DL.eOr, eNo, eIf, eIxR, eSl, pNo, pIs, iSeq, iZp, gNm, gTp, gsNil, gsCons, sNx, sBk, sCt, sSeq, Out.seq, sIf, sAsg, sOwn, sPar, sPar3, sRet, sFz, sPub, sDn, sAug, D.iadd, D.imul, sParDF, sParFF, cellOf, iEn, D.isB, D.notB, sSetR, sSetIx, sMut, sDrop, sFor, eLc, tYs, wipeR, D.elems, D.truth, D.add, D.sub, D.mul, D.fdiv, D.mod, D.pow, D.lt, D.le, D.gt, D.ge, D.isN, D.notN, D.ix, D.cat, liftI, Option.bind_some, Option.bind_none, Option.map_some, Option.map_none, List.map_cons, List.map_nil, List.length_cons, List.length_nil, List.cons_append, List.nil_append, List.replicate, List.set_cons_zero, List.set_cons_succ, List.getElem?_cons_zero, List.getElem?_cons_succ, Nat.reduceAdd, Nat.reduceSub, Nat.reduceLeDiff, if_true, if_false, ↓reduceIte, List.isEmpty_nil, List.isEmpty_cons, Bool.not_true, Bool.not_false, Bool.false_eq_true, decide_true, decide_false, decide_eq_true_eq, at0, at1, o1, o2, o3, fs]
  rfl
def tmF (p q : Int × Int) : Int × Int := nf (p.1 * q.1) (p.2 * q.2)
theorem times_s {j k : Nat} {p q : Int × Int} (S : Sto) (hp : Fb j p) (hq : Fb k q) (l : j + k ≤ 8990) : F_times [frD p, frD q] S = some (frD (tmF p q), S) := by
  have m := fun {x : Int} {i : Nat} (h : x.natAbs < 2 ^ i) (l : i ≤ 8999) => bd_mono h l
  have o1 := okMul_t (m hp.n (by omega)) (m hq.n (by omega))
  have o3 := okMul_t (m hp.d (by omega)) (m hq.d (by omega))
  have fs := fraction_s (p.1 * q.1) (p.2 * q.2) S (Int.mul_pos hp.pos hq.pos) (m (mul_bd hp.d hq.d) (by omega))
  unfold F_times b_times frD
  simp only [fnD, fnE, fnOut, rho0, eVar, bVar, Sl.rd, eC, eBin, eTup, eLst, aNil, aCons, eCB, eCall, tTru, tBl, tAn, DL.tOr, tNo, eAn, DL.eOr, eNo, eIf, eIxR, eSl, pNo, pIs, iSeq, iZp, gNm, gTp, gsNil, gsCons, sNx, sBk, sCt, sSeq, Out.seq, sIf, sAsg, sOwn, sPar, sPar3, sRet, sFz, sPub, sDn, sAug, D.iadd, D.imul, sParDF, sParFF, cellOf, iEn, D.isB, D.notB, sSetR, sSetIx, sMut, sDrop, sFor, eLc, tYs, wipeR, D.elems, D.truth, D.add, D.sub, D.mul, D.fdiv, D.mod, D.pow, D.lt, D.le, D.gt, D.ge, D.isN, D.notN, D.ix, D.cat, liftI, Option.bind_some, Option.bind_none, Option.map_some, Option.map_none, List.map_cons, List.map_nil, List.length_cons, List.length_nil, List.cons_append, List.nil_append, List.replicate, List.set_cons_zero, List.set_cons_succ, List.getElem?_cons_zero, List.getElem?_cons_succ, Nat.reduceAdd, Nat.reduceSub, Nat.reduceLeDiff, if_true, if_false, ↓reduceIte, List.isEmpty_nil, List.isEmpty_cons, Bool.not_true, Bool.not_false, Bool.false_eq_true, decide_true, decide_false, decide_eq_true_eq, at0, at1, o1, o3, fs]
  rfl
/-- over, where the divisor is above 0 -/
theorem over_s {j k : Nat} {p q : Int × Int} (S : Sto) (hp : Fb j p) (hq : Fb k q) (hq1 : 0 < q.1) (l : j + k ≤ 8990) : F_over [frD p, frD q] S = some (frD (nf (p.1 * q.2) (p.2 * q.1)), S) := by
  have m := fun {x : Int} {i : Nat} (h : x.natAbs < 2 ^ i) (l : i ≤ 8999) => bd_mono h l
  have o1 := okMul_t (m hp.n (by omega)) (m hq.d (by omega))
  have o3 := okMul_t (m hp.d (by omega)) (m hq.n (by omega))
  have fs := fraction_s (p.1 * q.2) (p.2 * q.1) S (Int.mul_pos hp.pos hq1) (m (mul_bd hp.d hq.n) (by omega))
  have d : decide (0 < p.2 * q.1) = true := decide_eq_true (Int.mul_pos hp.pos hq1)
  unfold F_over b_over frD
  simp only [fnD, fnE, fnOut, rho0, eVar, bVar, Sl.rd, eC, eBin, eTup, eLst, aNil, aCons, eCB, eCall, tTru, tBl, tAn, DL.tOr, tNo, eAn, DL.eOr, eNo, eIf, eIxR, eSl, pNo, pIs, iSeq, iZp, gNm, gTp, gsNil, gsCons, sNx, sBk, sCt, sSeq, Out.seq, sIf, sAsg, sOwn, sPar, sPar3, sRet, sFz, sPub, sDn, sAug, D.iadd, D.imul, sParDF, sParFF, cellOf, iEn, D.isB, D.notB, sSetR, sSetIx, sMut, sDrop, sFor, eLc, tYs, wipeR, D.elems, D.truth, D.add, D.sub, D.mul, D.fdiv, D.mod, D.pow, D.lt, D.le, D.gt, D.ge, D.isN, D.notN, D.ix, D.cat, liftI, Option.bind_some, Option.bind_none, Option.map_some, Option.map_none, List.map_cons, List.map_nil, List.length_cons, List.length_nil, List.cons_append, List.nil_append, List.replicate, List.set_cons_zero, List.set_cons_succ, List.getElem?_cons_zero, List.getElem?_cons_succ, Nat.reduceAdd, Nat.reduceSub, Nat.reduceLeDiff, if_true, if_false, ↓reduceIte, List.isEmpty_nil, List.isEmpty_cons, Bool.not_true, Bool.not_false, Bool.false_eq_true, decide_true, decide_false, decide_eq_true_eq, at0, at1, o1, o3, fs, d]
  rfl
/-- the running total -/
def totM (f : Int × Int) : List (Int × Int) → Int × Int
  | [] => f
  | p :: ps => totM (plF f p) ps
theorem total_s {k : Nat} (S : Sto) (ps : List (Int × Int)) (inv : ∀ (pre : List (Int × Int)) (x : Int × Int) (suf : List (Int × Int)), ps = pre ++ x :: suf → Fb k (totM (0, 1) pre) ∧ Fb k x) (l : k + k ≤ 8990) : F_total [.lst (ps.map frD)] S = some (frD (totM (0, 1) ps), S) := by
  have loop : ∀ (suf pre : List (Int × Int)) (a z : Sl), ps = pre ++ suf → ∃ z', forF (gNm 2) (sAsg (eCall F_plus (aCons (eVar 1) (aCons (eVar 2) aNil))) (gNm 1)) (suf.map frD) [a, .sh (frD (totM (0, 1) pre)), z] S = some (.nx [a, .sh (frD (totM (0, 1) ps)), z'] S) := by
    intro suf
    induction suf with
    | nil => intro pre a z h; rw [List.append_nil] at h; subst h; exact ⟨z, rfl⟩
    | cons x suf ih =>
      intro pre a z h
      obtain ⟨f1, f2⟩ := inv pre x suf h
      have ps1 := plus_s S f1 f2 l
      have e : totM (0, 1) (pre ++ [x]) = plF (totM (0, 1) pre) x := by
        have : ∀ (l : List (Int × Int)) (f : Int × Int), totM f (l ++ [x]) = plF (totM f l) x := fun l => by
          induction l with
          | nil => intro f; rfl
          | cons y l ih2 => intro f; exact ih2 _
        exact this pre _
      obtain ⟨z', hz⟩ := ih (pre ++ [x]) a (.sh (frD x)) (by rw [h, List.append_assoc]; rfl)
      refine ⟨z', ?_⟩
      rw [List.map_cons, forF_step (ρ1 := [a, .sh (frD (totM (0, 1) pre)), .sh (frD x)]) (ρ2 := [a, .sh (frD (plF (totM (0, 1) pre) x)), .sh (frD x)]) (S2 := S) rfl (by simp only [fnD, fnE, fnOut, rho0, eVar, bVar, Sl.rd, eC, eBin, eTup, eLst, aNil, aCons, eCB, eCall, tTru, tBl, tAn, DL.tOr, tNo, eAn, DL.eOr, eNo, eIf, eIxR, eSl, pNo, pIs, iSeq, iZp, gNm, gTp, gsNil, gsCons, sNx, sBk, sCt, sSeq, Out.seq, sIf, sAsg, sOwn, sPar, sPar3, sRet, sFz, sPub, sDn, sAug, D.iadd, D.imul, sParDF, sParFF, cellOf, iEn, D.isB, D.notB, sSetR, sSetIx, sMut, sDrop, sFor, eLc, tYs, wipeR, D.elems, D.truth, D.add, D.sub, D.mul, D.fdiv, D.mod, D.pow, D.lt, D.le, D.gt, D.ge, D.isN, D.notN, D.ix, D.cat, liftI, Option.bind_some, Option.bind_none, Option.map_some, Option.map_none, List.map_cons, List.map_nil, List.length_cons, List.length_nil, List.cons_append, List.nil_append, List.replicate, List.set_cons_zero, List.set_cons_succ, List.getElem?_cons_zero, List.getElem?_cons_succ, Nat.reduceAdd, Nat.reduceSub, Nat.reduceLeDiff, if_true, if_false, ↓reduceIte, List.isEmpty_nil, List.isEmpty_cons, Bool.not_true, Bool.not_false, Bool.false_eq_true, decide_true, decide_false, decide_eq_true_eq, ps1]), ← e]
      exact hz
  obtain ⟨z', hz⟩ := loop ps [] (.sh (.lst (ps.map frD))) .un rfl
  unfold F_total b_total
  simp only [fnD, fnE, fnOut, rho0, eVar, bVar, Sl.rd, eC, eBin, eTup, eLst, aNil, aCons, eCB, eCall, tTru, tBl, tAn, DL.tOr, tNo, eAn, DL.eOr, eNo, eIf, eIxR, eSl, pNo, pIs, iSeq, iZp, gNm, gTp, gsNil, gsCons, sNx, sBk, sCt, sSeq, Out.seq, sIf, sAsg, sOwn, sPar, sPar3, sRet, sFz, sPub, sDn, sAug, D.iadd, D.imul, sParDF, sParFF, cellOf, iEn, D.isB, D.notB, sSetR, sSetIx, sMut, sDrop, sFor, eLc, tYs, wipeR, D.elems, D.truth, D.add, D.sub, D.mul, D.fdiv, D.mod, D.pow, D.lt, D.le, D.gt, D.ge, D.isN, D.notN, D.ix, D.cat, liftI, Option.bind_some, Option.bind_none, Option.map_some, Option.map_none, List.map_cons, List.map_nil, List.length_cons, List.length_nil, List.cons_append, List.nil_append, List.replicate, List.set_cons_zero, List.set_cons_succ, List.getElem?_cons_zero, List.getElem?_cons_succ, Nat.reduceAdd, Nat.reduceSub, Nat.reduceLeDiff, if_true, if_false, ↓reduceIte, List.isEmpty_nil, List.isEmpty_cons, Bool.not_true, Bool.not_false, Bool.false_eq_true, decide_true, decide_false, decide_eq_true_eq, sz2]
  have e0 : (D.tup [D.int 0, D.int 1]) = frD (totM (0, 1) []) := rfl
  rw [e0, hz]
  simp only [fnD, fnE, fnOut, rho0, eVar, bVar, Sl.rd, eC, eBin, eTup, eLst, aNil, aCons, eCB, eCall, tTru, tBl, tAn, DL.tOr, tNo, eAn, DL.eOr, eNo, eIf, eIxR, eSl, pNo, pIs, iSeq, iZp, gNm, gTp, gsNil, gsCons, sNx, sBk, sCt, sSeq, Out.seq, sIf, sAsg, sOwn, sPar, sPar3, sRet, sFz, sPub, sDn, sAug, D.iadd, D.imul, sParDF, sParFF, cellOf, iEn, D.isB, D.notB, sSetR, sSetIx, sMut, sDrop, sFor, eLc, tYs, wipeR, D.elems, D.truth, D.add, D.sub, D.mul, D.fdiv, D.mod, D.pow, D.lt, D.le, D.gt, D.ge, D.isN, D.notN, D.ix, D.cat, liftI, Option.bind_some, Option.bind_none, Option.map_some, Option.map_none, List.map_cons, List.map_nil, List.length_cons, List.length_nil, List.cons_append, List.nil_append, List.replicate, List.set_cons_zero, List.set_cons_succ, List.getElem?_cons_zero, List.getElem?_cons_succ, Nat.reduceAdd, Nat.reduceSub, Nat.reduceLeDiff, if_true, if_false, ↓reduceIte, List.isEmpty_nil, List.isEmpty_cons, Bool.not_true, Bool.not_false, Bool.false_eq_true, decide_true, decide_false, decide_eq_true_eq]
theorem fits_s (r : List Int) (e : Ev) (S : Sto) (h : ∀ p ∈ e, p.1 < r.length) : F_fits [rowD r, evD e] S = some (.bl (fitsB r e), S) := by
  have c := compF_all (g := gTp 2 (gsCons (gNm 2) (gsCons (gNm 3) gsNil))) (te := eBin D.eq (eBin D.ix (bVar 0) (bVar 2)) (bVar 3)) (ρ := [.sh (rowD r), .sh (evD e), .un, .un]) (S := S) pD (fun p => D.bl (decide (r[p.1]? = some p.2))) e fun p hp => by
    have hl := h p hp
    have a : atI (r.map D.int) ((p.1 : Nat) : Int) = some (.int r[p.1]) := by
      rw [atI_lt (by simpa using hl), List.getElem_map]
    refine ⟨_, by unfold pD; simp only [fnD, fnE, fnOut, rho0, eVar, bVar, Sl.rd, eC, eBin, eTup, eLst, aNil, aCons, eCB, eCall, tTru, tBl, tAn, DL.tOr, tNo, eAn, DL.eOr, eNo, eIf, eIxR, eSl, pNo, pIs, iSeq, iZp, gNm, gTp, gsNil, gsCons, sNx, sBk, sCt, sSeq, Out.seq, sIf, sAsg, sOwn, sPar, sPar3, sRet, sFz, sPub, sDn, sAug, D.iadd, D.imul, sParDF, sParFF, cellOf, iEn, D.isB, D.notB, sSetR, sSetIx, sMut, sDrop, sFor, eLc, tYs, wipeR, D.elems, D.truth, D.add, D.sub, D.mul, D.fdiv, D.mod, D.pow, D.lt, D.le, D.gt, D.ge, D.isN, D.notN, D.ix, D.cat, liftI, Option.bind_some, Option.bind_none, Option.map_some, Option.map_none, List.map_cons, List.map_nil, List.length_cons, List.length_nil, List.cons_append, List.nil_append, List.replicate, List.set_cons_zero, List.set_cons_succ, List.getElem?_cons_zero, List.getElem?_cons_succ, Nat.reduceAdd, Nat.reduceSub, Nat.reduceLeDiff, if_true, if_false, ↓reduceIte, List.isEmpty_nil, List.isEmpty_cons, Bool.not_true, Bool.not_false, Bool.false_eq_true, decide_true, decide_false, decide_eq_true_eq]; rfl, ?_⟩
    unfold rowD
    simp only [fnD, fnE, fnOut, rho0, eVar, bVar, Sl.rd, eC, eBin, eTup, eLst, aNil, aCons, eCB, eCall, tTru, tBl, tAn, DL.tOr, tNo, eAn, DL.eOr, eNo, eIf, eIxR, eSl, pNo, pIs, iSeq, iZp, gNm, gTp, gsNil, gsCons, sNx, sBk, sCt, sSeq, Out.seq, sIf, sAsg, sOwn, sPar, sPar3, sRet, sFz, sPub, sDn, sAug, D.iadd, D.imul, sParDF, sParFF, cellOf, iEn, D.isB, D.notB, sSetR, sSetIx, sMut, sDrop, sFor, eLc, tYs, wipeR, D.elems, D.truth, D.add, D.sub, D.mul, D.fdiv, D.mod, D.pow, D.lt, D.le, D.gt, D.ge, D.isN, D.notN, D.ix, D.cat, liftI, Option.bind_some, Option.bind_none, Option.map_some, Option.map_none, List.map_cons, List.map_nil, List.length_cons, List.length_nil, List.cons_append, List.nil_append, List.replicate, List.set_cons_zero, List.set_cons_succ, List.getElem?_cons_zero, List.getElem?_cons_succ, Nat.reduceAdd, Nat.reduceSub, Nat.reduceLeDiff, if_true, if_false, ↓reduceIte, List.isEmpty_nil, List.isEmpty_cons, Bool.not_true, Bool.not_false, Bool.false_eq_true, decide_true, decide_false, decide_eq_true_eq, a, eq_int]
    rw [List.getElem?_eq_getElem hl]
    congr 3
    simp
  have b := boolsOf_map (e.map fun p => decide (r[p.1]? = some p.2))
  rw [List.map_map] at b
  unfold evD at c
  unfold F_fits b_fits evD
  simp only [fnD, fnE, fnOut, rho0, eVar, bVar, Sl.rd, eC, eBin, eTup, eLst, aNil, aCons, eCB, eCall, tTru, tBl, tAn, DL.tOr, tNo, eAn, DL.eOr, eNo, eIf, eIxR, eSl, pNo, pIs, iSeq, iZp, gNm, gTp, gsNil, gsCons, sNx, sBk, sCt, sSeq, Out.seq, sIf, sAsg, sOwn, sPar, sPar3, sRet, sFz, sPub, sDn, sAug, D.iadd, D.imul, sParDF, sParFF, cellOf, iEn, D.isB, D.notB, sSetR, sSetIx, sMut, sDrop, sFor, eLc, tYs, wipeR, D.elems, D.truth, D.add, D.sub, D.mul, D.fdiv, D.mod, D.pow, D.lt, D.le, D.gt, D.ge, D.isN, D.notN, D.ix, D.cat, liftI, Option.bind_some, Option.bind_none, Option.map_some, Option.map_none, List.map_cons, List.map_nil, List.length_cons, List.length_nil, List.cons_append, List.nil_append, List.replicate, List.set_cons_zero, List.set_cons_succ, List.getElem?_cons_zero, List.getElem?_cons_succ, Nat.reduceAdd, Nat.reduceSub, Nat.reduceLeDiff, if_true, if_false, ↓reduceIte, List.isEmpty_nil, List.isEmpty_cons, Bool.not_true, Bool.not_false, Bool.false_eq_true, decide_true, decide_false, decide_eq_true_eq, c, gAll]
  have b' : boolsOf (e.map fun p => D.bl (decide (r[p.1]? = some p.2))) = some (e.map fun p => decide (r[p.1]? = some p.2)) := b
  simp only [fnD, fnE, fnOut, rho0, eVar, bVar, Sl.rd, eC, eBin, eTup, eLst, aNil, aCons, eCB, eCall, tTru, tBl, tAn, DL.tOr, tNo, eAn, DL.eOr, eNo, eIf, eIxR, eSl, pNo, pIs, iSeq, iZp, gNm, gTp, gsNil, gsCons, sNx, sBk, sCt, sSeq, Out.seq, sIf, sAsg, sOwn, sPar, sPar3, sRet, sFz, sPub, sDn, sAug, D.iadd, D.imul, sParDF, sParFF, cellOf, iEn, D.isB, D.notB, sSetR, sSetIx, sMut, sDrop, sFor, eLc, tYs, wipeR, D.elems, D.truth, D.add, D.sub, D.mul, D.fdiv, D.mod, D.pow, D.lt, D.le, D.gt, D.ge, D.isN, D.notN, D.ix, D.cat, liftI, Option.bind_some, Option.bind_none, Option.map_some, Option.map_none, List.map_cons, List.map_nil, List.length_cons, List.length_nil, List.cons_append, List.nil_append, List.replicate, List.set_cons_zero, List.set_cons_succ, List.getElem?_cons_zero, List.getElem?_cons_succ, Nat.reduceAdd, Nat.reduceSub, Nat.reduceLeDiff, if_true, if_false, ↓reduceIte, List.isEmpty_nil, List.isEmpty_cons, Bool.not_true, Bool.not_false, Bool.false_eq_true, decide_true, decide_false, decide_eq_true_eq, b']
  unfold fitsB
  rw [List.all_map]
  rfl
theorem totM_nf {w : Int} (h : 0 < w) : ∀ (l : List Int) (a : Int), totM (nf a w) (l.map fun x => nf x w) = nf (a + l.sum) w
  | [], a => by simp [totM]
  | x :: l, a => by
    rw [List.map_cons]
    show totM (plF (nf a w) (nf x w)) _ = _
    rw [plF_same a x h, totM_nf h l, List.sum_cons, Int.add_assoc]
theorem totM_nf0 {w : Int} (h : 0 < w) (l : List Int) : totM (0, 1) (l.map fun x => nf x w) = nf l.sum w := by
  rw [← nf_zero h, totM_nf h, Int.zero_add]
theorem add_row {r : List Int} (i : Nat) (h : r.length ≤ 1000) : D.add (.tup (r.map D.int)) (.tup [D.int (i : Int)]) = some (rowD (r ++ [(i : Int)])) := by
  have : (r.map D.int).length + [D.int (i : Int)].length ≤ PySem.sizeLine := szle (by simp; omega)
  simp only [D.add, rowD, this, if_true, List.map_append, List.map_cons, List.map_nil]
theorem row_ext (a b c : Sl) (r : List Int) (i : Nat) (S : Sto) (h : r.length ≤ 1000) : eBin D.add (bVar 3) (eTup (aCons (eVar 4) aNil)) [a, b, c, .sh (rowD r), .sh (.int (i : Int))] S = some (rowD (r ++ [(i : Int)]), S) := by
  have e := add_row (r := r) i h
  simp only [eBin, bVar, eTup, aCons, aNil, eVar, Sl.rd, List.getElem?_cons_zero, List.getElem?_cons_succ, Option.bind_some, Option.map_some, List.length_cons, List.length_nil, rowD]
  simp only [Nat.zero_add, sz1, if_true, Option.bind_some]
  rw [e]
  simp only [Option.map_some, rowD]
theorem row_ext2 (a b c d : Sl) (r : List Int) (i : Nat) (S : Sto) (h : r.length ≤ 1000) : eBin D.add (bVar 4) (eTup (aCons (eVar 5) aNil)) [a, b, c, d, .sh (rowD r), .sh (.int (i : Int))] S = some (rowD (r ++ [(i : Int)]), S) := by
  have e := add_row (r := r) i h
  simp only [eBin, bVar, eTup, aCons, aNil, eVar, Sl.rd, List.getElem?_cons_zero, List.getElem?_cons_succ, Option.bind_some, Option.map_some, List.length_cons, List.length_nil, rowD]
  simp only [Nat.zero_add, sz1, if_true, Option.bind_some]
  rw [e]
  simp only [Option.map_some, rowD]
theorem rows_fin {it1 : Ars} {te : Ex} {found : List (List Int)} {n : Nat} {ρ : Rho} {S : Sto} (hn : n ≤ 3) (hf : found.length ≤ 1000) (h1 : iSeq (bVar 1) ρ S = some (found.map rowD, S))
    (c : compO (gNm 3) tYs it1 (gNm 4) tYs te [4] (wipeR ρ [3, 4]) (found.map rowD) S = some (found.flatMap fun r => (rowsStep n r).map rowD, S)) :
    eLc2 (iSeq (bVar 1)) (gNm 3) tYs it1 (gNm 4) tYs te [3, 4] [4] ρ S = some (.lst ((found.flatMap (rowsStep n)).map rowD), S) := by
  unfold eLc2
  rw [h1, Option.bind_some, c, Option.bind_some]
  have fl : (found.flatMap fun r => (rowsStep n r).map rowD) = (found.flatMap (rowsStep n)).map rowD := by rw [List.map_flatMap]
  have len : ((found.flatMap (rowsStep n)).map rowD).length ≤ PySem.sizeLine := szle (by
    rw [List.length_map]
    have := flat_len (f := rowsStep n) (k := 3) (xs := found) fun r _ => by unfold rowsStep; simpa using hn
    omega)
  show (if (found.flatMap fun r => (rowsStep n r).map rowD).length ≤ PySem.sizeLine then some (D.lst (found.flatMap fun r => (rowsStep n r).map rowD), S) else none) = _
  rw [fl, if_pos len]
theorem rows_step (found : List (List Int)) (n : Nat) (a w1 w2 : Sl) (S : Sto) (hn : n ≤ 3) (hf : found.length ≤ 1000) (hr : ∀ r ∈ found, r.length ≤ 1000) :
    eLc2 (iSeq (bVar 1)) (gNm 3) tYs (iRng (aCons (bVar 2) aNil)) (gNm 4) tYs (eBin D.add (bVar 3) (eTup (aCons (eVar 4) aNil))) [3, 4] [4] [a, .sh (.lst (found.map rowD)), .sh (.int (n : Int)), w1, w2] S = some (.lst ((found.flatMap (rowsStep n)).map rowD), S) := by
  have c := compO_all (g := gNm 3) (g1 := gNm 4) (tt1 := tYs) (it1 := iRng (aCons (bVar 2) aNil)) (te := eBin D.add (bVar 3) (eTup (aCons (eVar 4) aNil))) (vs1 := [4]) (ρ := [a, .sh (.lst (found.map rowD)), .sh (.int (n : Int)), .un, .un]) (S := S) rowD (fun r => (rowsStep n r).map rowD) found fun r hr' => by
    refine ⟨_, (List.range n).map fun (i : Nat) => D.int (i : Int), rfl, ?_, ?_⟩
    · exact iRng_of (ds := [.int (n : Int)]) rfl (rangeOf_nat (Nat.le_trans hn (by decide)))
    · have c1 := compF_all (g := gNm 4) (te := eBin D.add (bVar 3) (eTup (aCons (eVar 4) aNil))) (ρ := [a, .sh (.lst (found.map rowD)), .sh (.int (n : Int)), .sh (rowD r), .un]) (S := S) (fun (i : Nat) => D.int (i : Int)) (fun (i : Nat) => rowD (r ++ [(i : Int)])) (List.range n) fun i _ => by
        exact ⟨_, rfl, row_ext _ _ _ r i S (hr r hr')⟩
      unfold rowsStep
      rw [List.map_map]
      exact c1
  exact rows_fin hn hf rfl c
theorem rows_of_s (s : List Nat) (S : Sto) (h : Small [[]] s) : F_rows_of [szD s] S = some (.tup ((rowsM [[]] s).map rowD), S) := by
  have loop : ∀ (suf : List Nat) (found : List (List Int)) (a z w1 w2 : Sl), Small found suf → ∃ z' w1' w2', forF (gNm 2) (sAsg (eLc2 (iSeq (bVar 1)) (gNm 3) tYs (iRng (aCons (bVar 2) aNil)) (gNm 4) tYs (eBin D.add (bVar 3) (eTup (aCons (eVar 4) aNil))) [3, 4] [4]) (gNm 1)) (suf.map fun (n : Nat) => D.int (n : Int)) [a, .sh (.lst (found.map rowD)), z, w1, w2] S =
      some (.nx [a, .sh (.lst ((rowsM found suf).map rowD)), z', w1', w2'] S) := by
    intro suf
    induction suf with
    | nil => intro found a z w1 w2 _; exact ⟨z, w1, w2, rfl⟩
    | cons n suf ih =>
      intro found a z w1 w2 hs
      obtain ⟨z', w1', w2', hz⟩ := ih (found.flatMap (rowsStep n)) a (.sh (.int (n : Int))) w1 w2 hs.next
      refine ⟨z', w1', w2', ?_⟩
      have st := rows_step found n a w1 w2 S (hs.1 n List.mem_cons_self) hs.len fun r hr => by have := hs.2.2 r hr; omega
      rw [List.map_cons, forF_step (ρ1 := [a, .sh (.lst (found.map rowD)), .sh (.int (n : Int)), w1, w2]) (S2 := S) rfl (by simp only [sAsg]; rw [st]; rfl)]
      exact hz
  obtain ⟨z', w1', w2', hz⟩ := loop s [[]] (.sh (szD s)) .un .un .un h
  have e0 : D.tup [] = rowD [] := rfl
  have e1 : ([rowD []] : List D) = [[]].map rowD := rfl
  unfold F_rows_of b_rows_of
  unfold szD at hz ⊢
  simp only [fnD, fnE, fnOut, rho0, eVar, bVar, Sl.rd, eC, eBin, eTup, eLst, aNil, aCons, eCB, eCall, tTru, tBl, tAn, DL.tOr, tNo, eAn, DL.eOr, eNo, eIf, eIxR, eSl, pNo, pIs, iSeq, iZp, gNm, gTp, gsNil, gsCons, sNx, sBk, sCt, sSeq, Out.seq, sIf, sAsg, sOwn, sPar, sPar3, sRet, sFz, sPub, sDn, sAug, D.iadd, D.imul, sParDF, sParFF, cellOf, iEn, D.isB, D.notB, sSetR, sSetIx, sMut, sDrop, sFor, eLc, tYs, wipeR, D.elems, D.truth, D.add, D.sub, D.mul, D.fdiv, D.mod, D.pow, D.lt, D.le, D.gt, D.ge, D.isN, D.notN, D.ix, D.cat, liftI, Option.bind_some, Option.bind_none, Option.map_some, Option.map_none, List.map_cons, List.map_nil, List.length_cons, List.length_nil, List.cons_append, List.nil_append, List.replicate, List.set_cons_zero, List.set_cons_succ, List.getElem?_cons_zero, List.getElem?_cons_succ, Nat.reduceAdd, Nat.reduceSub, Nat.reduceLeDiff, if_true, if_false, ↓reduceIte, List.isEmpty_nil, List.isEmpty_cons, Bool.not_true, Bool.not_false, Bool.false_eq_true, decide_true, decide_false, decide_eq_true_eq, sz0, sz1]
  rw [e0, e1, hz]
  simp only [fnD, fnE, fnOut, rho0, eVar, bVar, Sl.rd, eC, eBin, eTup, eLst, aNil, aCons, eCB, eCall, tTru, tBl, tAn, DL.tOr, tNo, eAn, DL.eOr, eNo, eIf, eIxR, eSl, pNo, pIs, iSeq, iZp, gNm, gTp, gsNil, gsCons, sNx, sBk, sCt, sSeq, Out.seq, sIf, sAsg, sOwn, sPar, sPar3, sRet, sFz, sPub, sDn, sAug, D.iadd, D.imul, sParDF, sParFF, cellOf, iEn, D.isB, D.notB, sSetR, sSetIx, sMut, sDrop, sFor, eLc, tYs, wipeR, D.elems, D.truth, D.add, D.sub, D.mul, D.fdiv, D.mod, D.pow, D.lt, D.le, D.gt, D.ge, D.isN, D.notN, D.ix, D.cat, liftI, Option.bind_some, Option.bind_none, Option.map_some, Option.map_none, List.map_cons, List.map_nil, List.length_cons, List.length_nil, List.cons_append, List.nil_append, List.replicate, List.set_cons_zero, List.set_cons_succ, List.getElem?_cons_zero, List.getElem?_cons_succ, Nat.reduceAdd, Nat.reduceSub, Nat.reduceLeDiff, if_true, if_false, ↓reduceIte, List.isEmpty_nil, List.isEmpty_cons, Bool.not_true, Bool.not_false, Bool.false_eq_true, decide_true, decide_false, decide_eq_true_eq, gTuple]
end W17

set_option Elab.async false
set_option linter.all false
set_option maxRecDepth 100000
namespace DL
open L2 (atI atI_nat)
theorem rem_half {a b k : Nat} (hb : b < 2 ^ (k + 1)) (hr : 0 < a % b) (h0 : 0 < b) : b % (a % b) < 2 ^ k := by
  have hlt : a % b < b := Nat.mod_lt _ h0
  generalize a % b = r at *
  rw [Nat.pow_succ] at hb
  by_cases h : r ≤ 2 ^ k
  · exact Nat.lt_of_lt_of_le (Nat.mod_lt _ hr) h
  · rw [Nat.mod_eq_sub_mod (Nat.le_of_lt hlt), Nat.mod_eq_of_lt (by omega)]; omega
theorem fmod_nat (a b : Nat) : Int.fmod (a : Int) (b : Int) = ((a % b : Nat) : Int) := by
  rw [Int.fmod_eq_emod_of_nonneg _ (by omega)]; rfl
theorem mod_nat {a b : Nat} (h : b ≠ 0) : D.mod (.int (a : Int)) (.int (b : Int)) = some (.int ((a % b : Nat) : Int)) := by
  have h' : (b : Int) ≠ 0 := by omega
  simp only [D.mod, liftI, fmod_nat, if_pos h']
/-! dict -/
theorem put_mem {kvs : List (L2.Key × D)} {k : L2.Key} {v : D} {x : L2.Key × D} (h : x ∈ putD kvs k v) : x.1 = k ∨ ∃ y ∈ kvs, y.1 = x.1 := by
  unfold putD at h
  split at h
  · obtain ⟨y, hy, rfl⟩ := List.mem_map.mp h
    by_cases e : y.1 = k
    · simp only [e, if_pos]; exact .inl trivial
    · simp only [if_neg e]; exact .inr ⟨y, hy, rfl⟩
  · rcases List.mem_append.mp h with h | h
    · exact .inr ⟨x, h, rfl⟩
    · simp at h; subst h; exact .inl rfl
theorem merge_mem : ∀ {more acc : List (L2.Key × D)} {x : L2.Key × D}, x ∈ mergeD acc more → (∃ y ∈ acc, y.1 = x.1) ∨ ∃ y ∈ more, y.1 = x.1
  | [], acc, x, h => .inl ⟨x, h, rfl⟩
  | m :: more, acc, x, h => by
    have h' : x ∈ mergeD (putD acc m.1 m.2) more := h
    rcases merge_mem h' with ⟨y, hy, e⟩ | ⟨y, hy, e⟩
    · rcases put_mem hy with e1 | ⟨z, hz, e1⟩
      · exact .inr ⟨m, List.mem_cons_self, e1.symm.trans e⟩
      · exact .inl ⟨z, hz, e1.trans e⟩
    · exact .inr ⟨y, List.mem_cons_of_mem _ hy, e⟩
theorem dFind_none {kvs : List (L2.Key × D)} {k : L2.Key} (h : ∀ x ∈ kvs, x.1 ≠ k) : dFind (kvs.map (·.1)) (kvs.map (·.2)) k = none := by
  unfold dFind
  rw [List.find?_eq_none.mpr]
  · rfl
  · intro x hx
    have := (List.of_mem_zip hx).1
    obtain ⟨y, hy, e⟩ := List.mem_map.mp this
    simpa [← e] using h y hy
def kvE (e : Ev) : List (L2.Key × D) := e.map fun p => (Sum.inl ((p.1 : Nat) : Int), D.int p.2)
theorem pairsOf_ev : ∀ e : Ev, pairsOf (e.map pD) = some (kvE e)
  | [] => rfl
  | p :: e => by
    rw [List.map_cons]
    unfold pD
    simp only [pairsOf, D.key, Option.bind_some]
    have := pairsOf_ev e
    unfold pD at this
    rw [this]
    rfl
theorem find_ev {e : Ev} {v : Nat} (h : ∀ p ∈ e, p.1 ≠ v) : dFind ((mergeD [] (kvE e)).map (·.1)) ((mergeD [] (kvE e)).map (·.2)) (Sum.inl (v : Int)) = none := dFind_none fun x hx => by
  rcases merge_mem hx with ⟨y, hy, _⟩ | ⟨y, hy, ey⟩
  · simp at hy
  · unfold kvE at hy
    obtain ⟨p, hp, rfl⟩ := List.mem_map.mp hy
    rw [← ey]
    intro z
    have z' : ((p.1 : Nat) : Int) = (v : Int) := Sum.inl.inj z
    exact h p hp (by omega)
end DL
namespace W17
open DL
open L2 (atI atI_nat)
theorem div_loop (S : Sto) : ∀ (k : Nat) (xs : List D) (a b : Nat) (z : Sl), b < 2 ^ k → 2 * k + 1 ≤ xs.length →
    forF (gNm 2) (sSeq (sIf (tBl (eBin D.eq (bVar 1) (eC (.int 0)))) (sRet (eCB gAbs (aCons (bVar 0) aNil))) sNx) (sPar 0 1 (aCons (eVar 1) (aCons (eBin D.mod (bVar 0) (bVar 1)) aNil)))) xs [.sh (.int (a : Int)), .sh (.int (b : Int)), z] S = some (.rt (.int ((Nat.gcd a b : Nat) : Int)) S) := by
  have fin : ∀ (x : D) (xs : List D) (a : Nat) (z : Sl), forF (gNm 2) (sSeq (sIf (tBl (eBin D.eq (bVar 1) (eC (.int 0)))) (sRet (eCB gAbs (aCons (bVar 0) aNil))) sNx) (sPar 0 1 (aCons (eVar 1) (aCons (eBin D.mod (bVar 0) (bVar 1)) aNil)))) (x :: xs) [.sh (.int (a : Int)), .sh (.int ((0 : Nat) : Int)), z] S = some (.rt (.int (a : Int)) S) := fun x xs a z => by
    refine forF_ret (ρ1 := [.sh (.int (a : Int)), .sh (.int ((0 : Nat) : Int)), .sh x]) rfl (sSeq_rt (sIf_t (S1 := S) (tBl_of ?_) (sRet_of ?_)))
    · simp only [fnD, fnE, fnOut, rho0, eVar, bVar, Sl.rd, eC, eBin, eTup, eLst, aNil, aCons, eCB, eCall, tTru, tBl, tAn, DL.tOr, tNo, eAn, DL.eOr, eNo, eIf, eIxR, eSl, pNo, pIs, iSeq, iZp, gNm, gTp, gsNil, gsCons, sNx, sBk, sCt, sSeq, Out.seq, sIf, sAsg, sOwn, sPar, sPar3, sRet, sFz, sPub, sDn, sAug, D.iadd, D.imul, sParDF, sParFF, cellOf, iEn, D.isB, D.notB, sSetR, sSetIx, sMut, sDrop, sFor, eLc, tYs, wipeR, D.elems, D.truth, D.add, D.sub, D.mul, D.fdiv, D.mod, D.pow, D.lt, D.le, D.gt, D.ge, D.isN, D.notN, D.ix, D.cat, liftI, Option.bind_some, Option.bind_none, Option.map_some, Option.map_none, List.map_cons, List.map_nil, List.length_cons, List.length_nil, List.cons_append, List.nil_append, List.replicate, List.set_cons_zero, List.set_cons_succ, List.getElem?_cons_zero, List.getElem?_cons_succ, Nat.reduceAdd, Nat.reduceSub, Nat.reduceLeDiff, if_true, if_false, ↓reduceIte, List.isEmpty_nil, List.isEmpty_cons, Bool.not_true, Bool.not_false, Bool.false_eq_true, decide_true, decide_false, decide_eq_true_eq, eq_int]; rfl
    · simp only [fnD, fnE, fnOut, rho0, eVar, bVar, Sl.rd, eC, eBin, eTup, eLst, aNil, aCons, eCB, eCall, tTru, tBl, tAn, DL.tOr, tNo, eAn, DL.eOr, eNo, eIf, eIxR, eSl, pNo, pIs, iSeq, iZp, gNm, gTp, gsNil, gsCons, sNx, sBk, sCt, sSeq, Out.seq, sIf, sAsg, sOwn, sPar, sPar3, sRet, sFz, sPub, sDn, sAug, D.iadd, D.imul, sParDF, sParFF, cellOf, iEn, D.isB, D.notB, sSetR, sSetIx, sMut, sDrop, sFor, eLc, tYs, wipeR, D.elems, D.truth, D.add, D.sub, D.mul, D.fdiv, D.mod, D.pow, D.lt, D.le, D.gt, D.ge, D.isN, D.notN, D.ix, D.cat, liftI, Option.bind_some, Option.bind_none, Option.map_some, Option.map_none, List.map_cons, List.map_nil, List.length_cons, List.length_nil, List.cons_append, List.nil_append, List.replicate, List.set_cons_zero, List.set_cons_succ, List.getElem?_cons_zero, List.getElem?_cons_succ, Nat.reduceAdd, Nat.reduceSub, Nat.reduceLeDiff, if_true, if_false, ↓reduceIte, List.isEmpty_nil, List.isEmpty_cons, Bool.not_true, Bool.not_false, Bool.false_eq_true, decide_true, decide_false, decide_eq_true_eq, gAbs]
      rw [if_neg (by omega)]
  have step : ∀ (x : D) (xs : List D) (a b : Nat) (z : Sl), b ≠ 0 → forF (gNm 2) (sSeq (sIf (tBl (eBin D.eq (bVar 1) (eC (.int 0)))) (sRet (eCB gAbs (aCons (bVar 0) aNil))) sNx) (sPar 0 1 (aCons (eVar 1) (aCons (eBin D.mod (bVar 0) (bVar 1)) aNil)))) (x :: xs) [.sh (.int (a : Int)), .sh (.int (b : Int)), z] S =
      forF (gNm 2) (sSeq (sIf (tBl (eBin D.eq (bVar 1) (eC (.int 0)))) (sRet (eCB gAbs (aCons (bVar 0) aNil))) sNx) (sPar 0 1 (aCons (eVar 1) (aCons (eBin D.mod (bVar 0) (bVar 1)) aNil)))) xs [.sh (.int (b : Int)), .sh (.int ((a % b : Nat) : Int)), .sh x] S := fun x xs a b z hb => by
    have e0 : decide ((b : Int) = 0) = false := decide_eq_false (by omega)
    refine forF_step (ρ1 := [.sh (.int (a : Int)), .sh (.int (b : Int)), .sh x]) (S2 := S) rfl (sSeq_of (S1 := S) (ρ' := [.sh (.int (a : Int)), .sh (.int (b : Int)), .sh x]) (sIf_f (S1 := S) (tBl_of ?_) rfl) ?_)
    · simp only [fnD, fnE, fnOut, rho0, eVar, bVar, Sl.rd, eC, eBin, eTup, eLst, aNil, aCons, eCB, eCall, tTru, tBl, tAn, DL.tOr, tNo, eAn, DL.eOr, eNo, eIf, eIxR, eSl, pNo, pIs, iSeq, iZp, gNm, gTp, gsNil, gsCons, sNx, sBk, sCt, sSeq, Out.seq, sIf, sAsg, sOwn, sPar, sPar3, sRet, sFz, sPub, sDn, sAug, D.iadd, D.imul, sParDF, sParFF, cellOf, iEn, D.isB, D.notB, sSetR, sSetIx, sMut, sDrop, sFor, eLc, tYs, wipeR, D.elems, D.truth, D.add, D.sub, D.mul, D.fdiv, D.mod, D.pow, D.lt, D.le, D.gt, D.ge, D.isN, D.notN, D.ix, D.cat, liftI, Option.bind_some, Option.bind_none, Option.map_some, Option.map_none, List.map_cons, List.map_nil, List.length_cons, List.length_nil, List.cons_append, List.nil_append, List.replicate, List.set_cons_zero, List.set_cons_succ, List.getElem?_cons_zero, List.getElem?_cons_succ, Nat.reduceAdd, Nat.reduceSub, Nat.reduceLeDiff, if_true, if_false, ↓reduceIte, List.isEmpty_nil, List.isEmpty_cons, Bool.not_true, Bool.not_false, Bool.false_eq_true, decide_true, decide_false, decide_eq_true_eq, eq_int, e0]
    · have m : eBin D.mod (bVar 0) (bVar 1) [.sh (.int (a : Int)), .sh (.int (b : Int)), .sh x] S = some (.int ((a % b : Nat) : Int), S) := eBin_of (d1 := .int (a : Int)) (d2 := .int (b : Int)) (S1 := S) (S2 := S) rfl rfl (mod_nat hb)
      simp only [sPar, aCons, aNil, eVar, m, List.getElem?_cons_zero, List.getElem?_cons_succ, Option.bind_some, List.set_cons_zero, List.set_cons_succ]
  intro k
  induction k with
  | zero =>
    intro xs a b z hb hx
    obtain ⟨x, xs, rfl⟩ : ∃ x r, xs = x :: r := by cases xs with | nil => simp at hx | cons x r => exact ⟨x, r, rfl⟩
    have : b = 0 := by simpa using hb
    subst this
    rw [fin, Nat.gcd_zero_right]
  | succ k ih =>
    intro xs a b z hb hx
    obtain ⟨x, y, xs, rfl⟩ : ∃ x y r, xs = x :: y :: r := by
      match xs, hx with
      | x :: y :: r, _ => exact ⟨x, y, r, rfl⟩
      | [x], h => simp at h
      | [], h => simp at h
    by_cases h0 : b = 0
    · subst h0; rw [fin, Nat.gcd_zero_right]
    · rw [step x _ a b z h0]
      by_cases h1 : a % b = 0
      · rw [h1, fin]
        have : Nat.gcd a b = b := by rw [Nat.gcd_comm, Nat.gcd_rec, h1, Nat.gcd_zero_left]
        rw [this]
      · rw [step y _ b (a % b) _ h1, ih xs (a % b) (b % (a % b)) _ (rem_half hb (Nat.pos_of_ne_zero h1) (Nat.pos_of_ne_zero h0)) (by simp at hx; omega)]
        have e1 : Nat.gcd (a % b) (b % (a % b)) = Nat.gcd a b := by
          rw [Nat.gcd_comm a b, Nat.gcd_rec b a, Nat.gcd_rec (a % b) b, Nat.gcd_comm]
        rw [e1]
theorem divisor_s (a b : Int) (S : Sto) (ha : 0 ≤ a) (hb : 0 ≤ b) (h : b.natAbs < 2 ^ 8999) : F__law_divisor [.int a, .int b] S = some (.int (Nat.gcd a.natAbs b.natAbs : Int), S) := by
  obtain ⟨a, rfl⟩ := Int.eq_ofNat_of_zero_le ha
  obtain ⟨b, rfl⟩ := Int.eq_ofNat_of_zero_le hb
  have l := div_loop S 8999 ((List.range 20000).map fun (i : Nat) => D.int (i : Int)) a b .un (by simpa using h) (by simp)
  unfold F__law_divisor b__law_divisor
  exact fnD_rt (S' := S) (sSeq_rt (sFor_of (iRng_of (ds := [.int ((20000 : Nat) : Int)]) (S1 := S) rfl (rangeOf_nat (by decide))) l)) rfl
theorem law_fraction_s (a b : Int) (S : Sto) (ha : 0 ≤ a) (hb : 0 < b) (h2 : b.natAbs < 2 ^ 8999) : F__law_fraction [.int a, .int b] S = some (frD (nf a b), S) := by
  have fs := divisor_s a b S ha (Int.le_of_lt hb) h2
  have o : okDiv (Nat.gcd a.natAbs b.natAbs : Int) = true := okDiv_t (gcd_pos hb) (by have := gcd_le (a := a) hb; omega)
  have d : decide (0 < b) = true := decide_eq_true hb
  unfold F__law_fraction b__law_fraction
  simp only [fnD, fnE, fnOut, rho0, eVar, bVar, Sl.rd, eC, eBin, eTup, eLst, aNil, aCons, eCB, eCall, tTru, tBl, tAn, DL.tOr, tNo, eAn, DL.eOr, eNo, eIf, eIxR, eSl, pNo, pIs, iSeq, iZp, gNm, gTp, gsNil, gsCons, sNx, sBk, sCt, sSeq, Out.seq, sIf, sAsg, sOwn, sPar, sPar3, sRet, sFz, sPub, sDn, sAug, D.iadd, D.imul, sParDF, sParFF, cellOf, iEn, D.isB, D.notB, sSetR, sSetIx, sMut, sDrop, sFor, eLc, tYs, wipeR, D.elems, D.truth, D.add, D.sub, D.mul, D.fdiv, D.mod, D.pow, D.lt, D.le, D.gt, D.ge, D.isN, D.notN, D.ix, D.cat, liftI, Option.bind_some, Option.bind_none, Option.map_some, Option.map_none, List.map_cons, List.map_nil, List.length_cons, List.length_nil, List.cons_append, List.nil_append, List.replicate, List.set_cons_zero, List.set_cons_succ, List.getElem?_cons_zero, List.getElem?_cons_succ, Nat.reduceAdd, Nat.reduceSub, Nat.reduceLeDiff, if_true, if_false, ↓reduceIte, List.isEmpty_nil, List.isEmpty_cons, Bool.not_true, Bool.not_false, Bool.false_eq_true, decide_true, decide_false, decide_eq_true_eq, fs, d, o, sz2]
  rfl
theorem law_plus_s {j k : Nat} {p q : Int × Int} (S : Sto) (hp : Fb j p) (hq : Fb k q) (h1 : 0 ≤ p.1) (h2 : 0 ≤ q.1) (l : j + k ≤ 8990) : F__law_plus [frD p, frD q] S = some (frD (plF p q), S) := by
  have m := fun {x : Int} {i : Nat} (h : x.natAbs < 2 ^ i) (l : i ≤ 8999) => bd_mono h l
  have o1 := okMul_t (m hp.n (by omega)) (m hq.d (by omega))
  have o2 := okMul_t (m hq.n (by omega)) (m hp.d (by omega))
  have o3 := okMul_t (m hp.d (by omega)) (m hq.d (by omega))
  have fs := law_fraction_s (p.1 * q.2 + q.1 * p.2) (p.2 * q.2) S (Int.add_nonneg (Int.mul_nonneg h1 (Int.le_of_lt hq.pos)) (Int.mul_nonneg h2 (Int.le_of_lt hp.pos))) (Int.mul_pos hp.pos hq.pos) (m (mul_bd hp.d hq.d) (by omega))
  unfold F__law_plus b__law_plus frD
  simp only [fnD, fnE, fnOut, rho0, eVar, bVar, Sl.rd, eC, eBin, eTup, eLst, aNil, aCons, eCB, eCall, tTru, tBl, tAn, DL.tOr, tNo, eAn, DL.eOr, eNo, eIf, eIxR, eSl, pNo, pIs, iSeq, iZp, gNm, gTp, gsNil, gsCons, sNx, sBk, sCt, sSeq, Out.seq, sIf, sAsg, sOwn, sPar, sPar3, sRet, sFz, sPub, sDn, sAug, D.iadd, D.imul, sParDF, sParFF, cellOf, iEn, D.isB, D.notB, sSetR, sSetIx, sMut, sDrop, sFor, eLc, tYs, wipeR, D.elems, D.truth, D.add, D.sub, D.mul, D.fdiv, D.mod, D.pow, D.lt, D.le, D.gt, D.ge, D.isN, D.notN, D.ix, D.cat, liftI, Option.bind_some, Option.bind_none, Option.map_some, Option.map_none, List.map_cons, List.map_nil, List.length_cons, List.length_nil, List.cons_append, List.nil_append, List.replicate, List.set_cons_zero, List.set_cons_succ, List.getElem?_cons_zero, List.getElem?_cons_succ, Nat.reduceAdd, Nat.reduceSub, Nat.reduceLeDiff, if_true, if_false, ↓reduceIte, List.isEmpty_nil, List.isEmpty_cons, Bool.not_true, Bool.not_false, Bool.false_eq_true, decide_true, decide_false, decide_eq_true_eq, at0, at1, o1, o2, o3, fs]
  rfl
theorem law_times_s {j k : Nat} {p q : Int × Int} (S : Sto) (hp : Fb j p) (hq : Fb k q) (h1 : 0 ≤ p.1) (h2 : 0 ≤ q.1) (l : j + k ≤ 8990) : F__law_times [frD p, frD q] S = some (frD (tmF p q), S) := by
  have m := fun {x : Int} {i : Nat} (h : x.natAbs < 2 ^ i) (l : i ≤ 8999) => bd_mono h l
  have o1 := okMul_t (m hp.n (by omega)) (m hq.n (by omega))
  have o3 := okMul_t (m hp.d (by omega)) (m hq.d (by omega))
  have fs := law_fraction_s (p.1 * q.1) (p.2 * q.2) S (Int.mul_nonneg h1 h2) (Int.mul_pos hp.pos hq.pos) (m (mul_bd hp.d hq.d) (by omega))
  unfold F__law_times b__law_times frD
  simp only [fnD, fnE, fnOut, rho0, eVar, bVar, Sl.rd, eC, eBin, eTup, eLst, aNil, aCons, eCB, eCall, tTru, tBl, tAn, DL.tOr, tNo, eAn, DL.eOr, eNo, eIf, eIxR, eSl, pNo, pIs, iSeq, iZp, gNm, gTp, gsNil, gsCons, sNx, sBk, sCt, sSeq, Out.seq, sIf, sAsg, sOwn, sPar, sPar3, sRet, sFz, sPub, sDn, sAug, D.iadd, D.imul, sParDF, sParFF, cellOf, iEn, D.isB, D.notB, sSetR, sSetIx, sMut, sDrop, sFor, eLc, tYs, wipeR, D.elems, D.truth, D.add, D.sub, D.mul, D.fdiv, D.mod, D.pow, D.lt, D.le, D.gt, D.ge, D.isN, D.notN, D.ix, D.cat, liftI, Option.bind_some, Option.bind_none, Option.map_some, Option.map_none, List.map_cons, List.map_nil, List.length_cons, List.length_nil, List.cons_append, List.nil_append, List.replicate, List.set_cons_zero, List.set_cons_succ, List.getElem?_cons_zero, List.getElem?_cons_succ, Nat.reduceAdd, Nat.reduceSub, Nat.reduceLeDiff, if_true, if_false, ↓reduceIte, List.isEmpty_nil, List.isEmpty_cons, Bool.not_true, Bool.not_false, Bool.false_eq_true, decide_true, decide_false, decide_eq_true_eq, at0, at1, o1, o3, fs]
  rfl
end W17

set_option Elab.async false
set_option linter.all false
set_option maxRecDepth 100000
namespace W17
open DL
open L2 (atI atI_nat ixN)
/-- the counter's list -/
def cS (l : List D) (p q t : Int) : Sto := [.lst [.lst l, .int p, .int q, .int t, .int 20]]
section
variable {l : List D} {p q t : Int} {ρ : Rho}
theorem get0 : eIxR (eVar 0) (eC (.int 0)) (.sh (.ref 0) :: ρ) (cS l p q t) = some (.lst l, cS l p q t) := rfl
theorem get1 : eIxR (eVar 0) (eC (.int 1)) (.sh (.ref 0) :: ρ) (cS l p q t) = some (.int p, cS l p q t) := rfl
theorem get2 : eIxR (eVar 0) (eC (.int 2)) (.sh (.ref 0) :: ρ) (cS l p q t) = some (.int q, cS l p q t) := rfl
theorem get3 : eIxR (eVar 0) (eC (.int 3)) (.sh (.ref 0) :: ρ) (cS l p q t) = some (.int t, cS l p q t) := rfl
theorem set1 {f : Ex} {S : Sto} {i : Int} (h : f (.sh (.ref 0) :: ρ) S = some (.int i, cS l p q t)) : sSetR (eVar 0) f (eC (.int 1)) (.sh (.ref 0) :: ρ) S = some (.nx (.sh (.ref 0) :: ρ) (cS l i q t)) := by
  unfold sSetR; rw [h]; rfl
theorem set2 {f : Ex} {S : Sto} {i : Int} (h : f (.sh (.ref 0) :: ρ) S = some (.int i, cS l p q t)) : sSetR (eVar 0) f (eC (.int 2)) (.sh (.ref 0) :: ρ) S = some (.nx (.sh (.ref 0) :: ρ) (cS l p i t)) := by
  unfold sSetR; rw [h]; rfl
theorem set3 {f : Ex} {S : Sto} {i : Int} (h : f (.sh (.ref 0) :: ρ) S = some (.int i, cS l p q t)) : sSetR (eVar 0) f (eC (.int 3)) (.sh (.ref 0) :: ρ) S = some (.nx (.sh (.ref 0) :: ρ) (cS l p q i)) := by
  unfold sSetR; rw [h]; rfl
theorem len0 : eCB gLen (aCons (eIxR (eVar 0) (eC (.int 0))) aNil) (.sh (.ref 0) :: ρ) (cS l p q t) = some (.int l.length, cS l p q t) := rfl
end
theorem i_add (i j : Int) : D.add (.int i) (.int j) = some (.int (i + j)) := rfl
theorem i_sub (i j : Int) : D.sub (.int i) (.int j) = some (.int (i - j)) := rfl
theorem i_mul {i j : Int} {a b : Nat} (hi : i.natAbs < 2 ^ a) (hj : j.natAbs < 2 ^ b) (ha : a ≤ 8999) (hb : b ≤ 8999) : D.mul (.int i) (.int j) = some (.int (i * j)) := by
  have o := okMul_t (bd_mono hi ha) (bd_mono hj hb)
  simp only [D.mul, liftI, o, if_true]
theorem i_mod {i j : Int} (hj : 0 < j) : D.mod (.int i) (.int j) = some (.int (i % j)) := by
  have : j ≠ 0 := by omega
  simp only [D.mod, liftI, if_pos this, Int.fmod_eq_emod_of_nonneg i (Int.le_of_lt hj)]
theorem i_div {i j : Int} (hj : 0 < j) (h : j.natAbs < 2 ^ 8999) : D.fdiv (.int i) (.int j) = some (.int (i / j)) := by
  have o := okDiv_t hj h
  simp only [D.fdiv, liftI, o, if_true]
theorem i_lt (i j : Int) : D.lt (.int i) (.int j) = some (.bl (decide (i < j))) := rfl
theorem i_ge (i j : Int) : D.ge (.int i) (.int j) = some (.bl (decide (j ≤ i))) := rfl
theorem i_pow : D.pow (.int 10) (.int 18) = some (.int 1000000000000000000) := by
  have c : (0 : Int) ≤ 18 ∧ (18 : Int) ≤ 1000000 ∧ (10 : Int).natAbs < 2 ^ 64 := by decide
  simp only [D.pow, liftI, if_pos c]
  rfl
theorem bd64 {x : Int} (h0 : 0 ≤ x) (h : x < 18446744073709551616) : x.natAbs < 2 ^ 64 := by omega
/-- the end of _law_fill, from a number that is not great -/
theorem fill_tail (ns : List Int) (p q t n : Int) (hn : 0 ≤ n) (hn2 : n < 2000000000000000000) (ht : 0 ≤ t) (ht2 : t ≤ 200000) :
    ∃ r : Int, 0 ≤ r ∧ (sSeq (sIf (tAn (tTru (eIxR (eVar 0) (eC (.int 0)))) (tBl (eBin D.ge (eIxR (eVar 0) (eC (.int 1))) (eCB gLen (aCons (eIxR (eVar 0) (eC (.int 0))) aNil))))) (sAsg (eBin D.add (bVar 1) (eBin D.mod (eCB gInt (aCons (eBin D.ix (eIxR (eVar 0) (eC (.int 0))) (eUn D.neg (eC (.int 1)))) aNil)) (eC (.int 1000003)))) (gNm 1)) sNx)
    (sSeq (sAsg (eBin D.mod (eCB gInt (aCons (eBin D.add (eBin D.mul (bVar 1) (eC (.int 48271))) (eBin D.mul (eIxR (eVar 0) (eC (.int 3))) (eC (.int 69621)))) aNil)) (eC (.int 2147483647))) (gNm 1))
    (sRet (eBin D.add (eBin D.fdiv (eCB gInt (aCons (eBin D.add (eBin D.add (eBin D.mul (bVar 1) (bVar 1)) (eBin D.mul (eIxR (eVar 0) (eC (.int 3))) (eC (.int 7919)))) (eC (.int 11))) aNil)) (eC (.int 64))) (eC (.int 36028797018963968)))))) [.sh (.ref 0), .sh (.int n)] (cS (ns.map D.int) p q t) = some (.rt (.int r) (cS (ns.map D.int) p q t)) := by
  generalize hS : cS (ns.map D.int) p q t = S
  have g0 : eIxR (eVar 0) (eC (.int 0)) = eIxR (eVar 0) (eC (.int 0)) := rfl
  obtain ⟨m, hm0, hm1, h4⟩ : ∃ m : Int, 0 ≤ m ∧ m < 3000000000000000000 ∧ sIf (tAn (tTru (eIxR (eVar 0) (eC (.int 0)))) (tBl (eBin D.ge (eIxR (eVar 0) (eC (.int 1))) (eCB gLen (aCons (eIxR (eVar 0) (eC (.int 0))) aNil))))) (sAsg (eBin D.add (bVar 1) (eBin D.mod (eCB gInt (aCons (eBin D.ix (eIxR (eVar 0) (eC (.int 0))) (eUn D.neg (eC (.int 1)))) aNil)) (eC (.int 1000003)))) (gNm 1)) sNx [.sh (.ref 0), .sh (.int n)] S = some (.nx [.sh (.ref 0), .sh (.int m)] S) := by
    subst hS
    have t2 : tBl (eBin D.ge (eIxR (eVar 0) (eC (.int 1))) (eCB gLen (aCons (eIxR (eVar 0) (eC (.int 0))) aNil))) [.sh (.ref 0), .sh (.int n)] (cS (ns.map D.int) p q t) = some (decide (((ns.map D.int).length : Int) ≤ p), cS (ns.map D.int) p q t) := tBl_of (eBin_of get1 len0 (i_ge _ _))
    cases ns with
    | nil =>
      refine ⟨n, hn, by omega, sIf_f (S1 := cS [] p q t) ?_ rfl⟩
      rfl
    | cons x ns =>
      have t1 : tTru (eIxR (eVar 0) (eC (.int 0))) [.sh (.ref 0), .sh (.int n)] (cS ((x :: ns).map D.int) p q t) = some (true, cS ((x :: ns).map D.int) p q t) := rfl
      by_cases c : (((x :: ns).map D.int).length : Int) ≤ p
      · rw [decide_eq_true c] at t2
        obtain ⟨y, hy⟩ : ∃ y : Int, atI ((x :: ns).map D.int) (-1) = some (.int y) := by
          refine ⟨(x :: ns).getLast (by simp), ?_⟩
          conv => lhs; rw [← List.dropLast_concat_getLast (l := x :: ns) (by simp), List.map_append]
          exact L2.atI_last _ _
        have e1 := Int.emod_nonneg y (b := 1000003) (by decide)
        have e2 := Int.emod_lt_of_pos y (b := 1000003) (by decide)
        refine ⟨n + y % 1000003, by omega, by omega, sIf_t (S1 := cS ((x :: ns).map D.int) p q t) ?_ ?_⟩
        · simp only [tAn, t1, Option.bind_some, if_true, t2]
        · have hx : eBin D.ix (eIxR (eVar 0) (eC (.int 0))) (eUn D.neg (eC (.int 1))) [.sh (.ref 0), .sh (.int n)] (cS ((x :: ns).map D.int) p q t) = some (.int y, cS ((x :: ns).map D.int) p q t) := eBin_of (d2 := .int (-1)) (S2 := cS ((x :: ns).map D.int) p q t) get0 rfl hy
          exact sAsg_of (eBin_of (d1 := .int n) (S1 := cS ((x :: ns).map D.int) p q t) rfl (eBin_of (d1 := .int y) (d2 := .int 1000003) (S2 := cS ((x :: ns).map D.int) p q t) (eCB_of (aCons_of hx rfl) rfl) rfl (i_mod (by decide))) (i_add _ _)) rfl
      · rw [decide_eq_false c] at t2
        refine ⟨n, hn, by omega, sIf_f (S1 := cS ((x :: ns).map D.int) p q t) ?_ rfl⟩
        simp only [tAn, t1, Option.bind_some, if_true, t2]
  subst hS
  have k1 : D.mul (.int m) (.int 48271) = some (.int (m * 48271)) := i_mul (a := 64) (b := 64) (bd64 hm0 (by omega)) (by decide) (by decide) (by decide)
  have k2 : D.mul (.int t) (.int 69621) = some (.int (t * 69621)) := i_mul (a := 64) (b := 64) (bd64 ht (by omega)) (by decide) (by decide) (by decide)
  have e1 := Int.emod_nonneg (m * 48271 + t * 69621) (b := 2147483647) (by decide)
  have e2 := Int.emod_lt_of_pos (m * 48271 + t * 69621) (b := 2147483647) (by decide)
  have h5 : sAsg (eBin D.mod (eCB gInt (aCons (eBin D.add (eBin D.mul (bVar 1) (eC (.int 48271))) (eBin D.mul (eIxR (eVar 0) (eC (.int 3))) (eC (.int 69621)))) aNil)) (eC (.int 2147483647))) (gNm 1) [.sh (.ref 0), .sh (.int m)] (cS (ns.map D.int) p q t) = some (.nx [.sh (.ref 0), .sh (.int ((m * 48271 + t * 69621) % 2147483647))] (cS (ns.map D.int) p q t)) :=
    sAsg_of (eBin_of (d1 := .int (m * 48271 + t * 69621)) (d2 := .int 2147483647) (S2 := cS (ns.map D.int) p q t) (eCB_of (ds := [.int (m * 48271 + t * 69621)]) (S1 := cS (ns.map D.int) p q t) (aCons_of (S1 := cS (ns.map D.int) p q t) (eBin_of (S2 := cS (ns.map D.int) p q t) (eBin_of (d1 := .int m) (d2 := .int 48271) (S1 := cS (ns.map D.int) p q t) (S2 := cS (ns.map D.int) p q t) rfl rfl k1) (eBin_of (d2 := .int 69621) (S2 := cS (ns.map D.int) p q t) get3 rfl k2) (i_add _ _)) rfl) rfl) rfl (i_mod (by decide))) rfl
  generalize (m * 48271 + t * 69621) % 2147483647 = u at *
  have k3 : D.mul (.int u) (.int u) = some (.int (u * u)) := i_mul (a := 64) (b := 64) (bd64 e1 (by omega)) (bd64 e1 (by omega)) (by decide) (by decide)
  have k4 : D.mul (.int t) (.int 7919) = some (.int (t * 7919)) := i_mul (a := 64) (b := 64) (bd64 ht (by omega)) (by decide) (by decide) (by decide)
  have k5 : D.fdiv (.int (u * u + t * 7919 + 11)) (.int 64) = some (.int ((u * u + t * 7919 + 11) / 64)) := i_div (by decide) (bd_mono (j := 64) (by decide) (by decide))
  have uu : 0 ≤ u * u := Int.mul_nonneg e1 e1
  refine ⟨(u * u + t * 7919 + 11) / 64 + 36028797018963968, by omega, sSeq_of h4 (sSeq_of h5 (sRet_of ?_))⟩
  exact eBin_of (d1 := .int ((u * u + t * 7919 + 11) / 64)) (d2 := .int 36028797018963968) (S1 := cS (ns.map D.int) p q t) (S2 := cS (ns.map D.int) p q t) (eBin_of (d1 := .int (u * u + t * 7919 + 11)) (d2 := .int 64) (S1 := cS (ns.map D.int) p q t) (S2 := cS (ns.map D.int) p q t) (eCB_of (ds := [.int (u * u + t * 7919 + 11)]) (S1 := cS (ns.map D.int) p q t) (aCons_of (S1 := cS (ns.map D.int) p q t) (eBin_of (d1 := .int (u * u + t * 7919)) (d2 := .int 11) (S1 := cS (ns.map D.int) p q t) (S2 := cS (ns.map D.int) p q t) (eBin_of (d1 := .int (u * u)) (S1 := cS (ns.map D.int) p q t) (S2 := cS (ns.map D.int) p q t) (eBin_of (d1 := .int u) (d2 := .int u) (S1 := cS (ns.map D.int) p q t) (S2 := cS (ns.map D.int) p q t) rfl rfl k3) (eBin_of (d2 := .int 7919) (S2 := cS (ns.map D.int) p q t) get3 rfl k4) (i_add _ _)) rfl (i_add _ _)) rfl) rfl) rfl k5) rfl (i_add _ _)
/-- the counter is in order; m bounds how often it was filled -/
def Good (m : Nat) (S : Sto) : Prop := ∃ (ns : List Int) (p q t : Int), S = cS (ns.map D.int) p q t ∧ 0 ≤ p ∧ 0 ≤ q ∧ 0 ≤ t ∧ t ≤ m
theorem fill_s (ns : List Int) (p q t : Int) (hp : 0 ≤ p) (ht : 0 ≤ t) (ht2 : t ≤ 100000) : ∃ (r : Int) (p' : Int), 0 ≤ r ∧ 0 ≤ p' ∧ F__law_fill [.ref 0] (cS (ns.map D.int) p q t) = some (.int r, cS (ns.map D.int) p' q (t + 1)) := by
  have s1 : sSetR (eVar 0) (eBin D.add (eIxR (eVar 0) (eC (.int 3))) (eC (.int 1))) (eC (.int 3)) [.sh (.ref 0), .un] (cS (ns.map D.int) p q t) = some (.nx [.sh (.ref 0), .un] (cS (ns.map D.int) p q (t + 1))) := set3 (eBin_of (S2 := cS (ns.map D.int) p q t) get3 rfl (i_add _ _))
  have k1 : D.mul (.int (t + 1)) (.int 69621) = some (.int ((t + 1) * 69621)) := i_mul (a := 64) (b := 64) (bd64 (by omega) (by omega)) (by decide) (by decide) (by decide)
  have s2 : sAsg (eBin D.add (eBin D.mul (eIxR (eVar 0) (eC (.int 3))) (eC (.int 69621))) (eC (.int 12345))) (gNm 1) [.sh (.ref 0), .un] (cS (ns.map D.int) p q (t + 1)) = some (.nx [.sh (.ref 0), .sh (.int ((t + 1) * 69621 + 12345))] (cS (ns.map D.int) p q (t + 1))) :=
    sAsg_of (eBin_of (d2 := .int 12345) (S2 := cS (ns.map D.int) p q (t + 1)) (eBin_of (d2 := .int 69621) (S2 := cS (ns.map D.int) p q (t + 1)) get3 rfl k1) rfl (i_add _ _)) rfl
  have c3 : tBl (eBin D.lt (eIxR (eVar 0) (eC (.int 1))) (eCB gLen (aCons (eIxR (eVar 0) (eC (.int 0))) aNil))) [.sh (.ref 0), .sh (.int ((t + 1) * 69621 + 12345))] (cS (ns.map D.int) p q (t + 1)) = some (decide (p < (ns.map D.int).length), cS (ns.map D.int) p q (t + 1)) := tBl_of (eBin_of get1 len0 (i_lt _ _))
  unfold F__law_fill b__law_fill
  by_cases c : p < (ns.map D.int).length
  · rw [decide_eq_true c] at c3
    obtain ⟨j, rfl⟩ := Int.eq_ofNat_of_zero_le hp
    have hj : j < ns.length := by simpa using c
    have a : atI (ns.map D.int) (j : Int) = some (.int ns[j]) := by rw [atI_lt (by simpa using hj), List.getElem_map]
    have s3 : sAsg (eBin D.ix (eIxR (eVar 0) (eC (.int 0))) (eIxR (eVar 0) (eC (.int 1)))) (gNm 1) [.sh (.ref 0), .sh (.int ((t + 1) * 69621 + 12345))] (cS (ns.map D.int) j q (t + 1)) = some (.nx [.sh (.ref 0), .sh (.int ns[j])] (cS (ns.map D.int) j q (t + 1))) := sAsg_of (eBin_of get0 get1 a) rfl
    generalize ns[j] = x at s3
    have s4 : sSetR (eVar 0) (eBin D.add (eIxR (eVar 0) (eC (.int 1))) (eC (.int 1))) (eC (.int 1)) [.sh (.ref 0), .sh (.int x)] (cS (ns.map D.int) j q (t + 1)) = some (.nx [.sh (.ref 0), .sh (.int x)] (cS (ns.map D.int) (j + 1) q (t + 1))) := set1 (eBin_of (S2 := cS (ns.map D.int) j q (t + 1)) get1 rfl (i_add _ _))
    obtain ⟨y, hy0, s5⟩ : ∃ y : Int, 0 ≤ y ∧ sIf (tBl (eBin D.lt (bVar 1) (eC (.int 0)))) (sAsg (eBin D.sub (eBin D.sub (eC (.int 0)) (eC (.int 1))) (bVar 1)) (gNm 1)) sNx [.sh (.ref 0), .sh (.int x)] (cS (ns.map D.int) (j + 1) q (t + 1)) = some (.nx [.sh (.ref 0), .sh (.int y)] (cS (ns.map D.int) (j + 1) q (t + 1))) := by
      have t5 : tBl (eBin D.lt (bVar 1) (eC (.int 0))) [.sh (.ref 0), .sh (.int x)] (cS (ns.map D.int) (j + 1) q (t + 1)) = some (decide (x < 0), cS (ns.map D.int) (j + 1) q (t + 1)) := rfl
      by_cases hx : x < 0
      · rw [decide_eq_true hx] at t5
        exact ⟨0 - 1 - x, by omega, sIf_t t5 rfl⟩
      · rw [decide_eq_false hx] at t5
        exact ⟨x, by omega, sIf_f t5 rfl⟩
    have t6 : tBl (eBin D.ge (bVar 1) (eBin D.pow (eC (.int 10)) (eC (.int 18)))) [.sh (.ref 0), .sh (.int y)] (cS (ns.map D.int) (j + 1) q (t + 1)) = some (decide (1000000000000000000 ≤ y), cS (ns.map D.int) (j + 1) q (t + 1)) := tBl_of (eBin_of (d1 := .int y) (S1 := cS (ns.map D.int) (j + 1) q (t + 1)) (S2 := cS (ns.map D.int) (j + 1) q (t + 1)) rfl (eBin_of (d1 := .int 10) (d2 := .int 18) (S1 := cS (ns.map D.int) (j + 1) q (t + 1)) (S2 := cS (ns.map D.int) (j + 1) q (t + 1)) rfl rfl i_pow) (i_ge _ _))
    by_cases hy : 1000000000000000000 ≤ y
    · rw [decide_eq_true hy] at t6
      exact ⟨y, j + 1, hy0, by omega, fnD_rt (S' := cS (ns.map D.int) (j + 1) q (t + 1)) (sSeq_of s1 (sSeq_of s2 (sSeq_rt (sIf_t c3 (sSeq_of s3 (sSeq_of s4 (sSeq_of s5 (sIf_t t6 rfl)))))))) rfl⟩
    · rw [decide_eq_false hy] at t6
      obtain ⟨r, hr, ft⟩ := fill_tail ns (j + 1) q (t + 1) y hy0 (by omega) (by omega) (by omega)
      exact ⟨r, j + 1, hr, by omega, fnD_rt (S' := cS (ns.map D.int) (j + 1) q (t + 1)) (sSeq_of s1 (sSeq_of s2 (sSeq_of (S1 := cS (ns.map D.int) (j + 1) q (t + 1)) (sIf_t c3 (sSeq_of s3 (sSeq_of s4 (sSeq_of s5 (sIf_f t6 rfl))))) ft))) rfl⟩
  · rw [decide_eq_false c] at c3
    obtain ⟨r, hr, ft⟩ := fill_tail ns p q (t + 1) ((t + 1) * 69621 + 12345) (by omega) (by omega) (by omega) (by omega)
    exact ⟨r, p, hr, hp, fnD_rt (S' := cS (ns.map D.int) p q (t + 1)) (sSeq_of s1 (sSeq_of s2 (sSeq_of (S1 := cS (ns.map D.int) p q (t + 1)) (sIf_f c3 rfl) ft))) rfl⟩
theorem take_s {m : Nat} {S : Sto} (many : Int) (h : Good m S) (hm : m ≤ 50000) (h0 : 0 < many) (h1 : many ≤ 1000000) : ∃ (r : Nat) (S' : Sto), F__law_take [.ref 0, .int many] S = some (.int (r : Int), S') ∧ (r : Int) < many ∧ Good (m + 1) S' := by
  obtain ⟨ns, p, q, t, rfl, hp, hq, ht, htm⟩ := h
  have t1 : tBl (eBin D.lt (eIxR (eVar 0) (eC (.int 2))) (bVar 1)) [.sh (.ref 0), .sh (.int many), .un] (cS (ns.map D.int) p q t) = some (decide (q < many), cS (ns.map D.int) p q t) := tBl_of (eBin_of (d2 := .int many) (S2 := cS (ns.map D.int) p q t) get2 rfl (i_lt _ _))
  obtain ⟨p', q', t', hp', hq', ht', htm', s1⟩ : ∃ p' q' t' : Int, 0 ≤ p' ∧ 0 ≤ q' ∧ 0 ≤ t' ∧ t' ≤ ((m + 1 : Nat) : Int) ∧ sIf (tBl (eBin D.lt (eIxR (eVar 0) (eC (.int 2))) (bVar 1))) (sSetR (eVar 0) (eCall F__law_fill (aCons (eVar 0) aNil)) (eC (.int 2))) sNx [.sh (.ref 0), .sh (.int many), .un] (cS (ns.map D.int) p q t) = some (.nx [.sh (.ref 0), .sh (.int many), .un] (cS (ns.map D.int) p' q' t')) := by
    by_cases c : q < many
    · rw [decide_eq_true c] at t1
      obtain ⟨r, p', hr, hp', hf⟩ := fill_s ns p q t hp ht (by omega)
      exact ⟨p', r, t + 1, hp', hr, by omega, by omega, sIf_t t1 (set2 (eCall_of (S1 := cS (ns.map D.int) p q t) rfl hf))⟩
    · rw [decide_eq_false c] at t1
      exact ⟨p, q, t, hp, hq, ht, by omega, sIf_f t1 rfl⟩
  have e1 := Int.emod_nonneg q' (b := many) (by omega)
  have e2 := Int.emod_lt_of_pos q' h0
  have bm : many.natAbs < 2 ^ 8999 := bd_mono (j := 64) (by omega) (by decide)
  have s2 : sAsg (eBin D.mod (eCB gInt (aCons (eIxR (eVar 0) (eC (.int 2))) aNil)) (bVar 1)) (gNm 2) [.sh (.ref 0), .sh (.int many), .un] (cS (ns.map D.int) p' q' t') = some (.nx [.sh (.ref 0), .sh (.int many), .sh (.int (q' % many))] (cS (ns.map D.int) p' q' t')) :=
    sAsg_of (eBin_of (d2 := .int many) (S2 := cS (ns.map D.int) p' q' t') (eCB_of (aCons_of get2 rfl) rfl) rfl (i_mod h0)) rfl
  have s3 : sSetR (eVar 0) (eBin D.fdiv (eIxR (eVar 0) (eC (.int 2))) (bVar 1)) (eC (.int 2)) [.sh (.ref 0), .sh (.int many), .sh (.int (q' % many))] (cS (ns.map D.int) p' q' t') = some (.nx [.sh (.ref 0), .sh (.int many), .sh (.int (q' % many))] (cS (ns.map D.int) p' (q' / many) t')) :=
    set2 (eBin_of (d2 := .int many) (S2 := cS (ns.map D.int) p' q' t') get2 rfl (i_div h0 bm))
  obtain ⟨r, hr⟩ := Int.eq_ofNat_of_zero_le e1
  refine ⟨r, cS (ns.map D.int) p' (q' / many) t', ?_, by omega, ns, p', q' / many, t', rfl, hp', Int.ediv_nonneg hq' (Int.le_of_lt h0), ht', htm'⟩
  unfold F__law_take b__law_take
  rw [← hr]
  exact fnD_rt (S' := cS (ns.map D.int) p' (q' / many) t') (sSeq_of s1 (sSeq_of s2 (sSeq_of s3 rfl))) rfl
theorem ixN_lt {n j : Nat} (h : j < n) : ixN n (j : Int) = some j := by
  unfold ixN
  rw [if_pos (by omega), if_pos (by omega)]
  simp
theorem Good.len {m : Nat} {S : Sto} (h : Good m S) : S.length = 1 := by
  obtain ⟨ns, p, q, t, rfl, _⟩ := h; rfl
theorem Good.mono {m k : Nat} {S : Sto} (h : Good m S) (l : m ≤ k) : Good k S := by
  obtain ⟨ns, p, q, t, rfl, h1, h2, h3, h4⟩ := h
  exact ⟨ns, p, q, t, rfl, h1, h2, h3, by omega⟩
theorem start_s (ns : List Int) (S : Sto) : ∃ ns' : List Int, F__law_start [.scr ns] S = some (.lst [.lst (ns'.map D.int), .int 0, .int 0, .int 0, .int 20], S) := by
  refine ⟨(ns.drop (HT.sIx (ns.map D.int).length 0 none)).take (HT.sIx (ns.map D.int).length (ns.map D.int).length (some 63) - HT.sIx (ns.map D.int).length 0 none), ?_⟩
  have c : cutD (ns.map D.int) none (some 63) = ((ns.drop (HT.sIx (ns.map D.int).length 0 none)).take (HT.sIx (ns.map D.int).length (ns.map D.int).length (some 63) - HT.sIx (ns.map D.int).length 0 none)).map D.int := by
    unfold cutD
    rw [List.map_take, List.map_drop]
  generalize (ns.drop (HT.sIx (ns.map D.int).length 0 none)).take (HT.sIx (ns.map D.int).length (ns.map D.int).length (some 63) - HT.sIx (ns.map D.int).length 0 none) = ns' at *
  have cc := compF_all (g := gNm 1) (te := eCB gInt (aCons (bVar 1) aNil)) (ρ := [.sh (.scr ns), .un]) (S := S) D.int D.int ns' fun x _ => ⟨_, rfl, rfl⟩
  have sl : eSl D.slice (bVar 0) pNo (pIs (eC (.int 63))) [.sh (.scr ns), .un] S = some (.lst (ns'.map D.int), S) := by
    show ((D.slice (.scr ns) none (some 63)).map fun z => (z, S)) = _
    show (some (D.lst (cutD (ns.map D.int) none (some 63)))).map _ = _
    rw [c]; rfl
  have l : eLc (iSeq (eSl D.slice (bVar 0) pNo (pIs (eC (.int 63))))) (gNm 1) tYs (eCB gInt (aCons (bVar 1) aNil)) [1] [.sh (.scr ns), .un] S = some (.lst (ns'.map D.int), S) := eLc_of (iSeq_of sl rfl) cc
  have a : aCons (eLc (iSeq (eSl D.slice (bVar 0) pNo (pIs (eC (.int 63))))) (gNm 1) tYs (eCB gInt (aCons (bVar 1) aNil)) [1]) (aCons (eC (.int 0)) (aCons (eC (.int 0)) (aCons (eC (.int 0)) (aCons (eC (.int 20)) aNil)))) [.sh (.scr ns), .un] S = some ([.lst (ns'.map D.int), .int 0, .int 0, .int 0, .int 20], S) := aCons_of l rfl
  show b__law_start (rho0 2 [.scr ns]) S = _
  unfold b__law_start eLst
  have a' : aCons (eLc (iSeq (eSl D.slice (bVar 0) pNo (pIs (eC (.int 63))))) (gNm 1) tYs (eCB gInt (aCons (bVar 1) aNil)) [1]) (aCons (eC (.int 0)) (aCons (eC (.int 0)) (aCons (eC (.int 0)) (aCons (eC (.int 20)) aNil)))) (rho0 2 [.scr ns]) S = some ([.lst (ns'.map D.int), .int 0, .int 0, .int 0, .int 20], S) := a
  rw [a', Option.bind_some]
  rw [if_pos (by show 5 ≤ PySem.sizeLine; decide)]
theorem compF_st {α β : Type} {g : Tg} {te : Ex} {ρ : Rho} (enc : α → D) (R : β → D) (ok : β → Prop) (h : ∀ x m S, m ≤ 40000 → Good m S → ∃ ρ2 b S', g (enc x) ρ = some ρ2 ∧ te ρ2 S = some (R b, S') ∧ Good (m + 1) S' ∧ ok b) :
    ∀ (xs : List α) (m : Nat) (S : Sto), Good m S → m + xs.length ≤ 40000 → ∃ (bs : List β) (S' : Sto), compF g tYs te ρ (xs.map enc) S = some (bs.map R, S') ∧ Good (m + xs.length) S' ∧ bs.length = xs.length ∧ ∀ b ∈ bs, ok b
  | [], m, S, hS, _ => ⟨[], S, rfl, hS, rfl, fun b hb => by simp at hb⟩
  | x :: xs, m, S, hS, hm => by
    rw [List.length_cons] at hm
    obtain ⟨ρ2, b, S1, e1, e2, g1, o1⟩ := h x m S (by omega) hS
    obtain ⟨bs, S2, e3, g2, hl, o2⟩ := compF_st enc R ok h xs (m + 1) S1 g1 (by omega)
    refine ⟨b :: bs, S2, ?_, by rw [List.length_cons, show m + (xs.length + 1) = m + 1 + xs.length by omega]; exact g2, by rw [List.length_cons, List.length_cons, hl], fun c hc => ?_⟩
    · rw [List.map_cons]
      unfold compF
      rw [e1, Option.bind_some]
      show ((some (true, S) : Option (Bool × Sto))).bind _ = _
      rw [Option.bind_some, if_pos rfl, e2, Option.bind_some, e3]
      rfl
    · rcases List.mem_cons.mp hc with rfl | hc
      · exact o1
      · exact o2 c hc
end W17

set_option Elab.async false
set_option linter.all false
set_option maxRecDepth 100000
namespace DL
open L2 (atI atI_nat)
/-! ## functions: the model -/
abbrev Ru := List Nat × List Int
def varsD (vars : List Nat) : D := .tup (vars.map fun (v : Nat) => D.int (v : Int))
def ruD (r : Ru) : D := .tup [varsD r.1, rowD r.2]
def fD (s : List Nat) (own : List Ru) : D := .tup [szD s, .tup (own.map ruD)]
/-- what dict(e) tells -/
def tell (e : Ev) (v : Nat) : Option Int := e.foldl (fun a p => if p.1 = v then some p.2 else a) none
def placeM : Int → List Nat → List Int → Int
  | f, n :: s, x :: r => placeM (f * n + x) s r
  | f, _, _ => f
def cellV (s : List Nat) (deed : Ev) (v : Nat) (r : Ru) (row : List Int) : Int :=
  match tell deed v with
  | some x => x
  | none => r.2.getD (placeM 0 (r.1.map fun a => s.getD a 0) (r.1.map fun a => row.getD a 0)).toNat 0
def runF (s : List Nat) (deed : Ev) : List Ru → List Int → List Int
  | [], row => row
  | r :: rs, row => runF s deed rs (row ++ [cellV s deed row.length r row])
def prodN : List Nat → Nat
  | [] => 1
  | n :: s => n * prodN s
structure RuOk (s : List Nat) (v : Nat) (r : Ru) : Prop where
  par : ∀ a ∈ r.1, a < v
  len : r.2.length = prodN (r.1.map fun a => s.getD a 0)
  val : ∀ x ∈ r.2, 0 ≤ x ∧ x < (s.getD v 0 : Nat)
  few : r.1.length ≤ 4
/-- rules from variable v on -/
def OwnOk (s : List Nat) : Nat → List Ru → Prop
  | _, [] => True
  | v, r :: rs => RuOk s v r ∧ OwnOk s (v + 1) rs
def DeedOk (s : List Nat) (e : Ev) : Prop := ∀ p ∈ e, 0 ≤ p.2 ∧ p.2 < (s.getD p.1 0 : Nat)
def RowOk (s : List Nat) (row : List Int) : Prop := ∀ j, j < row.length → 0 ≤ row.getD j 0 ∧ row.getD j 0 < (s.getD j 0 : Nat)
theorem tell_mem {v : Nat} {x : Int} : ∀ {e : Ev}, tell e v = some x → (v, x) ∈ e := by
  have key : ∀ (e : Ev) (a : Option Int), e.foldl (fun a p => if p.1 = v then some p.2 else a) a = some x → a = some x ∨ (v, x) ∈ e := by
    intro e
    induction e with
    | nil => intro a h; exact .inl h
    | cons p e ih =>
      intro a h
      rcases ih _ h with h | h
      · have h : (if p.1 = v then some p.2 else a) = some x := h
        by_cases c : p.1 = v
        · rw [if_pos c] at h
          cases h
          exact .inr (by rw [← c]; exact .head _)
        · rw [if_neg c] at h; exact .inl h
      · exact .inr (.tail _ h)
  intro e h
  rcases key e none h with h | h
  · cases h
  · exact h
theorem placeM_bd : ∀ {sz : List Nat} {r : List Int} {f : Int}, 0 ≤ f → r.length = sz.length → (∀ p ∈ sz.zip r, 0 ≤ p.2 ∧ p.2 < (p.1 : Nat)) → 0 ≤ placeM f sz r ∧ placeM f sz r < (f + 1) * (prodN sz : Nat)
  | [], [], f, hf, _, _ => ⟨hf, by show f < (f + 1) * ((1 : Nat) : Int); omega⟩
  | n :: sz, x :: r, f, hf, hl, h => by
    have h0 := h (n, x) (.head _)
    have hn : (0 : Int) ≤ f * n := Int.mul_nonneg hf (by omega)
    obtain ⟨h1, h2⟩ := placeM_bd (sz := sz) (r := r) (f := f * n + x) (by have := h0.1; omega) (by simpa using hl) fun p hp => h p (.tail _ hp)
    refine ⟨h1, ?_⟩
    refine Int.lt_of_lt_of_le (show placeM f (n :: sz) (x :: r) < (f * n + x + 1) * (prodN sz : Nat) from h2) ?_
    have e : (f + 1) * (prodN (n :: sz) : Nat) = ((f + 1) * n) * (prodN sz : Nat) := by
      show (f + 1) * ((n * prodN sz : Nat) : Int) = _
      rw [Int.natCast_mul, Int.mul_assoc]
    rw [e]
    refine Int.mul_le_mul_of_nonneg_right ?_ (by omega)
    have := h0.2
    rw [Int.add_mul, Int.one_mul]
    simp only at this
    omega
  | [], _ :: _, _, _, hl, _ => by simp at hl
  | _ :: _, [], _, _, hl, _ => by simp at hl
theorem place_ok {s : List Nat} {v : Nat} {r : Ru} {row : List Int} (h : RuOk s v r) (hr : RowOk s row) (hl : row.length = v) :
    (placeM 0 (r.1.map fun a => s.getD a 0) (r.1.map fun a => row.getD a 0)).toNat < r.2.length ∧ 0 ≤ placeM 0 (r.1.map fun a => s.getD a 0) (r.1.map fun a => row.getD a 0) := by
  obtain ⟨h1, h2⟩ := placeM_bd (f := 0) (sz := r.1.map fun a => s.getD a 0) (r := r.1.map fun a => row.getD a 0) (by decide) (by simp) fun p hp => by
    rw [List.zip_map'] at hp
    obtain ⟨a, ha, rfl⟩ := List.mem_map.mp hp
    exact hr a (by rw [hl]; exact h.par a ha)
  rw [← h.len] at h2
  exact ⟨by omega, h1⟩
theorem cell_ok {s : List Nat} {v : Nat} {r : Ru} {row : List Int} {deed : Ev} (h : RuOk s v r) (hr : RowOk s row) (hl : row.length = v) (hd : DeedOk s deed) : 0 ≤ cellV s deed v r row ∧ cellV s deed v r row < (s.getD v 0 : Nat) := by
  unfold cellV
  cases t : tell deed v with
  | some x => exact hd _ (tell_mem t)
  | none =>
    obtain ⟨p1, p2⟩ := place_ok h hr hl
    show 0 ≤ r.2.getD _ 0 ∧ _
    rw [List.getD_eq_getElem?_getD, List.getElem?_eq_getElem p1]
    exact h.val _ (List.getElem_mem p1)
theorem RowOk.snoc {s : List Nat} {row : List Int} {x : Int} (hr : RowOk s row) (hx : 0 ≤ x ∧ x < (s.getD row.length 0 : Nat)) : RowOk s (row ++ [x]) := fun j hj => by
  rw [List.length_append, List.length_singleton] at hj
  by_cases c : j < row.length
  · have := hr j c
    rw [List.getD_eq_getElem?_getD, List.getElem?_append_left c, ← List.getD_eq_getElem?_getD]
    exact this
  · have : j = row.length := by omega
    subst this
    rw [List.getD_eq_getElem?_getD, List.getElem?_append_right (Nat.le_refl _), Nat.sub_self]
    exact hx
theorem runF_ok {s : List Nat} {deed : Ev} (hd : DeedOk s deed) : ∀ {rs : List Ru} {row : List Int}, OwnOk s row.length rs → RowOk s row → RowOk s (runF s deed rs row) ∧ (runF s deed rs row).length = row.length + rs.length
  | [], row, _, hr => ⟨hr, rfl⟩
  | r :: rs, row, ho, hr => by
    have hc := cell_ok ho.1 hr rfl hd
    obtain ⟨h1, h2⟩ := runF_ok hd (rs := rs) (row := row ++ [cellV s deed row.length r row]) (by rw [List.length_append]; exact ho.2) (hr.snoc hc)
    exact ⟨h1, by show (runF s deed rs _).length = _; rw [h2, List.length_append, List.length_cons, List.length_cons, List.length_nil]; omega⟩
theorem runF_pre {s : List Nat} {deed : Ev} : ∀ {rs : List Ru} {row : List Int} {j : Nat}, j < row.length → (runF s deed rs row).getD j 0 = row.getD j 0
  | [], _, _, _ => rfl
  | r :: rs, row, j, h => by
    show (runF s deed rs _).getD j 0 = _
    rw [runF_pre (by rw [List.length_append]; omega), List.getD_eq_getElem?_getD, List.getElem?_append_left h, ← List.getD_eq_getElem?_getD]
theorem tell_nil (v : Nat) : tell [] v = none := rfl
theorem tell_one (x : Nat) (i : Int) (v : Nat) : tell [(x, i)] v = if x = v then some i else none := rfl
/-- a deed that gives what is there anyway changes nothing -/
theorem run_same {s : List Nat} {x : Nat} {i : Int} : ∀ {rs : List Ru} {row : List Int}, (x < row.length ∨ (runF s [] rs row).getD x 0 = i) → (x < row.length ∨ x < row.length + rs.length) → runF s [(x, i)] rs row = runF s [] rs row
  | [], _, _, _ => rfl
  | r :: rs, row, h, hx => by
    have e : cellV s [(x, i)] row.length r row = cellV s [] row.length r row := by
      by_cases c : x = row.length
      · have h' : (runF s [] (r :: rs) row).getD x 0 = i := h.resolve_left (by omega)
        have : (runF s [] rs (row ++ [cellV s [] row.length r row])).getD x 0 = i := h'
        rw [runF_pre (by rw [List.length_append, c]; simp), c, List.getD_eq_getElem?_getD, List.getElem?_append_right (Nat.le_refl _), Nat.sub_self] at this
        rw [show cellV s [(x, i)] row.length r row = i by unfold cellV; rw [tell_one, if_pos c]]
        exact this.symm
      · unfold cellV
        rw [tell_one, if_neg c, tell_nil]
    show runF s [(x, i)] rs _ = runF s [] rs _
    rw [e]
    refine run_same ?_ ?_
    · rcases h with h | h
      · exact .inl (by rw [List.length_append]; omega)
      · exact .inr h
    · rw [List.length_append]; simp only [List.length_cons, List.length_nil] at hx ⊢; omega
/-! dicts by numbers -/
def fnd (kvs : List (L2.Key × D)) (k : L2.Key) : Option D := (kvs.find? fun kv => decide (kv.1 = k)).map (·.2)
theorem dFind_fnd (kvs : List (L2.Key × D)) (k : L2.Key) : dFind (kvs.map (·.1)) (kvs.map (·.2)) k = fnd kvs k := by
  unfold dFind fnd
  congr 2
  induction kvs with
  | nil => rfl
  | cons a l ih => rw [List.map_cons, List.map_cons, List.zip_cons_cons, ih]
theorem fnd_cons (a : L2.Key × D) (l : List (L2.Key × D)) (j : L2.Key) : fnd (a :: l) j = if a.1 = j then some a.2 else fnd l j := by
  unfold fnd
  by_cases c : a.1 = j
  · rw [List.find?_cons_of_pos (by simpa using c), if_pos c]; rfl
  · rw [List.find?_cons_of_neg (by simpa using c), if_neg c]
theorem fnd_map (k j : L2.Key) (v : D) (d : ¬ k = j) : ∀ l : List (L2.Key × D), fnd (l.map fun kv => if kv.1 = k then (kv.1, v) else kv) j = fnd l j
  | [] => rfl
  | b :: l => by
    rw [List.map_cons, fnd_cons, fnd_cons, fnd_map k j v d l]
    by_cases cb : b.1 = k
    · have q : ¬ b.1 = j := by rw [cb]; exact d
      rw [if_pos cb]
      show (if b.1 = j then some v else fnd l j) = _
      rw [if_neg q, if_neg q]
    · rw [if_neg cb]
theorem fnd_put (kvs : List (L2.Key × D)) (k j : L2.Key) (v : D) : fnd (putD kvs k v) j = if k = j then some v else fnd kvs j := by
  have hm : ∀ l : List (L2.Key × D), (l.any fun kv => decide (kv.1 = k)) = true → fnd (l.map fun kv => if kv.1 = k then (kv.1, v) else kv) j = if k = j then some v else fnd l j := by
    intro l
    induction l with
    | nil => intro h; simp at h
    | cons a l ih =>
      intro h
      by_cases d : k = j
      · rw [if_pos d, List.map_cons, fnd_cons]
        by_cases c : a.1 = k
        · rw [if_pos c]; exact if_pos (c.trans d)
        · have h' : (l.any fun kv => decide (kv.1 = k)) = true := by simpa [c] using h
          rw [if_neg c, if_neg (fun z => c (z.trans d.symm)), ih h', if_pos d]
      · rw [if_neg d, fnd_map k j v d]
  unfold putD
  by_cases h : (kvs.any fun kv => decide (kv.1 = k)) = true
  · rw [if_pos h]; exact hm kvs h
  · rw [if_neg h]
    have hn : ∀ x ∈ kvs, x.1 ≠ k := fun x hx z => h (List.any_eq_true.mpr ⟨x, hx, by simpa using z⟩)
    unfold fnd
    rw [List.find?_append]
    by_cases d : k = j
    · subst d
      rw [List.find?_eq_none.mpr fun x hx => by simpa using hn x hx]
      simp
    · rw [if_neg d]
      cases hh : kvs.find? fun kv => decide (kv.1 = j) with
      | some y => simp
      | none => simp [d]
theorem fnd_merge (k : L2.Key) : ∀ (more acc : List (L2.Key × D)), fnd (mergeD acc more) k = more.foldl (fun a kv => if kv.1 = k then some kv.2 else a) (fnd acc k)
  | [], acc => rfl
  | m :: more, acc => by
    show fnd (mergeD (putD acc m.1 m.2) more) k = _
    rw [fnd_merge k more, fnd_put, List.foldl_cons]
theorem tell_dict (e : Ev) (v : Nat) : dFind ((mergeD [] (kvE e)).map (·.1)) ((mergeD [] (kvE e)).map (·.2)) (Sum.inl (v : Int)) = (tell e v).map D.int := by
  rw [dFind_fnd, fnd_merge]
  have key : ∀ (e : Ev) (a : Option Int), (kvE e).foldl (fun a kv => if kv.1 = (Sum.inl (v : Int) : L2.Key) then some kv.2 else a) (a.map D.int) = (e.foldl (fun a p => if p.1 = v then some p.2 else a) a).map D.int := by
    intro e
    induction e with
    | nil => intro a; rfl
    | cons p e ih =>
      intro a
      have : (if (Sum.inl ((p.1 : Nat) : Int) : L2.Key) = Sum.inl (v : Int) then some (D.int p.2) else a.map D.int) = (if p.1 = v then some p.2 else a).map D.int := by
        by_cases c : p.1 = v
        · rw [if_pos c, if_pos (by rw [c])]; rfl
        · rw [if_neg c, if_neg (fun z => c (by have := Sum.inl.inj z; omega))]
      show (kvE e).foldl _ (if (Sum.inl ((p.1 : Nat) : Int) : L2.Key) = Sum.inl (v : Int) then some (D.int p.2) else a.map D.int) = _
      rw [this]
      exact ih _
  exact key e none
end DL

set_option Elab.async false
set_option linter.all false
set_option maxRecDepth 100000
namespace W17
open DL
open L2 (atI atI_nat ixN)
theorem szD_at {s : List Nat} {a : Nat} (h : a < s.length) : D.ix (szD s) (.int (a : Int)) = some (.int ((s.getD a 0 : Nat) : Int)) := by
  show atI (s.map fun (n : Nat) => D.int (n : Int)) (a : Int) = _
  rw [atI_lt (by simpa using h), List.getElem_map, List.getD_eq_getElem?_getD, List.getElem?_eq_getElem h]
  rfl
theorem rowD_at {r : List Int} {a : Nat} (h : a < r.length) : D.ix (rowD r) (.int (a : Int)) = some (.int (r.getD a 0)) := by
  show atI (r.map D.int) (a : Int) = _
  rw [atI_lt (by simpa using h), List.getElem_map, List.getD_eq_getElem?_getD, List.getElem?_eq_getElem h]
  rfl
/-- [d[a] for a in parents] -/
theorem pick_sz {ρ : Rho} {S : Sto} {s ps : List Nat} {i : Nat} (it : Ars) (w : List Nat) (hit : it ρ S = some (ps.map fun (v : Nat) => D.int (v : Int), S)) (hi : ∀ a : Nat, ∃ ρ2, gNm 9 (.int (a : Int)) (wipeR ρ w) = some ρ2 ∧ bVar i ρ2 S = some (szD s, S) ∧ bVar 9 ρ2 S = some (.int (a : Int), S)) (h : ∀ a ∈ ps, a < s.length) :
    eLc it (gNm 9) tYs (eBin D.ix (bVar i) (bVar 9)) w ρ S = some (.lst ((ps.map fun a => s.getD a 0).map fun (n : Nat) => D.int (n : Int)), S) := by
  have c := compF_all (g := gNm 9) (te := eBin D.ix (bVar i) (bVar 9)) (ρ := wipeR ρ w) (S := S) (fun (v : Nat) => D.int (v : Int)) (fun a => D.int ((s.getD a 0 : Nat) : Int)) ps fun a ha => by
    obtain ⟨ρ2, h1, h2, h3⟩ := hi a
    exact ⟨ρ2, h1, eBin_of h2 h3 (szD_at (h a ha))⟩
  rw [eLc_of hit c, List.map_map]
  rfl
theorem pick_row {ρ : Rho} {S : Sto} {r : List Int} {ps : List Nat} {i : Nat} {d : D} (it : Ars) (w : List Nat) (hd : ∀ a : Nat, a < r.length → D.ix d (.int (a : Int)) = some (.int (r.getD a 0))) (hit : it ρ S = some (ps.map fun (v : Nat) => D.int (v : Int), S)) (hi : ∀ a : Nat, ∃ ρ2, gNm 9 (.int (a : Int)) (wipeR ρ w) = some ρ2 ∧ bVar i ρ2 S = some (d, S) ∧ bVar 9 ρ2 S = some (.int (a : Int), S)) (h : ∀ a ∈ ps, a < r.length) :
    eLc it (gNm 9) tYs (eBin D.ix (bVar i) (bVar 9)) w ρ S = some (.lst ((ps.map fun a => r.getD a 0).map D.int), S) := by
  have c := compF_all (g := gNm 9) (te := eBin D.ix (bVar i) (bVar 9)) (ρ := wipeR ρ w) (S := S) (fun (v : Nat) => D.int (v : Int)) (fun a => D.int (r.getD a 0)) ps fun a ha => by
    obtain ⟨ρ2, h1, h2, h3⟩ := hi a
    exact ⟨ρ2, h1, eBin_of h2 h3 (hd a (h a ha))⟩
  rw [eLc_of hit c, List.map_map]
  rfl
/-- the sizes and places are small -/
def SmallP (sz : List Nat) (r : List Int) : Prop := sz.length ≤ 20 ∧ (∀ n ∈ sz, n ≤ 3) ∧ ∀ x ∈ r, 0 ≤ x ∧ x < 4
theorem mul_small {f : Int} {n : Nat} {k : Nat} (hf : f.natAbs < 2 ^ k) (hn : n ≤ 3) (hk : k ≤ 8000) : D.mul (.int f) (.int (n : Int)) = some (.int (f * n)) := i_mul (a := k) (b := 2) hf (by omega) (by omega) (by decide)
theorem place_bd {f : Int} {n : Nat} {x : Int} {k : Nat} (hf : f.natAbs < 2 ^ k) (hn : n ≤ 3) (hx : 0 ≤ x ∧ x < 4) : (f * n + x).natAbs < 2 ^ (k + 3) := by
  have h1 : (f * n).natAbs ≤ f.natAbs * 3 := by
    rw [Int.natAbs_mul]
    exact Nat.mul_le_mul_left _ (by omega)
  have : 2 ^ (k + 3) = 8 * 2 ^ k := by rw [Nat.pow_add, Nat.mul_comm]
  have : 0 < 2 ^ k := Nat.pow_pos (by decide)
  omega
theorem place_loop (S : Sto) (a b : Sl) : ∀ (sz : List Nat) (r : List Int) (f : Int) (k : Nat) (z w : Sl), r.length = sz.length → (∀ n ∈ sz, n ≤ 3) → (∀ x ∈ r, 0 ≤ x ∧ x < 4) → f.natAbs < 2 ^ k → k + 3 * sz.length ≤ 7000 →
    ∃ z' w', forF (gTp 2 (gsCons (gNm 3) (gsCons (gNm 4) gsNil))) (sAsg (eBin D.add (eBin D.mul (bVar 2) (bVar 3)) (bVar 4)) (gNm 2)) (zipPair (sz.map fun (n : Nat) => D.int (n : Int)) (r.map D.int)) [a, b, .sh (.int f), z, w] S = some (.nx [a, b, .sh (.int (placeM f sz r)), z', w'] S)
  | [], [], f, k, z, w, _, _, _, _, _ => ⟨z, w, rfl⟩
  | n :: sz, x :: r, f, k, z, w, hl, hn, hx, hf, hk => by
    have n0 := hn n (.head _)
    have x0 := hx x (.head _)
    rw [List.length_cons] at hk
    obtain ⟨z', w', ih⟩ := place_loop S a b sz r (f * n + x) (k + 3) (.sh (.int (n : Int))) (.sh (.int x)) (by simpa using hl) (fun m hm => hn m (.tail _ hm)) (fun m hm => hx m (.tail _ hm)) (place_bd hf n0 x0) (by omega)
    refine ⟨z', w', ?_⟩
    have e : zipPair ((n :: sz).map fun (n : Nat) => D.int (n : Int)) ((x :: r).map D.int) = .tup [.int (n : Int), .int x] :: zipPair (sz.map fun (n : Nat) => D.int (n : Int)) (r.map D.int) := rfl
    have m := mul_small hf n0 (by omega)
    rw [e, forF_step (ρ1 := [a, b, .sh (.int f), .sh (.int (n : Int)), .sh (.int x)]) (ρ2 := [a, b, .sh (.int (f * n + x)), .sh (.int (n : Int)), .sh (.int x)]) (S2 := S) rfl (sAsg_of (d := .int (f * n + x)) (S1 := S) (eBin_of (d1 := .int (f * n)) (d2 := .int x) (S1 := S) (S2 := S) (eBin_of (d1 := .int f) (d2 := .int (n : Int)) (S1 := S) (S2 := S) rfl rfl m) rfl (i_add _ _)) rfl)]
    exact ih
  | [], _ :: _, _, _, _, _, hl, _, _, _, _ => by simp at hl
  | _ :: _, [], _, _, _, _, hl, _, _, _, _ => by simp at hl
theorem zipPair_with (xs ys : List D) : List.zipWith (fun x y => D.tup [x, y]) xs ys = zipPair xs ys := by
  induction xs generalizing ys with
  | nil => rfl
  | cons x xs ih =>
    cases ys with
    | nil => rfl
    | cons y ys => rw [List.zipWith_cons_cons, ih]; rfl
theorem place_of_s (sz : List Nat) (r : List Int) (S : Sto) (hl : r.length = sz.length) (h : SmallP sz r) : F_place_of [.lst (sz.map fun (n : Nat) => D.int (n : Int)), .lst (r.map D.int)] S = some (.int (placeM 0 sz r), S) := by
  obtain ⟨z', w', l⟩ := place_loop S (.sh (.lst (sz.map fun (n : Nat) => D.int (n : Int)))) (.sh (.lst (r.map D.int))) sz r 0 1 .un .un hl h.2.1 h.2.2 (by decide) (by have := h.1; omega)
  unfold F_place_of b_place_of
  refine fnD_rt (S' := S) (sSeq_of (ρ' := [.sh (.lst (sz.map fun (n : Nat) => D.int (n : Int))), .sh (.lst (r.map D.int)), .sh (.int 0), .un, .un]) (S1 := S) rfl (sSeq_of (S1 := S) (sFor_of (S1 := S) (xs := zipPair (sz.map fun (n : Nat) => D.int (n : Int)) (r.map D.int)) (by rw [← zipPair_with]; rfl) l) rfl)) rfl
theorem law_place_loop (S : Sto) (sz0 : List Nat) (r0 : List Int) : ∀ (sz : List Nat) (r : List Int) (f : Int) (k : Nat) (j : Nat) (z : Sl), r.length = sz.length → sz0.drop j = sz → r0.drop j = r → (∀ n ∈ sz, n ≤ 3) → (∀ x ∈ r, 0 ≤ x ∧ x < 4) → f.natAbs < 2 ^ k → k + 3 * sz.length ≤ 7000 →
    ∃ z', forF (gNm 3) (sAsg (eBin D.add (eBin D.mul (bVar 2) (eBin D.ix (bVar 0) (bVar 3))) (eBin D.ix (bVar 1) (bVar 3))) (gNm 2)) ((List.range' j sz.length).map fun (i : Nat) => D.int (i : Int)) [.sh (.lst (sz0.map fun (n : Nat) => D.int (n : Int))), .sh (.lst (r0.map D.int)), .sh (.int f), z] S = some (.nx [.sh (.lst (sz0.map fun (n : Nat) => D.int (n : Int))), .sh (.lst (r0.map D.int)), .sh (.int (placeM f sz r)), z'] S)
  | [], [], f, k, j, z, _, _, _, _, _, _, _ => ⟨z, rfl⟩
  | n :: sz, x :: r, f, k, j, z, hl, h1, h2, hn, hx, hf, hk => by
    have n0 := hn n (.head _)
    have x0 := hx x (.head _)
    rw [List.length_cons] at hk
    have j1 : j < sz0.length := by
      have := congrArg List.length h1
      simp at this; omega
    have j2 : j < r0.length := by
      have := congrArg List.length h2
      simp at this; omega
    have e1 : sz0.getD j 0 = n := by rw [List.drop_eq_getElem_cons j1] at h1; rw [List.getD_eq_getElem?_getD, List.getElem?_eq_getElem j1]; exact (List.cons.inj h1).1
    have e2 : r0.getD j 0 = x := by rw [List.drop_eq_getElem_cons j2] at h2; rw [List.getD_eq_getElem?_getD, List.getElem?_eq_getElem j2]; exact (List.cons.inj h2).1
    have t1 : sz0.drop (j + 1) = sz := by rw [List.drop_eq_getElem_cons j1] at h1; exact (List.cons.inj h1).2
    have t2 : r0.drop (j + 1) = r := by rw [List.drop_eq_getElem_cons j2] at h2; exact (List.cons.inj h2).2
    obtain ⟨z', ih⟩ := law_place_loop S sz0 r0 sz r (f * n + x) (k + 3) (j + 1) (.sh (.int (j : Int))) (by simpa using hl) t1 t2 (fun m hm => hn m (.tail _ hm)) (fun m hm => hx m (.tail _ hm)) (place_bd hf n0 x0) (by omega)
    refine ⟨z', ?_⟩
    have a1 : D.ix (.lst (sz0.map fun (n : Nat) => D.int (n : Int))) (.int (j : Int)) = some (.int (n : Int)) := by rw [← e1]; exact szD_at j1
    have a2 : D.ix (.lst (r0.map D.int)) (.int (j : Int)) = some (.int x) := by rw [← e2]; exact rowD_at j2
    have m := mul_small hf n0 (by omega)
    rw [List.length_cons, List.range'_succ, List.map_cons]
    rw [forF_step (ρ1 := [.sh (.lst (sz0.map fun (n : Nat) => D.int (n : Int))), .sh (.lst (r0.map D.int)), .sh (.int f), .sh (.int (j : Int))]) (ρ2 := [.sh (.lst (sz0.map fun (n : Nat) => D.int (n : Int))), .sh (.lst (r0.map D.int)), .sh (.int (f * n + x)), .sh (.int (j : Int))]) (S2 := S) rfl (sAsg_of (d := .int (f * n + x)) (S1 := S) (eBin_of (d1 := .int (f * n)) (d2 := .int x) (S1 := S) (S2 := S) (eBin_of (d1 := .int f) (d2 := .int (n : Int)) (S1 := S) (S2 := S) rfl (eBin_of (S1 := S) (S2 := S) rfl rfl a1) m) (eBin_of (S1 := S) (S2 := S) rfl rfl a2) (i_add _ _)) rfl)]
    exact ih
  | [], _ :: _, _, _, _, _, hl, _, _, _, _, _, _ => by simp at hl
  | _ :: _, [], _, _, _, _, hl, _, _, _, _, _, _ => by simp at hl
theorem law_place_s (sz : List Nat) (r : List Int) (S : Sto) (hl : r.length = sz.length) (h : SmallP sz r) : F__law_place [.lst (sz.map fun (n : Nat) => D.int (n : Int)), .lst (r.map D.int)] S = some (.int (placeM 0 sz r), S) := by
  obtain ⟨z', l⟩ := law_place_loop S sz r sz r 0 1 0 .un hl rfl rfl h.2.1 h.2.2 (by decide) (by have := h.1; omega)
  have hr : rangeOf [.int ((r.length : Nat) : Int)] = some ((List.range r.length).map fun (i : Nat) => D.int (i : Int)) := rangeOf_nat (by have := h.1; omega)
  rw [hl, List.range_eq_range'] at hr
  unfold F__law_place b__law_place
  refine fnD_rt (S' := S) (sSeq_of (ρ' := [.sh (.lst (sz.map fun (n : Nat) => D.int (n : Int))), .sh (.lst (r.map D.int)), .sh (.int 0), .un]) (S1 := S) rfl (sSeq_of (S1 := S) (sFor_of (S1 := S) (iRng_of (ds := [.int ((sz.length : Nat) : Int)]) (S1 := S) (aCons_of (eCB_of (ds := [.lst (r.map D.int)]) (S1 := S) rfl (by simp only [gLen, List.length_map, hl])) rfl) hr) l) rfl)) rfl
end W17

set_option Elab.async false
set_option linter.all false
set_option maxRecDepth 100000
namespace W17
open DL
open L2 (atI atI_nat ixN)
def toldD (e : Ev) : D := .dct ((mergeD [] (kvE e)).map (·.1)) ((mergeD [] (kvE e)).map (·.2))
theorem dict_s (e : Ev) : gDict [evD e] = some (toldD e) := by
  show ((pairsOf (e.map pD)).map fun kvs => D.dct ((mergeD [] kvs).map (·.1)) ((mergeD [] kvs).map (·.2))) = _
  rw [pairsOf_ev]
  rfl
theorem told_in (e : Ev) (v : Nat) : D.isInA (.int (v : Int)) (toldD e) = some (.bl (tell e v).isSome) := by
  show (some (D.bl (dFind _ _ (Sum.inl (v : Int))).isSome)) = _
  rw [tell_dict]
  cases tell e v <;> rfl
theorem told_ix {e : Ev} {v : Nat} {x : Int} (h : tell e v = some x) : D.dix (toldD e) (.int (v : Int)) = some (.int x) := by
  show dFind _ _ (Sum.inl (v : Int)) = _
  rw [tell_dict, h]
  rfl
/-- sizes small -/
def SzOk (s : List Nat) : Prop := s.length ≤ 4 ∧ ∀ n ∈ s, 2 ≤ n ∧ n ≤ 3
theorem SzOk.at {s : List Nat} (h : SzOk s) (a : Nat) : s.getD a 0 ≤ 3 := by
  rw [List.getD_eq_getElem?_getD]
  cases e : s[a]? with
  | none => simp
  | some n => exact (h.2 n (List.mem_of_getElem? e)).2
theorem smallP {s : List Nat} {row : List Int} {r : Ru} {v : Nat} (hs : SzOk s) (h : RuOk s v r) (hr : RowOk s row) (hl : row.length = v) : SmallP (r.1.map fun a => s.getD a 0) (r.1.map fun a => row.getD a 0) := by
  refine ⟨by rw [List.length_map]; have := h.few; omega, fun n hn => ?_, fun x hx => ?_⟩
  · obtain ⟨a, _, rfl⟩ := List.mem_map.mp hn
    exact hs.at a
  · obtain ⟨a, ha, rfl⟩ := List.mem_map.mp hx
    have := hr a (by rw [hl]; exact h.par a ha)
    have := hs.at a
    omega
theorem enum_shift (v : Nat) (x : D) (xs : List D) : (x :: xs).mapIdx (fun i y => D.tup [.int ((v + i : Nat) : Int), y]) = .tup [.int (v : Int), x] :: xs.mapIdx fun i y => D.tup [.int ((v + 1 + i : Nat) : Int), y] := by
  rw [List.mapIdx_cons]
  congr 1
  congr 1
  funext i y
  rw [Nat.add_right_comm, Nat.add_assoc]
/-- a table's cell -/
theorem table_at {s : List Nat} {row : List Int} {r : Ru} {v : Nat} (h : RuOk s v r) (hr : RowOk s row) (hl : row.length = v) : D.ix (rowD r.2) (.int (placeM 0 (r.1.map fun a => s.getD a 0) (r.1.map fun a => row.getD a 0))) = some (.int (r.2.getD (placeM 0 (r.1.map fun a => s.getD a 0) (r.1.map fun a => row.getD a 0)).toNat 0)) := by
  obtain ⟨p1, p2⟩ := place_ok h hr hl
  generalize placeM 0 (r.1.map fun a => s.getD a 0) (r.1.map fun a => row.getD a 0) = p at *
  obtain ⟨q, rfl⟩ := Int.eq_ofNat_of_zero_le p2
  exact rowD_at p1
def valB : Stm := (sIf (tBl (eBin D.isInA (bVar 6) (bVar 4))) (sAug D.iadd 5 (eTup (aCons (eBin D.dix (bVar 4) (bVar 6)) aNil))) (sAug D.iadd 5 (eTup (aCons (eBin D.ix (bVar 8) (eCall F_place_of (aCons (eLc (iSeq (bVar 7)) (gNm 9) tYs (eBin D.ix (bVar 2) (bVar 9)) [9]) (aCons (eLc (iSeq (bVar 7)) (gNm 9) tYs (eBin D.ix (bVar 5) (bVar 9)) [9]) aNil)))) aNil))))
theorem iadd_row (r : List Int) (x : Int) (h : r.length ≤ 1000) : D.iadd (rowD r) (.tup [.int x]) = some (rowD (r ++ [x])) := by
  have : (r.map D.int).length + [D.int x].length ≤ PySem.sizeLine := szle (by simp; omega)
  simp only [D.iadd, rowD, this, if_true, List.map_append, List.map_cons, List.map_nil]
theorem tup1 {f : Ex} {ρ : Rho} {S S1 : Sto} {d : D} (h : f ρ S = some (d, S1)) : eTup (aCons f aNil) ρ S = some (.tup [d], S1) := eTup_of (aCons_of h rfl) (by show 1 ≤ PySem.sizeLine; decide)
theorem val_step {s : List Nat} {deed : Ev} {v : Nat} {r : Ru} {row : List Int} (S : Sto) (a b c w9 : Sl) (hs : SzOk s) (h : RuOk s v r) (hr : RowOk s row) (hl : row.length = v) (hv : v < s.length) :
    valB [a, b, .sh (szD s), c, .sh (toldD deed), .sh (rowD row), .sh (.int (v : Int)), .sh (varsD r.1), .sh (rowD r.2), w9] S = some (.nx [a, b, .sh (szD s), c, .sh (toldD deed), .sh (rowD (row ++ [cellV s deed v r row])), .sh (.int (v : Int)), .sh (varsD r.1), .sh (rowD r.2), w9] S) := by
  have rl : row.length ≤ 1000 := by have := hs.1; omega
  have t : tBl (eBin D.isInA (bVar 6) (bVar 4)) [a, b, .sh (szD s), c, .sh (toldD deed), .sh (rowD row), .sh (.int (v : Int)), .sh (varsD r.1), .sh (rowD r.2), w9] S = some ((tell deed v).isSome, S) := tBl_of (eBin_of (S1 := S) (S2 := S) rfl rfl (told_in _ _))
  unfold valB
  cases e : tell deed v with
  | some x =>
    rw [e] at t
    have ec : cellV s deed v r row = x := by unfold cellV; rw [e]
    rw [ec]
    refine sIf_t t ?_
    have h1 : eTup (aCons (eBin D.dix (bVar 4) (bVar 6)) aNil) [a, b, .sh (szD s), c, .sh (toldD deed), .sh (rowD row), .sh (.int (v : Int)), .sh (varsD r.1), .sh (rowD r.2), w9] S = some (.tup [.int x], S) := tup1 (eBin_of (S1 := S) (S2 := S) rfl rfl (told_ix e))
    show ((eTup (aCons (eBin D.dix (bVar 4) (bVar 6)) aNil) [a, b, .sh (szD s), c, .sh (toldD deed), .sh (rowD row), .sh (.int (v : Int)), .sh (varsD r.1), .sh (rowD r.2), w9] S).bind fun p => (D.iadd (rowD row) p.1).map fun z => Out.nx _ p.2) = _
    rw [h1, Option.bind_some, iadd_row _ _ rl]
    rfl
  | none =>
    rw [e] at t
    have ec : cellV s deed v r row = r.2.getD (placeM 0 (r.1.map fun a => s.getD a 0) (r.1.map fun a => row.getD a 0)).toNat 0 := by unfold cellV; rw [e]
    rw [ec]
    refine sIf_f t ?_
    have p1 := pick_sz (S := S) (i := 2) (ρ := [a, b, .sh (szD s), c, .sh (toldD deed), .sh (rowD row), .sh (.int (v : Int)), .sh (varsD r.1), .sh (rowD r.2), w9]) (ps := r.1) (s := s) (iSeq (bVar 7)) [9] rfl (fun a => ⟨_, rfl, rfl, rfl⟩) fun a ha => by have := h.par a ha; omega
    have p2 := pick_row (S := S) (i := 5) (ρ := [a, b, .sh (szD s), c, .sh (toldD deed), .sh (rowD row), .sh (.int (v : Int)), .sh (varsD r.1), .sh (rowD r.2), w9]) (ps := r.1) (r := row) (d := rowD row) (iSeq (bVar 7)) [9] (fun a ha => rowD_at ha) rfl (fun a => ⟨_, rfl, rfl, rfl⟩) fun a ha => by have := h.par a ha; omega
    have pl := place_of_s (r.1.map fun a => s.getD a 0) (r.1.map fun a => row.getD a 0) S (by simp) (smallP hs h hr hl)
    have h1 : eTup (aCons (eBin D.ix (bVar 8) (eCall F_place_of (aCons (eLc (iSeq (bVar 7)) (gNm 9) tYs (eBin D.ix (bVar 2) (bVar 9)) [9]) (aCons (eLc (iSeq (bVar 7)) (gNm 9) tYs (eBin D.ix (bVar 5) (bVar 9)) [9]) aNil)))) aNil) [a, b, .sh (szD s), c, .sh (toldD deed), .sh (rowD row), .sh (.int (v : Int)), .sh (varsD r.1), .sh (rowD r.2), w9] S = some (.tup [.int (r.2.getD (placeM 0 (r.1.map fun a => s.getD a 0) (r.1.map fun a => row.getD a 0)).toNat 0)], S) :=
      tup1 (eBin_of (d1 := rowD r.2) (S1 := S) (S2 := S) rfl (eCall_of (aCons_of p1 (aCons_of p2 rfl)) pl) (table_at h hr hl))
    show ((eTup (aCons (eBin D.ix (bVar 8) (eCall F_place_of (aCons (eLc (iSeq (bVar 7)) (gNm 9) tYs (eBin D.ix (bVar 2) (bVar 9)) [9]) (aCons (eLc (iSeq (bVar 7)) (gNm 9) tYs (eBin D.ix (bVar 5) (bVar 9)) [9]) aNil)))) aNil) [a, b, .sh (szD s), c, .sh (toldD deed), .sh (rowD row), .sh (.int (v : Int)), .sh (varsD r.1), .sh (rowD r.2), w9] S).bind fun p => (D.iadd (rowD row) p.1).map fun z => Out.nx _ p.2) = _
    rw [h1, Option.bind_some, iadd_row _ _ rl]
    rfl
theorem val_loop {s : List Nat} {deed : Ev} (S : Sto) (a b c w9 : Sl) (hs : SzOk s) (hd : DeedOk s deed) : ∀ (rs : List Ru) (row : List Int) (z6 z7 z8 : Sl), OwnOk s row.length rs → RowOk s row → row.length + rs.length = s.length →
    ∃ z6' z7' z8', forF (gTp 2 (gsCons (gNm 6) (gsCons (gTp 2 (gsCons (gNm 7) (gsCons (gNm 8) gsNil))) gsNil))) valB ((rs.map ruD).mapIdx fun i y => .tup [.int ((row.length + i : Nat) : Int), y]) [a, b, .sh (szD s), c, .sh (toldD deed), .sh (rowD row), z6, z7, z8, w9] S = some (.nx [a, b, .sh (szD s), c, .sh (toldD deed), .sh (rowD (runF s deed rs row)), z6', z7', z8', w9] S)
  | [], row, z6, z7, z8, _, _, _ => ⟨z6, z7, z8, rfl⟩
  | r :: rs, row, z6, z7, z8, ho, hr, hl => by
    rw [List.length_cons] at hl
    have hc := cell_ok ho.1 hr rfl hd
    obtain ⟨z6', z7', z8', ih⟩ := val_loop S a b c w9 hs hd rs (row ++ [cellV s deed row.length r row]) (.sh (.int (row.length : Int))) (.sh (varsD r.1)) (.sh (rowD r.2)) (by rw [List.length_append]; exact ho.2) (hr.snoc hc) (by rw [List.length_append, List.length_singleton]; omega)
    refine ⟨z6', z7', z8', ?_⟩
    have st := val_step (deed := deed) S a b c w9 hs ho.1 hr rfl (by omega)
    rw [List.map_cons, enum_shift, forF_step (ρ1 := [a, b, .sh (szD s), c, .sh (toldD deed), .sh (rowD row), .sh (.int (row.length : Int)), .sh (varsD r.1), .sh (rowD r.2), w9]) (S2 := S) rfl st]
    rw [List.length_append, List.length_singleton] at ih
    exact ih
theorem values_s {s : List Nat} {deed : Ev} {own : List Ru} (S : Sto) (hs : SzOk s) (hd : DeedOk s deed) (ho : OwnOk s 0 own) (hl : own.length = s.length) : F_values [fD s own, evD deed] S = some (rowD (runF s deed own []), S) := by
  obtain ⟨z6, z7, z8, l⟩ := val_loop (deed := deed) S (.sh (fD s own)) (.sh (evD deed)) (.sh (.tup (own.map ruD))) .un hs hd own [] .un .un .un ho (fun j hj => absurd hj (Nat.not_lt_zero _)) (by simpa using hl)
  have le : (own.map ruD).mapIdx (fun i y => D.tup [.int ((([] : List Int).length + i : Nat) : Int), y]) = enumD (own.map ruD) := by
    unfold enumD
    simp only [List.length_nil, Nat.zero_add]
  rw [le] at l
  unfold F_values b_values
  exact fnD_rt (S' := S) (sSeq_of (S1 := S) (ρ' := [.sh (fD s own), .sh (evD deed), .sh (szD s), .sh (.tup (own.map ruD)), .un, .un, .un, .un, .un, .un]) (sAsg_of (d := fD s own) (S1 := S) rfl rfl) (sSeq_of (S1 := S) (sAsg_of (d := toldD deed) (S1 := S) (eCB_of (ds := [evD deed]) (S1 := S) rfl (dict_s deed)) rfl) (sSeq_of (S1 := S) (ρ' := [.sh (fD s own), .sh (evD deed), .sh (szD s), .sh (.tup (own.map ruD)), .sh (toldD deed), .sh (rowD []), .un, .un, .un, .un]) rfl (sSeq_of (S1 := S) (sFor_of (S1 := S) (xs := enumD (own.map ruD)) rfl l) (sRet_of (S1 := S) rfl))))) rfl
def runB : Stm := (sSeq (sAsg (eBin D.ix (bVar 3) (bVar 6)) (gTp 2 (gsCons (gNm 7) (gsCons (gNm 8) gsNil))))
    (sIf (tBl (eBin D.isInA (bVar 6) (bVar 4))) (sMut gAppend 5 (aCons (eBin D.dix (bVar 4) (bVar 6)) aNil)) (sMut gAppend 5 (aCons (eBin D.ix (bVar 8) (eCall F__law_place (aCons (eLc (iSeq (bVar 7)) (gNm 9) tYs (eBin D.ix (bVar 2) (bVar 9)) [9]) (aCons (eLc (iSeq (bVar 7)) (gNm 9) tYs (eBin D.ix (bVar 5) (bVar 9)) [9]) aNil)))) aNil))))
theorem app_row (r : List Int) (x : Int) (h : r.length ≤ 1000) : gAppend (.lst (r.map D.int)) [.int x] = some (.lst ((r ++ [x]).map D.int), .non) := by
  have z : (r.map D.int).length < PySem.sizeLine := Nat.lt_of_lt_of_le (Nat.lt_succ_of_le (by simpa using h)) (by decide : 1000 + 1 ≤ PySem.sizeLine)
  simp only [gAppend, if_pos z, List.map_append, List.map_cons, List.map_nil]
theorem sMut_of {g : Cell → List D → Option (Cell × D)} {i : Nat} {fs : Ars} {ρ : Rho} {S S1 : Sto} {c c' : Cell} {ds : List D} {d : D} (h0 : ρ[i]? = some (.ow c)) (h1 : fs ρ S = some (ds, S1)) (h2 : g c ds = some (c', d)) : sMut g i fs ρ S = some (.nx (ρ.set i (.ow c')) S1) := by
  unfold sMut
  rw [h0]
  show (fs ρ S).bind _ = _
  rw [h1, Option.bind_some, h2]
  rfl
theorem run_step {s : List Nat} {deed : Ev} {v : Nat} {r : Ru} {row : List Int} (S : Sto) (a b z7 z8 w9 : Sl) (rsD : List D) (hat : D.ix (.tup rsD) (.int (v : Int)) = some (ruD r)) (hs : SzOk s) (h : RuOk s v r) (hr : RowOk s row) (hl : row.length = v) (hv : v < s.length) :
    runB [a, b, .sh (szD s), .sh (.tup rsD), .sh (toldD deed), .ow (.lst (row.map D.int)), .sh (.int (v : Int)), z7, z8, w9] S = some (.nx [a, b, .sh (szD s), .sh (.tup rsD), .sh (toldD deed), .ow (.lst ((row ++ [cellV s deed v r row]).map D.int)), .sh (.int (v : Int)), .sh (varsD r.1), .sh (rowD r.2), w9] S) := by
  have rl : row.length ≤ 1000 := by have := hs.1; omega
  have t : tBl (eBin D.isInA (bVar 6) (bVar 4)) [a, b, .sh (szD s), .sh (.tup rsD), .sh (toldD deed), .ow (.lst (row.map D.int)), .sh (.int (v : Int)), .sh (varsD r.1), .sh (rowD r.2), w9] S = some ((tell deed v).isSome, S) := tBl_of (eBin_of (S1 := S) (S2 := S) rfl rfl (told_in _ _))
  unfold runB
  refine sSeq_of (S1 := S) (ρ' := [a, b, .sh (szD s), .sh (.tup rsD), .sh (toldD deed), .ow (.lst (row.map D.int)), .sh (.int (v : Int)), .sh (varsD r.1), .sh (rowD r.2), w9]) (sAsg_of (d := ruD r) (S1 := S) (eBin_of (S1 := S) (S2 := S) rfl rfl hat) rfl) ?_
  cases e : tell deed v with
  | some x =>
    rw [e] at t
    have ec : cellV s deed v r row = x := by unfold cellV; rw [e]
    rw [ec]
    exact sIf_t t (sMut_of (c := .lst (row.map D.int)) (ds := [.int x]) (S1 := S) rfl (aCons_of (eBin_of (S1 := S) (S2 := S) rfl rfl (told_ix e)) rfl) (app_row _ _ rl))
  | none =>
    rw [e] at t
    have ec : cellV s deed v r row = r.2.getD (placeM 0 (r.1.map fun a => s.getD a 0) (r.1.map fun a => row.getD a 0)).toNat 0 := by unfold cellV; rw [e]
    rw [ec]
    have p1 := pick_sz (S := S) (i := 2) (ρ := [a, b, .sh (szD s), .sh (.tup rsD), .sh (toldD deed), .ow (.lst (row.map D.int)), .sh (.int (v : Int)), .sh (varsD r.1), .sh (rowD r.2), w9]) (ps := r.1) (s := s) (iSeq (bVar 7)) [9] rfl (fun a => ⟨_, rfl, rfl, rfl⟩) fun a ha => by have := h.par a ha; omega
    have p2 := pick_row (S := S) (i := 5) (ρ := [a, b, .sh (szD s), .sh (.tup rsD), .sh (toldD deed), .ow (.lst (row.map D.int)), .sh (.int (v : Int)), .sh (varsD r.1), .sh (rowD r.2), w9]) (ps := r.1) (r := row) (d := .lst (row.map D.int)) (iSeq (bVar 7)) [9] (fun a ha => rowD_at ha) rfl (fun a => ⟨_, rfl, rfl, rfl⟩) fun a ha => by have := h.par a ha; omega
    have pl := law_place_s (r.1.map fun a => s.getD a 0) (r.1.map fun a => row.getD a 0) S (by simp) (smallP hs h hr hl)
    exact sIf_f t (sMut_of (c := .lst (row.map D.int)) (S1 := S) rfl (aCons_of (eBin_of (d1 := rowD r.2) (S1 := S) (S2 := S) rfl (eCall_of (aCons_of p1 (aCons_of p2 rfl)) pl) (table_at h hr hl)) rfl) (app_row _ _ rl))
theorem run_loop {s : List Nat} {deed : Ev} (S : Sto) (a b w9 : Sl) (own : List Ru) (hs : SzOk s) (hd : DeedOk s deed) : ∀ (rs : List Ru) (row : List Int) (z6 z7 z8 : Sl), OwnOk s row.length rs → RowOk s row → row.length + rs.length = s.length → own.drop row.length = rs →
    ∃ z6' z7' z8', forF (gNm 6) runB ((List.range' row.length rs.length).map fun (i : Nat) => D.int (i : Int)) [a, b, .sh (szD s), .sh (.tup (own.map ruD)), .sh (toldD deed), .ow (.lst (row.map D.int)), z6, z7, z8, w9] S = some (.nx [a, b, .sh (szD s), .sh (.tup (own.map ruD)), .sh (toldD deed), .ow (.lst ((runF s deed rs row).map D.int)), z6', z7', z8', w9] S)
  | [], row, z6, z7, z8, _, _, _, _ => ⟨z6, z7, z8, rfl⟩
  | r :: rs, row, z6, z7, z8, ho, hr, hl, he => by
    rw [List.length_cons] at hl
    have hc := cell_ok ho.1 hr rfl hd
    have j1 : row.length < own.length := by
      have := congrArg List.length he
      simp at this; omega
    rw [List.drop_eq_getElem_cons j1] at he
    obtain ⟨e1, e2⟩ := List.cons.inj he
    obtain ⟨z6', z7', z8', ih⟩ := run_loop S a b w9 own hs hd rs (row ++ [cellV s deed row.length r row]) (.sh (.int (row.length : Int))) (.sh (varsD r.1)) (.sh (rowD r.2)) (by rw [List.length_append]; exact ho.2) (hr.snoc hc) (by rw [List.length_append, List.length_singleton]; omega) (by rw [List.length_append]; exact e2)
    refine ⟨z6', z7', z8', ?_⟩
    have hat : D.ix (.tup (own.map ruD)) (.int (row.length : Int)) = some (ruD r) := by
      show atI (own.map ruD) (row.length : Int) = _
      rw [atI_lt (by simpa using j1), List.getElem_map, e1]
    have st := run_step (deed := deed) S a b z7 z8 w9 (own.map ruD) hat hs ho.1 hr rfl (by omega)
    rw [List.length_cons, List.range'_succ, List.map_cons, forF_step (ρ1 := [a, b, .sh (szD s), .sh (.tup (own.map ruD)), .sh (toldD deed), .ow (.lst (row.map D.int)), .sh (.int (row.length : Int)), z7, z8, w9]) (S2 := S) rfl st]
    rw [List.length_append, List.length_singleton] at ih
    exact ih
theorem law_run_s {s : List Nat} {deed : Ev} {own : List Ru} (S : Sto) (hs : SzOk s) (hd : DeedOk s deed) (ho : OwnOk s 0 own) (hl : own.length = s.length) : F__law_run [fD s own, evD deed] S = some (rowD (runF s deed own []), S) := by
  obtain ⟨z6, z7, z8, l⟩ := run_loop (deed := deed) S (.sh (fD s own)) (.sh (evD deed)) .un own hs hd own [] .un .un .un ho (fun j hj => absurd hj (Nat.not_lt_zero _)) (by simpa using hl) rfl
  have hr : rangeOf [.int ((s.length : Nat) : Int)] = some ((List.range s.length).map fun (i : Nat) => D.int (i : Int)) := rangeOf_nat (by have := hs.1; omega)
  rw [List.range_eq_range', ← hl] at hr
  have gd : eCB gDict (aCons (bVar 1) aNil) [.sh (fD s own), .sh (evD deed), .sh (szD s), .sh (.tup (own.map ruD)), .un, .un, .un, .un, .un, .un] S = some (toldD deed, S) := eCB_of (ds := [evD deed]) (S1 := S) rfl (dict_s deed)
  unfold F__law_run b__law_run
  refine fnD_rt (S' := S) (sSeq_of (S1 := S) (ρ' := [.sh (fD s own), .sh (evD deed), .sh (szD s), .sh (.tup (own.map ruD)), .un, .un, .un, .un, .un, .un]) (sAsg_of (d := fD s own) (S1 := S) rfl rfl) (sSeq_of (S1 := S) (ρ' := [.sh (fD s own), .sh (evD deed), .sh (szD s), .sh (.tup (own.map ruD)), .sh (toldD deed), .ow (.lst ([].map D.int)), .un, .un, .un, .un]) (by unfold sParDF; rw [gd, Option.bind_some]; rfl) (sSeq_of (S1 := S) (sFor_of (S1 := S) (iRng_of (ds := [.int ((own.length : Nat) : Int)]) (S1 := S) (aCons_of (eCB_of (ds := [szD s]) (S1 := S) rfl (by simp only [gLen, szD, List.length_map, hl])) rfl) hr) l) (sRet_of (S1 := S) rfl)))) rfl
end W17

set_option Elab.async false
set_option linter.all false
set_option maxRecDepth 100000
namespace DL
open L2 (atI atI_nat)
/-! ## lots: the model -/
inductive Vr where
  | lot (ws : List Int)
  | rule (r : Ru)
abbrev Lots := List (Nat × Vr)
def Vr.isLot : Vr → Bool
  | .lot _ => true
  | .rule _ => false
def Vr.ws : Vr → List Int
  | .lot ws => ws
  | .rule _ => []
def Vr.ru : Vr → Ru
  | .lot _ => ([], [])
  | .rule r => r
def ruOf : Vr → D
  | .lot _ => .non
  | .rule r => ruD r
def chanceD (ws : List Int) : D := .tup (ws.map fun x => frD (nf x ws.sum))
def chOf : Vr → D
  | .lot ws => chanceD ws
  | .rule _ => .non
def szL (L : Lots) : List Nat := L.map (·.1)
def ruLs (L : Lots) : D := .tup (L.map fun c => ruOf c.2)
def chLs (L : Lots) : D := .tup (L.map fun c => chOf c.2)
def lotsD (L : Lots) : D := .tup [szD (szL L), ruLs L, chLs L]
def vrAt (L : Lots) (v : Nat) : Vr := (L.getD v (0, .lot [])).2
def freeL (L : Lots) : List Nat := (List.range L.length).filter fun v => (vrAt L v).isLot
def wStep (L : Lots) (a : Int × Int) (p : Nat × Int) : Int × Int := (a.1 * (vrAt L p.1).ws.getD p.2.toNat 0, a.2 * (vrAt L p.1).ws.sum)
def wgt (L : Lots) (e : Ev) : Int × Int := e.foldl (wStep L) (1, 1)
def ownL (L : Lots) (e : Ev) : List Ru := (List.range L.length).map fun v => match tell e v with
  | some x => ([], [x])
  | none => (vrAt L v).ru
def WL (L : Lots) : Int := (freeL L).foldl (fun a v => a * (vrAt L v).ws.sum) 1
def fszL (L : Lots) : List Nat := (freeL L).map fun v => (szL L).getD v 0
def oneM (L : Lots) (r : List Int) : Option (List Ru × Int) := if 0 < (wgt L ((freeL L).zip r)).1 then some (ownL L ((freeL L).zip r), (wgt L ((freeL L).zip r)).1) else none
def drawnM (L : Lots) : List (List Ru × Int) := (rowsM [[]] (fszL L)).filterMap (oneM L)
def drD (L : Lots) (p : List Ru × Int) : D := .tup [fD (szL L) p.1, frD (nf p.2 (WL L))]
structure LotsOk (L : Lots) : Prop where
  sz : L.length ≤ 4 ∧ 2 ≤ L.length ∧ ∀ n ∈ szL L, 2 ≤ n ∧ n ≤ 3
  lot : ∀ v ws, v < L.length → vrAt L v = .lot ws → ws.length = (szL L).getD v 0 ∧ (∀ x ∈ ws, 0 ≤ x) ∧ 0 < ws.sum ∧ ws.sum < 8
  rule : ∀ v r, v < L.length → vrAt L v = .rule r → RuOk (szL L) v r ∧ r.1.Pairwise (· < ·)
  few : (freeL L).length ≤ 3
theorem plF_nn {p q : Int × Int} (hp : 0 < p.2) (hq : 0 < q.2) (h1 : 0 ≤ p.1) (h2 : 0 ≤ q.1) : 0 ≤ (plF p q).1 := by
  have hd := Int.mul_pos hp hq
  have hn : 0 ≤ p.1 * q.2 + q.1 * p.2 := Int.add_nonneg (Int.mul_nonneg h1 (Int.le_of_lt hq)) (Int.mul_nonneg h2 (Int.le_of_lt hp))
  exact Int.ediv_nonneg hn (Int.le_of_lt (gcd_pos hd))
theorem nf_nn {a b : Int} (hb : 0 < b) (h : 0 ≤ a) : 0 ≤ (nf a b).1 := Int.ediv_nonneg h (Int.le_of_lt (gcd_pos hb))
theorem nf_pos1 {a b : Int} (hb : 0 < b) (h : 0 ≤ a) : 0 < (nf a b).1 ↔ 0 < a := by
  have c := nf_cross a b
  have p := nf_pos (a := a) hb
  constructor
  · intro q
    have : 0 < a * (nf a b).2 := by rw [← c]; exact Int.mul_pos q hb
    exact Int.pos_of_mul_pos_left this p
  · intro q
    have : 0 < (nf a b).1 * b := by rw [c]; exact Int.mul_pos q p
    exact Int.pos_of_mul_pos_left this hb

theorem tell_keys {v : Nat} : ∀ (e : Ev) (a : Option Int), (∀ p ∈ e, p.1 ≠ v) → e.foldl (fun a p => if p.1 = v then some p.2 else a) a = a
  | [], _, _ => rfl
  | q :: e, a, h => by
    rw [List.foldl_cons, if_neg (h q (.head _))]
    exact tell_keys e a fun p hp => h p (.tail _ hp)
theorem tell_nodup {p : Nat × Int} : ∀ (e : Ev) (a : Option Int), (e.map (·.1)).Nodup → p ∈ e → e.foldl (fun a q => if q.1 = p.1 then some q.2 else a) a = some p.2
  | q :: e, a, nd, h => by
    rw [List.map_cons, List.nodup_cons] at nd
    rw [List.foldl_cons]
    rcases List.mem_cons.mp h with h | h
    · subst h
      rw [if_pos rfl]
      exact tell_keys e _ fun q hq z => nd.1 (by rw [← z]; exact List.mem_map_of_mem hq)
    · exact tell_nodup e _ nd.2 h
theorem RowOk.nil (s : List Nat) : RowOk s [] := fun j hj => absurd hj (Nat.not_lt_zero _)
theorem rowsM_row : ∀ {s pre : List Nat} {found : List (List Int)}, (∀ r ∈ found, r.length = pre.length ∧ RowOk (pre ++ s) r) → ∀ r ∈ rowsM found s, r.length = pre.length + s.length ∧ RowOk (pre ++ s) r
  | [], pre, found, h, r, hr => h r hr
  | n :: s, pre, found, h, r, hr => by
    have := rowsM_row (s := s) (pre := pre ++ [n]) (found := found.flatMap (rowsStep n)) (fun r hr => by
      obtain ⟨r', hr', hx⟩ := List.mem_flatMap.mp hr
      unfold rowsStep at hx
      obtain ⟨x, hxr, rfl⟩ := List.mem_map.mp hx
      obtain ⟨h1, h2⟩ := h r' hr'
      rw [List.append_assoc]
      refine ⟨by rw [List.length_append, List.length_append, h1]; rfl, h2.snoc ⟨by omega, ?_⟩⟩
      rw [h1, List.getD_eq_getElem?_getD, List.getElem?_append_right (Nat.le_refl _), Nat.sub_self]
      have := List.mem_range.mp hxr
      show (x : Int) < (n : Nat)
      omega) r hr
    rw [List.append_assoc] at this
    refine ⟨by rw [this.1, List.length_append, List.length_cons, List.length_cons, List.length_nil]; omega, this.2⟩
theorem rows_row {s : List Nat} {r : List Int} (hr : r ∈ rowsM [[]] s) : r.length = s.length ∧ RowOk s r := by
  have := rowsM_row (s := s) (pre := []) (found := [[]]) (fun r hr => by rw [List.mem_singleton.mp hr]; exact ⟨rfl, .nil _⟩) r hr
  simpa using this
theorem own_of {s : List Nat} : ∀ {rs : List Ru} {v : Nat}, (∀ j r, rs[j]? = some r → RuOk s (v + j) r) → OwnOk s v rs
  | [], _, _ => trivial
  | r :: rs, v, h => ⟨h 0 r rfl, own_of (rs := rs) (v := v + 1) fun j r' e => by have := h (j + 1) r' e; rwa [show v + 1 + j = v + (j + 1) by omega]⟩
theorem mem_free {L : Lots} {v : Nat} : v ∈ freeL L ↔ v < L.length ∧ (vrAt L v).isLot = true := by
  unfold freeL
  rw [List.mem_filter, List.mem_range]
theorem free_nodup (L : Lots) : (freeL L).Nodup := List.Nodup.sublist List.filter_sublist List.nodup_range
section
variable {L : Lots} {r : List Int}
/-- a row of what is drawn -/
structure Drawn (L : Lots) (r : List Int) : Prop where
  len : r.length = (freeL L).length
  ok : RowOk (fszL L) r
theorem drawn_of (h : r ∈ rowsM [[]] (fszL L)) : Drawn L r := by
  obtain ⟨h1, h2⟩ := rows_row h
  exact ⟨by rw [h1]; unfold fszL; simp, h2⟩
theorem Drawn.keys (d : Drawn L r) : ((freeL L).zip r).map (·.1) = freeL L := by
  rw [List.map_fst_zip]
  exact Nat.le_of_eq d.len.symm
theorem Drawn.tell (d : Drawn L r) {p : Nat × Int} (h : p ∈ (freeL L).zip r) : tell ((freeL L).zip r) p.1 = some p.2 := tell_nodup _ none (by rw [d.keys]; exact free_nodup L) h
theorem Drawn.tell_free (d : Drawn L r) {v : Nat} (h : v ∈ freeL L) : ∃ x, DL.tell ((freeL L).zip r) v = some x := by
  rw [← d.keys] at h
  obtain ⟨p, hp, rfl⟩ := List.mem_map.mp h
  exact ⟨p.2, d.tell hp⟩
theorem Drawn.val (d : Drawn L r) {p : Nat × Int} (h : p ∈ (freeL L).zip r) : 0 ≤ p.2 ∧ p.2 < ((szL L).getD p.1 0 : Nat) := by
  obtain ⟨i, hi⟩ := List.mem_iff_getElem?.mp h
  obtain ⟨h1, h2⟩ := List.getElem?_zip_eq_some.mp hi
  have hl := (List.getElem?_eq_some_iff.mp h2).1
  have := d.ok i hl
  rw [List.getD_eq_getElem?_getD, h2] at this
  have e : (fszL L).getD i 0 = (szL L).getD p.1 0 := by
    unfold fszL
    rw [List.getD_eq_getElem?_getD, List.getElem?_map, h1]
    rfl
  rw [e] at this
  exact this
theorem wgt_snd (L : Lots) : ∀ (fr : List Nat) (r : List Int) (a : Int × Int), r.length = fr.length → ((fr.zip r).foldl (wStep L) a).2 = fr.foldl (fun a v => a * (vrAt L v).ws.sum) a.2
  | [], _, _, _ => rfl
  | v :: fr, x :: r, a, h => by
    rw [List.zip_cons_cons, List.foldl_cons, List.foldl_cons, wgt_snd L fr r _ (by simpa using h)]
    rfl
  | _ :: _, [], _, h => by simp at h
theorem Drawn.wl (d : Drawn L r) : (wgt L ((freeL L).zip r)).2 = WL L := wgt_snd L _ _ _ d.len
end
/-- bounds of the running product -/
structure WB (k : Nat) (a : Int × Int) : Prop where
  nn : 0 ≤ a.1
  b1 : a.1.natAbs < 2 ^ k
  pos : 0 < a.2
  b2 : a.2.natAbs < 2 ^ k
theorem WB.fb {k : Nat} {a : Int × Int} (h : WB k a) : Fb k (nf a.1 a.2) := nf_fb h.b1 h.pos h.b2
theorem getD_le_sum : ∀ {ws : List Int} {j : Nat}, (∀ x ∈ ws, 0 ≤ x) → 0 ≤ ws.getD j 0 ∧ ws.getD j 0 ≤ ws.sum := by
  intro ws
  induction ws with
  | nil => intro j h; exact ⟨by simp, by simp⟩
  | cons w ws ih =>
    intro j h
    have hw := h w (.head _)
    have hs : 0 ≤ ws.sum := by
      have := (ih (j := ws.length) fun x hx => h x (.tail _ hx))
      exact Int.le_trans this.1 this.2
    rw [List.sum_cons]
    cases j with
    | zero => exact ⟨hw, by show w ≤ _; omega⟩
    | succ j =>
      have := ih (j := j) fun x hx => h x (.tail _ hx)
      exact ⟨this.1, by have := this.2; show ws.getD j 0 ≤ _; omega⟩
theorem LotsOk.sum {L : Lots} (h : LotsOk L) {v : Nat} (hv : v ∈ freeL L) : ∃ ws, vrAt L v = .lot ws ∧ ws.length = (szL L).getD v 0 ∧ (∀ x ∈ ws, 0 ≤ x) ∧ 0 < ws.sum ∧ ws.sum < 8 := by
  obtain ⟨h1, h2⟩ := mem_free.mp hv
  cases e : vrAt L v with
  | lot ws => exact ⟨ws, rfl, h.lot v ws h1 e⟩
  | rule r => rw [e] at h2; cases h2
theorem WB.step {L : Lots} (h : LotsOk L) {k : Nat} {a : Int × Int} (w : WB k a) {p : Nat × Int} (hp : p.1 ∈ freeL L) : WB (k + 3) (wStep L a p) := by
  obtain ⟨ws, e, _, h2, h3, h4⟩ := h.sum hp
  obtain ⟨g1, g2⟩ := getD_le_sum (j := p.2.toNat) h2
  unfold wStep
  rw [e]
  exact ⟨Int.mul_nonneg w.nn g1, mul_bd w.b1 (by show (ws.getD p.2.toNat 0).natAbs < 2 ^ 3; omega), Int.mul_pos w.pos h3, mul_bd w.b2 (by show (ws.sum).natAbs < 2 ^ 3; omega)⟩
theorem WB.fold {L : Lots} (h : LotsOk L) : ∀ (e : Ev) {k : Nat} {a : Int × Int}, WB k a → (∀ p ∈ e, p.1 ∈ freeL L) → WB (k + 3 * e.length) (e.foldl (wStep L) a)
  | [], _, _, w, _ => w
  | p :: e, k, a, w, hp => by
    have := WB.fold h e (w.step h (hp p (.head _))) fun q hq => hp q (.tail _ hq)
    rw [List.length_cons, show k + 3 * (e.length + 1) = k + 3 + 3 * e.length by omega]
    exact this
theorem WB.one : WB 1 (1, 1) := ⟨by decide, by decide, by decide, by decide⟩
theorem zip_free {L : Lots} {r : List Int} : ∀ p ∈ (freeL L).zip r, p.1 ∈ freeL L := fun p hp => (List.of_mem_zip hp).1
theorem LotsOk.wb {L : Lots} (h : LotsOk L) {r : List Int} (d : Drawn L r) : WB 10 (wgt L ((freeL L).zip r)) := by
  have w := WB.fold h ((freeL L).zip r) WB.one zip_free
  have hl : ((freeL L).zip r).length = (freeL L).length := by rw [List.length_zip, d.len, Nat.min_self]
  have hf := h.few
  rw [hl] at w
  exact ⟨w.nn, bd_mono w.b1 (by omega), w.pos, bd_mono w.b2 (by omega)⟩
theorem LotsOk.at {L : Lots} (h : LotsOk L) {r : List Int} (d : Drawn L r) {v : Nat} (hv : v < L.length) : ∃ q : Ru, (ownL L ((freeL L).zip r))[v]? = some q ∧ RuOk (szL L) v q := by
  unfold ownL
  rw [List.getElem?_map, List.getElem?_range hv]
  refine ⟨_, rfl, ?_⟩
  show RuOk (szL L) v (match tell ((freeL L).zip r) v with
    | some x => ([], [x])
    | none => (vrAt L v).ru)
  cases t : tell ((freeL L).zip r) v with
  | some x =>
    have q := d.val (tell_mem t)
    exact ⟨(fun a ha => nomatch ha), rfl, (fun y hy => by
      have hy : y ∈ [x] := hy
      rw [List.mem_singleton.mp hy]; exact q), Nat.zero_le _⟩
  | none =>
    cases e : vrAt L v with
    | lot ws =>
      obtain ⟨x, hx⟩ := d.tell_free (mem_free.mpr ⟨hv, by rw [e]; rfl⟩)
      rw [t] at hx; cases hx
    | rule q => exact (h.rule v q hv e).1
theorem LotsOk.own {L : Lots} (h : LotsOk L) {r : List Int} (d : Drawn L r) : OwnOk (szL L) 0 (ownL L ((freeL L).zip r)) ∧ (ownL L ((freeL L).zip r)).length = L.length := by
  have hl : (ownL L ((freeL L).zip r)).length = L.length := by unfold ownL; simp
  refine ⟨own_of fun j q e => ?_, hl⟩
  obtain ⟨q', e', ok⟩ := h.at d (v := j) (by rw [← hl]; exact (List.getElem?_eq_some_iff.mp e).1)
  rw [e] at e'
  cases e'
  rw [Nat.zero_add]
  exact ok
end DL

set_option Elab.async false
set_option linter.all false
set_option maxRecDepth 100000
namespace W17
open DL
open L2 (atI atI_nat ixN)
section
variable {L : Lots}
theorem ru_at {v : Nat} (hv : v < L.length) : D.ix (ruLs L) (.int (v : Int)) = some (ruOf (vrAt L v)) := by
  show atI (L.map fun c => ruOf c.2) (v : Int) = _
  rw [atI_lt (by simpa using hv), List.getElem_map]
  unfold vrAt
  rw [List.getD_eq_getElem?_getD, List.getElem?_eq_getElem hv]
  rfl
theorem ch_at {v : Nat} (hv : v < L.length) : D.ix (chLs L) (.int (v : Int)) = some (chOf (vrAt L v)) := by
  show atI (L.map fun c => chOf c.2) (v : Int) = _
  rw [atI_lt (by simpa using hv), List.getElem_map]
  unfold vrAt
  rw [List.getD_eq_getElem?_getD, List.getElem?_eq_getElem hv]
  rfl
theorem isN_ru (c : Vr) : D.isN (ruOf c) .non = some (.bl c.isLot) := by cases c <;> rfl
theorem len_szL : gLen [szD (szL L)] = some (.int ((L.length : Nat) : Int)) := by simp only [gLen, szD, szL, List.length_map]
/-- what is free -/
theorem free_s {ρ : Rho} {S : Sto} {it : Ars} {i j : Nat} (hl : L.length ≤ 1000) (hit : it ρ S = some ((List.range L.length).map fun (v : Nat) => D.int (v : Int), S)) (hi : ∀ a : Nat, ∃ ρ2, gNm j (.int (a : Int)) (wipeR ρ [j]) = some ρ2 ∧ bVar i ρ2 S = some (ruLs L, S) ∧ bVar j ρ2 S = some (.int (a : Int), S) ∧ eVar j ρ2 S = some (.int (a : Int), S)) :
    eLc it (gNm j) (tBl (eBin D.isN (eBin D.ix (bVar i) (bVar j)) (eC .non))) (eVar j) [j] ρ S = some (.lst ((freeL L).map fun (v : Nat) => D.int (v : Int)), S) := by
  have c := compF_map (g := gNm j) (tt := tBl (eBin D.isN (eBin D.ix (bVar i) (bVar j)) (eC .non))) (te := eVar j) (ρ := wipeR ρ [j]) (S := S) (fun (v : Nat) => D.int (v : Int)) (fun v => (vrAt L v).isLot) (fun (v : Nat) => D.int (v : Int)) (List.range L.length) fun v hv => by
    obtain ⟨ρ2, h1, h2, h3, h4⟩ := hi v
    exact ⟨ρ2, h1, tBl_of (eBin_of (S1 := S) (S2 := S) (d2 := .non) (eBin_of h2 h3 (ru_at (List.mem_range.mp hv))) rfl (isN_ru _)), fun _ => h4⟩
  exact eLc_of hit c
theorem fsz_s {ρ : Rho} {S : Sto} {it : Ars} {i j : Nat} (hit : it ρ S = some ((freeL L).map fun (v : Nat) => D.int (v : Int), S)) (hi : ∀ a : Nat, ∃ ρ2, gNm j (.int (a : Int)) (wipeR ρ [j]) = some ρ2 ∧ bVar i ρ2 S = some (szD (szL L), S) ∧ bVar j ρ2 S = some (.int (a : Int), S)) :
    eLc it (gNm j) tYs (eBin D.ix (bVar i) (bVar j)) [j] ρ S = some (.lst ((fszL L).map fun (n : Nat) => D.int (n : Int)), S) := by
  have c := compF_all (g := gNm j) (te := eBin D.ix (bVar i) (bVar j)) (ρ := wipeR ρ [j]) (S := S) (fun (v : Nat) => D.int (v : Int)) (fun v => D.int (((szL L).getD v 0 : Nat) : Int)) (freeL L) fun v hv => by
    obtain ⟨ρ2, h1, h2, h3⟩ := hi v
    exact ⟨ρ2, h1, eBin_of h2 h3 (szD_at (by have := (mem_free.mp hv).1; unfold szL; simpa using this))⟩
  rw [eLc_of hit c]
  unfold fszL
  rw [List.map_map]
  rfl
theorem _root_.DL.LotsOk.at_le (h : LotsOk L) (a : Nat) : (szL L).getD a 0 ≤ 3 := by
  rw [List.getD_eq_getElem?_getD]
  cases e : (szL L)[a]? with
  | none => simp
  | some n => exact (h.sz.2.2 n (List.mem_of_getElem? e)).2
theorem _root_.DL.LotsOk.small (h : LotsOk L) : Small [[]] (fszL L) := by
  have hl : (fszL L).length ≤ 3 := by unfold fszL; rw [List.length_map]; exact h.few
  refine ⟨fun n hn => ?_, ?_, fun r hr => by rw [List.mem_singleton.mp hr, List.length_nil]; omega⟩
  · obtain ⟨v, _, rfl⟩ := List.mem_map.mp hn
    exact h.at_le v
  · have : 3 ^ (fszL L).length ≤ 3 ^ 3 := Nat.pow_le_pow_right (by decide) hl
    simp only [List.length_cons, List.length_nil]
    omega
/-- a chance -/
theorem chance_at (h : LotsOk L) {v : Nat} {x : Int} (hv : v ∈ freeL L) (hx : 0 ≤ x ∧ x < ((szL L).getD v 0 : Nat)) : D.ix (chOf (vrAt L v)) (.int x) = some (frD (nf ((vrAt L v).ws.getD x.toNat 0) (vrAt L v).ws.sum)) ∧ Fb 3 (nf ((vrAt L v).ws.getD x.toNat 0) (vrAt L v).ws.sum) ∧ 0 ≤ (nf ((vrAt L v).ws.getD x.toNat 0) (vrAt L v).ws.sum).1 := by
  obtain ⟨ws, e, h1, h2, h3, h4⟩ := h.sum hv
  rw [e]
  obtain ⟨j, rfl⟩ := Int.eq_ofNat_of_zero_le hx.1
  have hj : j < ws.length := by rw [h1]; have := hx.2; omega
  obtain ⟨g1, g2⟩ := getD_le_sum (j := j) h2
  refine ⟨?_, nf_fb (show (ws.getD j 0).natAbs < 2 ^ 3 by omega) h3 (show ws.sum.natAbs < 2 ^ 3 by omega), nf_nn h3 g1⟩
  show atI (ws.map fun x => frD (nf x ws.sum)) (j : Int) = some (frD (nf (ws.getD j 0) ws.sum))
  rw [atI_lt (by simpa using hj), List.getElem_map, List.getD_eq_getElem?_getD, List.getElem?_eq_getElem hj]
  rfl
theorem tm_nf (a b : Int) {A B : Int} (hA : 0 < A) (hB : 0 < B) : tmF (nf a A) (nf b B) = nf (a * b) (A * B) := by
  have ha := nf_cross a A
  have hb := nf_cross b B
  unfold tmF
  refine nf_eq (Int.mul_pos (nf_pos hA) (nf_pos hB)) (Int.mul_pos hA hB) ?_
  generalize (nf a A).1 = a1 at *
  generalize (nf a A).2 = a2 at *
  generalize (nf b B).1 = b1 at *
  generalize (nf b B).2 = b2 at *
  calc a1 * b1 * (A * B) = (a1 * A) * (b1 * B) := by simp only [Int.mul_assoc, Int.mul_left_comm]
    _ = (a * a2) * (b * b2) := by rw [ha, hb]
    _ = a * b * (a2 * b2) := by simp only [Int.mul_assoc, Int.mul_left_comm]
/-- the product goes on -/
theorem tm_step (h : LotsOk L) {k : Nat} {a : Int × Int} (w : WB k a) {v : Nat} {x : Int} (hv : v ∈ freeL L) : tmF (nf a.1 a.2) (nf ((vrAt L v).ws.getD x.toNat 0) (vrAt L v).ws.sum) = nf (wStep L a (v, x)).1 (wStep L a (v, x)).2 := by
  obtain ⟨ws, e, h1, h2, h3, h4⟩ := h.sum hv
  have : wStep L a (v, x) = (a.1 * ws.getD x.toNat 0, a.2 * ws.sum) := by
    show (a.1 * (vrAt L v).ws.getD x.toNat 0, a.2 * (vrAt L v).ws.sum) = _
    rw [e]; rfl
  rw [this, e]
  exact tm_nf _ _ w.pos h3
end
end W17

set_option Elab.async false
set_option linter.all false
set_option maxRecDepth 100000
namespace W17
open DL
open L2 (atI atI_nat ixN)
section
variable {L : Lots}
/-! drawn -/
def drB1 : Stm := (sAsg (eCall F_times (aCons (eVar 8) (aCons (eBin D.ix (eBin D.ix (bVar 3) (bVar 9)) (eBin D.dix (bVar 7) (bVar 9))) aNil))) (gNm 8))
theorem dr_loop1 (h : LotsOk L) {r : List Int} (d : Drawn L r) (S : Sto) (a b c f g i w : Sl) : ∀ (suf : Ev) (k : Nat) (x : Int × Int) (z : Sl), (∀ p ∈ suf, p ∈ (freeL L).zip r) → WB k x → k + 3 * suf.length ≤ 100 →
    ∃ z', forF (gNm 9) drB1 ((suf.map (·.1)).map fun (v : Nat) => D.int (v : Int)) [a, b, c, .sh (chLs L), f, g, i, .sh (toldD ((freeL L).zip r)), .sh (frD (nf x.1 x.2)), z, w] S = some (.nx [a, b, c, .sh (chLs L), f, g, i, .sh (toldD ((freeL L).zip r)), .sh (frD (nf (suf.foldl (wStep L) x).1 (suf.foldl (wStep L) x).2)), z', w] S)
  | [], k, x, z, _, _, _ => ⟨z, rfl⟩
  | p :: suf, k, x, z, hp, wb, hk => by
    rw [List.length_cons] at hk
    have hm := hp p (.head _)
    have hf := zip_free p hm
    obtain ⟨z', ih⟩ := dr_loop1 h d S a b c f g i w suf (k + 3) (wStep L x p) (.sh (.int (p.1 : Int))) (fun q hq => hp q (.tail _ hq)) (wb.step h hf) (by omega)
    refine ⟨z', ?_⟩
    obtain ⟨c1, c2, c3⟩ := chance_at h hf (d.val hm)
    have ts := times_s S wb.fb c2 (by omega)
    rw [tm_step h wb hf] at ts
    have tl := told_ix (d.tell hm)
    rw [List.map_cons, List.map_cons, forF_step (b := drB1) (ρ1 := [a, b, c, .sh (chLs L), f, g, i, .sh (toldD ((freeL L).zip r)), .sh (frD (nf x.1 x.2)), .sh (.int (p.1 : Int)), w]) (S2 := S) rfl (sAsg_of (S1 := S) (eCall_of (S1 := S) (aCons_of (S1 := S) rfl (aCons_of (S1 := S) (eBin_of (S1 := S) (S2 := S) (eBin_of (S1 := S) (S2 := S) rfl rfl (ch_at (mem_free.mp hf).1)) (eBin_of (S1 := S) (S2 := S) rfl rfl tl) c1) rfl)) ts) rfl)]
    exact ih
theorem ru1 (x : Int) : ruD ([], [x]) = .tup [.tup [], .tup [.int x]] := rfl
theorem eIf_t {c : Tx} {a b : Ex} {ρ : Rho} {S S1 : Sto} {o : Option (D × Sto)} (h1 : c ρ S = some (true, S1)) (h2 : a ρ S1 = o) : eIf c a b ρ S = o := by
  unfold eIf
  rw [h1, Option.bind_some, if_pos rfl]
  exact h2
theorem eIf_f {c : Tx} {a b : Ex} {ρ : Rho} {S S1 : Sto} {o : Option (D × Sto)} (h1 : c ρ S = some (false, S1)) (h2 : b ρ S1 = o) : eIf c a b ρ S = o := by
  unfold eIf
  rw [h1, Option.bind_some, if_neg Bool.false_ne_true]
  exact h2
theorem own_s (h : LotsOk L) {r : List Int} (d : Drawn L r) (S : Sto) (a c f g i o w w2 : Sl) :
    eCB gTuple (aCons (eLc (iRng (aCons (eCB gLen (aCons (bVar 1) aNil)) aNil)) (gNm 9) tYs (eIf (tBl (eBin D.isInA (bVar 9) (bVar 7))) (eTup (aCons (eTup aNil) (aCons (eTup (aCons (eBin D.dix (bVar 7) (bVar 9)) aNil)) aNil))) (eBin D.ix (bVar 2) (bVar 9))) [9]) aNil) [a, .sh (szD (szL L)), .sh (ruLs L), c, f, g, i, .sh (toldD ((freeL L).zip r)), o, w, w2] S = some (.tup ((ownL L ((freeL L).zip r)).map ruD), S) := by
  have hl : L.length ≤ 100000 := by have := h.sz.1; omega
  have c1 := compF_all (g := gNm 9) (te := (eIf (tBl (eBin D.isInA (bVar 9) (bVar 7))) (eTup (aCons (eTup aNil) (aCons (eTup (aCons (eBin D.dix (bVar 7) (bVar 9)) aNil)) aNil))) (eBin D.ix (bVar 2) (bVar 9)))) (ρ := wipeR [a, .sh (szD (szL L)), .sh (ruLs L), c, f, g, i, .sh (toldD ((freeL L).zip r)), o, w, w2] [9]) (S := S) (fun (v : Nat) => D.int (v : Int)) (fun v => ruD (match tell ((freeL L).zip r) v with
      | some x => ([], [x])
      | none => (vrAt L v).ru)) (List.range L.length) fun v hv => by
    have hv := List.mem_range.mp hv
    refine ⟨[a, .sh (szD (szL L)), .sh (ruLs L), c, f, g, i, .sh (toldD ((freeL L).zip r)), o, .sh (.int (v : Int)), w2], rfl, ?_⟩
    have t : tBl (eBin D.isInA (bVar 9) (bVar 7)) [a, .sh (szD (szL L)), .sh (ruLs L), c, f, g, i, .sh (toldD ((freeL L).zip r)), o, .sh (.int (v : Int)), w2] S = some ((tell ((freeL L).zip r) v).isSome, S) := tBl_of (eBin_of (S1 := S) (S2 := S) rfl rfl (told_in _ _))
    cases e : tell ((freeL L).zip r) v with
    | some x =>
      rw [e] at t
      refine eIf_t t ?_
      exact eTup_of (ds := [.tup [], .tup [.int x]]) (aCons_of (d := .tup []) (S1 := S) (eTup_of (ds := []) rfl (Nat.zero_le _)) (aCons_of (d := .tup [.int x]) (S1 := S) (tup1 (eBin_of (S1 := S) (S2 := S) rfl rfl (told_ix e))) rfl)) (by show 2 ≤ PySem.sizeLine; decide)
    | none =>
      rw [e] at t
      refine eIf_f t ?_
      have q : ruOf (vrAt L v) = ruD (vrAt L v).ru := by
        cases ev : vrAt L v with
        | lot ws =>
          obtain ⟨x, hx⟩ := d.tell_free (mem_free.mpr ⟨hv, by rw [ev]; rfl⟩)
          rw [e] at hx; cases hx
        | rule q => rfl
      have := ru_at hv
      rw [q] at this
      exact eBin_of (S1 := S) (S2 := S) rfl rfl this
  have := eLc_of (vs := [9]) (iRng_of (fs := aCons (eCB gLen (aCons (bVar 1) aNil)) aNil) (ds := [.int ((L.length : Nat) : Int)]) (S1 := S) (aCons_of (eCB_of (ds := [szD (szL L)]) (S1 := S) rfl len_szL) rfl) (rangeOf_nat hl)) c1
  rw [eCB_of (aCons_of this rfl) rfl]
  unfold ownL
  rw [List.map_map]
  rfl
def drB : Stm := (sSeq (sAsg (eCB gDictZip (aCons (bVar 4) (aCons (bVar 6) aNil))) (gNm 7))
    (sSeq (sAsg (eC (.tup [.int 1, .int 1])) (gNm 8))
    (sSeq (sFor (iSeq (eVar 4)) (gNm 9)
    drB1)
    (sIf (tBl (eBin D.gt (eBin D.ix (bVar 8) (eC (.int 0))) (eC (.int 0)))) (sSeq (sAsg (eCB gTuple (aCons (eLc (iRng (aCons (eCB gLen (aCons (bVar 1) aNil)) aNil)) (gNm 9) tYs (eIf (tBl (eBin D.isInA (bVar 9) (bVar 7))) (eTup (aCons (eTup aNil) (aCons (eTup (aCons (eBin D.dix (bVar 7) (bVar 9)) aNil)) aNil))) (eBin D.ix (bVar 2) (bVar 9))) [9]) aNil)) (gNm 10))
    (sMut gAppend 5 (aCons (eTup (aCons (eTup (aCons (eVar 1) (aCons (eVar 10) aNil))) (aCons (eVar 8) aNil))) aNil))) sNx))))
theorem keysOf_nat : ∀ l : List Nat, keysOf (l.map fun (v : Nat) => D.int (v : Int)) = some (l.map fun (v : Nat) => (Sum.inl (v : Int) : L2.Key))
  | [] => rfl
  | v :: l => by
    rw [List.map_cons]
    simp only [keysOf, D.key, Option.bind_some, keysOf_nat l]
    rfl
theorem zip_kv (fr : List Nat) (r : List Int) : (fr.map fun (v : Nat) => (Sum.inl (v : Int) : L2.Key)).zip (r.map D.int) = kvE (fr.zip r) := by
  unfold kvE
  rw [List.zip_map]
  rfl
theorem dictzip_s (fr : List Nat) (r : List Int) : gDictZip [.lst (fr.map fun (v : Nat) => D.int (v : Int)), rowD r] = some (toldD (fr.zip r)) := by
  show ((keysOf (fr.map fun (v : Nat) => D.int (v : Int))).map fun kks => D.dct ((mergeD [] (kks.zip (r.map D.int))).map (·.1)) ((mergeD [] (kks.zip (r.map D.int))).map (·.2))) = _
  rw [keysOf_nat, Option.map_some, zip_kv]
  rfl
theorem app_d {xs : List D} {y : D} (h : xs.length ≤ 100000) : gAppend (.lst xs) [y] = some (.lst (xs ++ [y]), .non) := by
  have z : xs.length < PySem.sizeLine := Nat.lt_of_lt_of_le (Nat.lt_succ_of_le h) (by decide : 100000 + 1 ≤ PySem.sizeLine)
  simp only [gAppend, if_pos z]
theorem pair_s {f1 f2 : Ex} {ρ : Rho} {S S1 S2 : Sto} {d1 d2 : D} (h1 : f1 ρ S = some (d1, S1)) (h2 : f2 ρ S1 = some (d2, S2)) : eTup (aCons f1 (aCons f2 aNil)) ρ S = some (.tup [d1, d2], S2) := eTup_of (aCons_of h1 (aCons_of h2 rfl)) (by show 2 ≤ PySem.sizeLine; decide)
theorem one_cases (h : LotsOk L) {r : List Int} (d : Drawn L r) : (decide (0 < (nf (wgt L ((freeL L).zip r)).1 (WL L)).1) = true ∧ oneM L r = some (ownL L ((freeL L).zip r), (wgt L ((freeL L).zip r)).1)) ∨ (decide (0 < (nf (wgt L ((freeL L).zip r)).1 (WL L)).1) = false ∧ oneM L r = none) := by
  have wb := h.wb d
  have hp := nf_pos1 wb.pos wb.nn
  rw [d.wl] at hp
  unfold oneM
  by_cases c : 0 < (wgt L ((freeL L).zip r)).1
  · exact .inl ⟨decide_eq_true (hp.mpr c), if_pos c⟩
  · exact .inr ⟨decide_eq_false fun z => c (hp.mp z), if_neg c⟩
theorem dr_step (h : LotsOk L) {r : List Int} (d : Drawn L r) (S : Sto) (a z7 z8 z9 z10 : Sl) (xs : List D) (hx : xs.length ≤ 100000) :
    ∃ z7' z8' z9' z10', drB [a, .sh (szD (szL L)), .sh (ruLs L), .sh (chLs L), .sh (.lst ((freeL L).map fun (v : Nat) => D.int (v : Int))), .ow (.lst xs), .sh (rowD r), z7, z8, z9, z10] S = some (.nx [a, .sh (szD (szL L)), .sh (ruLs L), .sh (chLs L), .sh (.lst ((freeL L).map fun (v : Nat) => D.int (v : Int))), .ow (.lst (xs ++ ((oneM L r).map (drD L)).toList)), .sh (rowD r), z7', z8', z9', z10'] S) := by
  obtain ⟨z', l⟩ := dr_loop1 h d S a (.sh (szD (szL L))) (.sh (ruLs L)) (.sh (.lst ((freeL L).map fun (v : Nat) => D.int (v : Int)))) (.ow (.lst xs)) (.sh (rowD r)) z10 ((freeL L).zip r) 1 (1, 1) z9 (fun p hp => hp) WB.one (by
    have := h.few
    rw [List.length_zip, d.len, Nat.min_self]; omega)
  rw [d.keys] at l
  have e2 := d.wl
  have ew : (((freeL L).zip r).foldl (wStep L) (1, 1)) = wgt L ((freeL L).zip r) := rfl
  rw [ew, e2] at l
  have os := own_s h d S a (.sh (chLs L)) (.sh (.lst ((freeL L).map fun (v : Nat) => D.int (v : Int)))) (.ow (.lst xs)) (.sh (rowD r)) (.sh (frD (nf (wgt L ((freeL L).zip r)).1 (WL L)))) z' z10
  have st1 : sAsg (eCB gDictZip (aCons (bVar 4) (aCons (bVar 6) aNil))) (gNm 7) [a, .sh (szD (szL L)), .sh (ruLs L), .sh (chLs L), .sh (.lst ((freeL L).map fun (v : Nat) => D.int (v : Int))), .ow (.lst xs), .sh (rowD r), z7, z8, z9, z10] S = some (.nx [a, .sh (szD (szL L)), .sh (ruLs L), .sh (chLs L), .sh (.lst ((freeL L).map fun (v : Nat) => D.int (v : Int))), .ow (.lst xs), .sh (rowD r), .sh (toldD ((freeL L).zip r)), z8, z9, z10] S) := sAsg_of (S1 := S) (eCB_of (ds := [.lst ((freeL L).map fun (v : Nat) => D.int (v : Int)), rowD r]) (S1 := S) rfl (dictzip_s _ _)) rfl
  have t : tBl (eBin D.gt (eBin D.ix (bVar 8) (eC (.int 0))) (eC (.int 0))) [a, .sh (szD (szL L)), .sh (ruLs L), .sh (chLs L), .sh (.lst ((freeL L).map fun (v : Nat) => D.int (v : Int))), .ow (.lst xs), .sh (rowD r), .sh (toldD ((freeL L).zip r)), .sh (frD (nf (wgt L ((freeL L).zip r)).1 (WL L))), z', z10] S = some (decide (0 < (nf (wgt L ((freeL L).zip r)).1 (WL L)).1), S) :=
    tBl_of (eBin_of (d1 := .int (nf (wgt L ((freeL L).zip r)).1 (WL L)).1) (d2 := .int 0) (S1 := S) (S2 := S) (eBin_of (d2 := .int 0) (S1 := S) (S2 := S) rfl rfl (at0 _ _)) rfl rfl)
  unfold drB
  rcases one_cases h d with ⟨c1, c2⟩ | ⟨c1, c2⟩
  · rw [c1] at t
    rw [c2]
    refine ⟨.sh (toldD ((freeL L).zip r)), .sh (frD (nf (wgt L ((freeL L).zip r)).1 (WL L))), z', .sh (.tup ((ownL L ((freeL L).zip r)).map ruD)), sSeq_of st1 (sSeq_of (S1 := S) rfl (sSeq_of (S1 := S) (sFor_of (S1 := S) rfl l) (sIf_t t (sSeq_of (S1 := S) (sAsg_of os rfl) (sMut_of (c := .lst xs) (S1 := S) rfl (aCons_of (S1 := S) (pair_s (S1 := S) (S2 := S) (pair_s (S1 := S) (S2 := S) rfl rfl) rfl) rfl) (app_d hx))))))⟩
  · rw [c1] at t
    rw [c2]
    refine ⟨.sh (toldD ((freeL L).zip r)), .sh (frD (nf (wgt L ((freeL L).zip r)).1 (WL L))), z', z10, sSeq_of st1 (sSeq_of (S1 := S) rfl (sSeq_of (S1 := S) (sFor_of (S1 := S) rfl l) (sIf_f t ?_)))⟩
    show some _ = _
    simp only [Option.map_none, Option.toList_none, List.append_nil]
end
end W17

set_option Elab.async false
set_option linter.all false
set_option maxRecDepth 100000
namespace DL
theorem set_all {v : Nat} {g : Int → D} {d0 : D} : ∀ (e : Ev) (acc : Option Int) (os : List D), os[v]? = some (match acc with
    | some x => g x
    | none => d0) → (e.foldl (fun o p => o.set p.1 (g p.2)) os)[v]? = some (match e.foldl (fun a p => if p.1 = v then some p.2 else a) acc with
    | some x => g x
    | none => d0)
  | [], acc, os, h => h
  | p :: e, acc, os, h => by
    rw [List.foldl_cons, List.foldl_cons]
    refine set_all e _ _ ?_
    by_cases c : p.1 = v
    · rw [if_pos c, c, List.getElem?_set_self (List.getElem?_eq_some_iff.mp h).1]
    · rw [if_neg c, List.getElem?_set_ne c]
      exact h
theorem set_len {g : Int → D} : ∀ (e : Ev) (os : List D), (e.foldl (fun o p => o.set p.1 (g p.2)) os).length = os.length
  | [], _ => rfl
  | p :: e, os => by rw [List.foldl_cons, set_len e, List.length_set]
theorem own_set {L : Lots} {r : List Int} (d : Drawn L r) : ((freeL L).zip r).foldl (fun o p => o.set p.1 (ruD ([], [p.2]))) (L.map fun c => ruOf c.2) = (ownL L ((freeL L).zip r)).map ruD := by
  refine List.ext_getElem? fun v => ?_
  by_cases hv : v < L.length
  · have e0 : (L.map fun c => ruOf c.2)[v]? = some (ruOf (vrAt L v)) := by
      rw [List.getElem?_map, List.getElem?_eq_getElem hv]
      unfold vrAt
      rw [List.getD_eq_getElem?_getD, List.getElem?_eq_getElem hv]
      rfl
    have q := set_all (g := fun x => ruD ([], [x])) (d0 := ruOf (vrAt L v)) ((freeL L).zip r) none (L.map fun c => ruOf c.2) e0
    rw [q]
    unfold ownL
    rw [List.map_map, List.getElem?_map, List.getElem?_range hv]
    show _ = some (ruD (match tell ((freeL L).zip r) v with
      | some x => ([], [x])
      | none => (vrAt L v).ru))
    show some (match tell ((freeL L).zip r) v with
      | some x => ruD ([], [x])
      | none => ruOf (vrAt L v)) = _
    cases t : tell ((freeL L).zip r) v with
    | some x => rfl
    | none =>
      cases ev : vrAt L v with
      | lot ws =>
        obtain ⟨x, hx⟩ := d.tell_free (mem_free.mpr ⟨hv, by rw [ev]; rfl⟩)
        rw [t] at hx; cases hx
      | rule q => rfl
  · rw [List.getElem?_eq_none (by rw [set_len (g := fun x => ruD ([], [x])), List.length_map]; omega), List.getElem?_eq_none (by unfold ownL; simp; omega)]
end DL
namespace W17
open DL
open L2 (atI atI_nat ixN)
theorem rows_of_g {d : D} (s : List Nat) (S : Sto) (h : Small [[]] s) (hd : d.elems = some (s.map fun (n : Nat) => D.int (n : Int))) : F_rows_of [d] S = some (.tup ((rowsM [[]] s).map rowD), S) := by
  have loop : ∀ (suf : List Nat) (found : List (List Int)) (a z w1 w2 : Sl), Small found suf → ∃ z' w1' w2', forF (gNm 2) (sAsg (eLc2 (iSeq (bVar 1)) (gNm 3) tYs (iRng (aCons (bVar 2) aNil)) (gNm 4) tYs (eBin D.add (bVar 3) (eTup (aCons (eVar 4) aNil))) [3, 4] [4]) (gNm 1)) (suf.map fun (n : Nat) => D.int (n : Int)) [a, .sh (.lst (found.map rowD)), z, w1, w2] S =
      some (.nx [a, .sh (.lst ((rowsM found suf).map rowD)), z', w1', w2'] S) := by
    intro suf
    induction suf with
    | nil => intro found a z w1 w2 _; exact ⟨z, w1, w2, rfl⟩
    | cons n suf ih =>
      intro found a z w1 w2 hs
      obtain ⟨z', w1', w2', hz⟩ := ih (found.flatMap (rowsStep n)) a (.sh (.int (n : Int))) w1 w2 hs.next
      refine ⟨z', w1', w2', ?_⟩
      have st := rows_step found n a w1 w2 S (hs.1 n List.mem_cons_self) hs.len fun r hr => by have := hs.2.2 r hr; omega
      rw [List.map_cons, forF_step (ρ1 := [a, .sh (.lst (found.map rowD)), .sh (.int (n : Int)), w1, w2]) (S2 := S) rfl (by simp only [sAsg]; rw [st]; rfl)]
      exact hz
  obtain ⟨z', w1', w2', hz⟩ := loop s [[]] (.sh d) .un .un .un h
  have st0 : sAsg (eLst (aCons (eTup aNil) aNil)) (gNm 1) [.sh d, .un, .un, .un, .un] S = some (.nx [.sh d, .sh (.lst ([[]].map rowD)), .un, .un, .un] S) := by
    simp only [fnD, fnE, fnOut, rho0, eVar, bVar, Sl.rd, eC, eBin, eTup, eLst, aNil, aCons, eCB, eCall, tTru, tBl, tAn, DL.tOr, tNo, eAn, DL.eOr, eNo, eIf, eIxR, eSl, pNo, pIs, iSeq, iZp, gNm, gTp, gsNil, gsCons, sNx, sBk, sCt, sSeq, Out.seq, sIf, sAsg, sOwn, sPar, sPar3, sRet, sFz, sPub, sDn, sAug, D.iadd, D.imul, sParDF, sParFF, cellOf, iEn, D.isB, D.notB, sSetR, sSetIx, sMut, sDrop, sFor, eLc, tYs, wipeR, D.elems, D.truth, D.add, D.sub, D.mul, D.fdiv, D.mod, D.pow, D.lt, D.le, D.gt, D.ge, D.isN, D.notN, D.ix, D.cat, liftI, Option.bind_some, Option.bind_none, Option.map_some, Option.map_none, List.map_cons, List.map_nil, List.length_cons, List.length_nil, List.cons_append, List.nil_append, List.replicate, List.set_cons_zero, List.set_cons_succ, List.getElem?_cons_zero, List.getElem?_cons_succ, Nat.reduceAdd, Nat.reduceSub, Nat.reduceLeDiff, if_true, if_false, ↓reduceIte, List.isEmpty_nil, List.isEmpty_cons, Bool.not_true, Bool.not_false, Bool.false_eq_true, decide_true, decide_false, decide_eq_true_eq, sz0, sz1]
    rfl
  unfold F_rows_of b_rows_of
  exact fnD_rt (S' := S) (sSeq_of (S1 := S) st0 (sSeq_of (S1 := S) (sFor_of (S1 := S) (iSeq_of (S1 := S) (d := d) rfl hd) hz) (sRet_of (S1 := S) rfl))) rfl
theorem law_values_s (d : D) (s : List Nat) (S : Sto) (hd : d.elems = some (s.map fun (n : Nat) => D.int (n : Int))) (h : Small [[]] s) : F__law_values [d] S = some (.lst ((rowsM [[]] s).map rowD), S) := by
  have inner : ∀ (n : Nat) (found : List (List Int)), n ≤ 3 → found.length ≤ 1000 → (∀ r ∈ found, r.length ≤ 1000) → ∀ (suf pre : List (List Int)) (a b c z w : Sl), found = pre ++ suf → ∃ z' w', forF (gNm 4) (sAsg (eBin D.add (bVar 3) (eLc (iRng (aCons (bVar 2) aNil)) (gNm 5) tYs (eBin D.add (bVar 4) (eTup (aCons (eVar 5) aNil))) [5])) (gNm 3)) (suf.map rowD) [a, b, .sh (.int (n : Int)), .sh (.lst ((pre.flatMap (rowsStep n)).map rowD)), z, w] S =
      some (.nx [a, b, .sh (.int (n : Int)), .sh (.lst ((found.flatMap (rowsStep n)).map rowD)), z', w'] S) := by
    intro n found hn hf hr suf
    induction suf with
    | nil => intro pre a b c z w e; rw [List.append_nil] at e; subst e; exact ⟨z, w, rfl⟩
    | cons r suf ih =>
      intro pre a b c z w e
      have hrm : r ∈ found := by rw [e]; simp
      obtain ⟨z', w', hz⟩ := ih (pre ++ [r]) a b c (.sh (rowD r)) w (by rw [e, List.append_assoc]; rfl)
      refine ⟨z', w', ?_⟩
      have c1 := compF_all (g := gNm 5) (te := eBin D.add (bVar 4) (eTup (aCons (eVar 5) aNil))) (ρ := [a, b, .sh (.int (n : Int)), .sh (.lst ((pre.flatMap (rowsStep n)).map rowD)), .sh (rowD r), .un]) (S := S) (fun (i : Nat) => D.int (i : Int)) (fun (i : Nat) => rowD (r ++ [(i : Int)])) (List.range n) fun i _ => by
        exact ⟨_, rfl, row_ext2 _ _ _ _ r i S (hr r hrm)⟩
      have e2 : ((pre ++ [r]).flatMap (rowsStep n)).map rowD = (pre.flatMap (rowsStep n)).map rowD ++ (List.range n).map fun (i : Nat) => rowD (r ++ [(i : Int)]) := by
        rw [List.flatMap_append, List.map_append]
        congr 1
        unfold rowsStep
        simp [List.map_map]
      have len : ((pre.flatMap (rowsStep n)).map rowD).length + ((List.range n).map fun (i : Nat) => rowD (r ++ [(i : Int)])).length ≤ PySem.sizeLine := szle (by
        rw [List.length_map, List.length_map, List.length_range]
        have := flat_len (f := rowsStep n) (k := 3) (xs := pre) fun r _ => by unfold rowsStep; simpa using hn
        have : pre.length ≤ found.length := by rw [e]; simp
        omega)
      rw [List.map_cons, forF_step (ρ1 := [a, b, .sh (.int (n : Int)), .sh (.lst ((pre.flatMap (rowsStep n)).map rowD)), .sh (rowD r), w]) (ρ2 := [a, b, .sh (.int (n : Int)), .sh (.lst (((pre ++ [r]).flatMap (rowsStep n)).map rowD)), .sh (rowD r), w]) (S2 := S) rfl (by
        refine sAsg_of (eBin_of (d2 := .lst ((List.range n).map fun (i : Nat) => rowD (r ++ [(i : Int)]))) (S2 := S) rfl (eLc_of (iRng_of (ds := [.int (n : Int)]) rfl (rangeOf_nat (Nat.le_trans hn (by decide)))) c1) (add_lst len)) ?_
        rw [e2]; rfl)]
      exact hz
  have loop : ∀ (suf : List Nat) (found : List (List Int)) (a z w1 w2 w3 : Sl), Small found suf → ∃ z' w1' w2' w3', forF (gNm 2) (sSeq (sAsg (eLst aNil) (gNm 3)) (sSeq (sFor (iSeq (eVar 1)) (gNm 4) (sAsg (eBin D.add (bVar 3) (eLc (iRng (aCons (bVar 2) aNil)) (gNm 5) tYs (eBin D.add (bVar 4) (eTup (aCons (eVar 5) aNil))) [5])) (gNm 3))) (sAsg (eVar 3) (gNm 1)))) (suf.map fun (n : Nat) => D.int (n : Int)) [a, .sh (.lst (found.map rowD)), z, w1, w2, w3] S =
      some (.nx [a, .sh (.lst ((rowsM found suf).map rowD)), z', w1', w2', w3'] S) := by
    intro suf
    induction suf with
    | nil => intro found a z w1 w2 w3 _; exact ⟨z, w1, w2, w3, rfl⟩
    | cons n suf ih =>
      intro found a z w1 w2 w3 hs
      obtain ⟨y1, y2, hy⟩ := inner n found (hs.1 n List.mem_cons_self) hs.len (fun r hr => by have := hs.2.2 r hr; omega) found [] a (.sh (.lst (found.map rowD))) .un w2 w3 rfl
      obtain ⟨z', w1', w2', w3', hz⟩ := ih (found.flatMap (rowsStep n)) a (.sh (.int (n : Int))) (.sh (.lst ((found.flatMap (rowsStep n)).map rowD))) y1 y2 hs.next
      refine ⟨z', w1', w2', w3', ?_⟩
      rw [List.map_cons, forF_step (ρ1 := [a, .sh (.lst (found.map rowD)), .sh (.int (n : Int)), w1, w2, w3]) (ρ2 := [a, .sh (.lst ((found.flatMap (rowsStep n)).map rowD)), .sh (.int (n : Int)), .sh (.lst ((found.flatMap (rowsStep n)).map rowD)), y1, y2]) (S2 := S) rfl (by
        simp only [fnD, fnE, fnOut, rho0, eVar, bVar, Sl.rd, eC, eBin, eTup, eLst, aNil, aCons, eCB, eCall, tTru, tBl, tAn, DL.tOr, tNo, eAn, DL.eOr, eNo, eIf, eIxR, eSl, pNo, pIs, iSeq, iZp, gNm, gTp, gsNil, gsCons, sNx, sBk, sCt, sSeq, Out.seq, sIf, sAsg, sOwn, sPar, sPar3, sRet, sFz, sPub, sDn, sAug, D.iadd, D.imul, sParDF, sParFF, cellOf, iEn, D.isB, D.notB, sSetR, sSetIx, sMut, sDrop, sFor, eLc, tYs, wipeR, D.elems, D.truth, D.add, D.sub, D.mul, D.fdiv, D.mod, D.pow, D.lt, D.le, D.gt, D.ge, D.isN, D.notN, D.ix, D.cat, liftI, Option.bind_some, Option.bind_none, Option.map_some, Option.map_none, List.map_cons, List.map_nil, List.length_cons, List.length_nil, List.cons_append, List.nil_append, List.replicate, List.set_cons_zero, List.set_cons_succ, List.getElem?_cons_zero, List.getElem?_cons_succ, Nat.reduceAdd, Nat.reduceSub, Nat.reduceLeDiff, if_true, if_false, ↓reduceIte, List.isEmpty_nil, List.isEmpty_cons, Bool.not_true, Bool.not_false, Bool.false_eq_true, decide_true, decide_false, decide_eq_true_eq, sz0]
        rw [show ([] : List D) = ((([] : List (List Int)).flatMap (rowsStep n)).map rowD) from rfl, hy]
        simp only [fnD, fnE, fnOut, rho0, eVar, bVar, Sl.rd, eC, eBin, eTup, eLst, aNil, aCons, eCB, eCall, tTru, tBl, tAn, DL.tOr, tNo, eAn, DL.eOr, eNo, eIf, eIxR, eSl, pNo, pIs, iSeq, iZp, gNm, gTp, gsNil, gsCons, sNx, sBk, sCt, sSeq, Out.seq, sIf, sAsg, sOwn, sPar, sPar3, sRet, sFz, sPub, sDn, sAug, D.iadd, D.imul, sParDF, sParFF, cellOf, iEn, D.isB, D.notB, sSetR, sSetIx, sMut, sDrop, sFor, eLc, tYs, wipeR, D.elems, D.truth, D.add, D.sub, D.mul, D.fdiv, D.mod, D.pow, D.lt, D.le, D.gt, D.ge, D.isN, D.notN, D.ix, D.cat, liftI, Option.bind_some, Option.bind_none, Option.map_some, Option.map_none, List.map_cons, List.map_nil, List.length_cons, List.length_nil, List.cons_append, List.nil_append, List.replicate, List.set_cons_zero, List.set_cons_succ, List.getElem?_cons_zero, List.getElem?_cons_succ, Nat.reduceAdd, Nat.reduceSub, Nat.reduceLeDiff, if_true, if_false, ↓reduceIte, List.isEmpty_nil, List.isEmpty_cons, Bool.not_true, Bool.not_false, Bool.false_eq_true, decide_true, decide_false, decide_eq_true_eq])]
      exact hz
  obtain ⟨z', w1', w2', w3', hz⟩ := loop s [[]] (.sh d) .un .un .un .un h
  have e0 : D.tup [] = rowD [] := rfl
  have e1 : ([rowD []] : List D) = [[]].map rowD := rfl
  unfold F__law_values b__law_values
  refine fnD_rt (S' := S) (sSeq_of (ρ' := [.sh d, .sh (.lst ([[]].map rowD)), .un, .un, .un, .un]) (S1 := S) ?_ (sSeq_of (sFor_of (iSeq_of (d := d) rfl hd) hz) rfl)) rfl
  simp only [fnD, fnE, fnOut, rho0, eVar, bVar, Sl.rd, eC, eBin, eTup, eLst, aNil, aCons, eCB, eCall, tTru, tBl, tAn, DL.tOr, tNo, eAn, DL.eOr, eNo, eIf, eIxR, eSl, pNo, pIs, iSeq, iZp, gNm, gTp, gsNil, gsCons, sNx, sBk, sCt, sSeq, Out.seq, sIf, sAsg, sOwn, sPar, sPar3, sRet, sFz, sPub, sDn, sAug, D.iadd, D.imul, sParDF, sParFF, cellOf, iEn, D.isB, D.notB, sSetR, sSetIx, sMut, sDrop, sFor, eLc, tYs, wipeR, D.elems, D.truth, D.add, D.sub, D.mul, D.fdiv, D.mod, D.pow, D.lt, D.le, D.gt, D.ge, D.isN, D.notN, D.ix, D.cat, liftI, Option.bind_some, Option.bind_none, Option.map_some, Option.map_none, List.map_cons, List.map_nil, List.length_cons, List.length_nil, List.cons_append, List.nil_append, List.replicate, List.set_cons_zero, List.set_cons_succ, List.getElem?_cons_zero, List.getElem?_cons_succ, Nat.reduceAdd, Nat.reduceSub, Nat.reduceLeDiff, if_true, if_false, ↓reduceIte, List.isEmpty_nil, List.isEmpty_cons, Bool.not_true, Bool.not_false, Bool.false_eq_true, decide_true, decide_false, decide_eq_true_eq, sz0, sz1]
  rfl
section
variable {L : Lots}
theorem sFz_of {i : Nat} {g : Stm} {ρ : Rho} {S : Sto} {xs : List D} {o : Option Out} (h0 : ρ[i]? = some (.ow (.lst xs))) (h : g (ρ.set i (.sh (.lst xs))) S = o) : sFz i g ρ S = o := by
  unfold sFz
  rw [h0]
  exact h
theorem fm_cons (r : List Int) (rs : List (List Int)) : ((r :: rs).filterMap (oneM L)).map (drD L) = ((oneM L r).map (drD L)).toList ++ (rs.filterMap (oneM L)).map (drD L) := by
  cases e : oneM L r with
  | none => rw [List.filterMap_cons_none e]; rfl
  | some b => rw [List.filterMap_cons_some e]; rfl
theorem dr_loop (h : LotsOk L) (S : Sto) (a : Sl) : ∀ (rs : List (List Int)) (xs : List D) (z6 z7 z8 z9 z10 : Sl), (∀ r ∈ rs, Drawn L r) → xs.length + rs.length ≤ 100000 →
    ∃ z6' z7' z8' z9' z10', forF (gNm 6) drB (rs.map rowD) [a, .sh (szD (szL L)), .sh (ruLs L), .sh (chLs L), .sh (.lst ((freeL L).map fun (v : Nat) => D.int (v : Int))), .ow (.lst xs), z6, z7, z8, z9, z10] S = some (.nx [a, .sh (szD (szL L)), .sh (ruLs L), .sh (chLs L), .sh (.lst ((freeL L).map fun (v : Nat) => D.int (v : Int))), .ow (.lst (xs ++ (rs.filterMap (oneM L)).map (drD L))), z6', z7', z8', z9', z10'] S)
  | [], xs, z6, z7, z8, z9, z10, _, _ => ⟨z6, z7, z8, z9, z10, by simp only [List.filterMap_nil, List.map_nil, List.append_nil]; rfl⟩
  | r :: rs, xs, z6, z7, z8, z9, z10, hd, hl => by
    rw [List.length_cons] at hl
    obtain ⟨y7, y8, y9, y10, st⟩ := dr_step h (hd r (.head _)) S a z7 z8 z9 z10 xs (by omega)
    have hlen : ((oneM L r).map (drD L)).toList.length ≤ 1 := by cases oneM L r <;> simp
    obtain ⟨z6', z7', z8', z9', z10', ih⟩ := dr_loop h S a rs (xs ++ ((oneM L r).map (drD L)).toList) (.sh (rowD r)) y7 y8 y9 y10 (fun q hq => hd q (.tail _ hq)) (by rw [List.length_append]; omega)
    refine ⟨z6', z7', z8', z9', z10', ?_⟩
    rw [List.map_cons, forF_step (b := drB) (ρ1 := [a, .sh (szD (szL L)), .sh (ruLs L), .sh (chLs L), .sh (.lst ((freeL L).map fun (v : Nat) => D.int (v : Int))), .ow (.lst xs), .sh (rowD r), z7, z8, z9, z10]) (S2 := S) rfl st, ih, fm_cons, List.append_assoc]
theorem _root_.DL.LotsOk.rows_len (h : LotsOk L) : (rowsM [[]] (fszL L)).length ≤ 1000 := rowsM_len h.small
theorem drawn_s (h : LotsOk L) (S : Sto) : F_drawn [lotsD L] S = some (.tup ((drawnM L).map (drD L)), S) := by
  have hl : L.length ≤ 1000 := by have := h.sz.1; omega
  have rl := h.rows_len
  have hl' : L.length ≤ 100000 := by omega
  obtain ⟨z6, z7, z8, z9, z10, l⟩ := dr_loop h S (.sh (lotsD L)) (rowsM [[]] (fszL L)) [] .un .un .un .un .un (fun r hr => drawn_of hr) (by rw [List.length_nil]; omega)
  have ro := rows_of_s (fszL L) S h.small
  have fr := free_s (L := L) (S := S) (it := iRng (aCons (eCB gLen (aCons (bVar 1) aNil)) aNil)) (i := 2) (j := 9) (ρ := [.sh (lotsD L), .sh (szD (szL L)), .sh (ruLs L), .sh (chLs L), .un, .un, .un, .un, .un, .un, .un]) hl (iRng_of (ds := [.int ((L.length : Nat) : Int)]) (S1 := S) (fs := aCons (eCB gLen (aCons (bVar 1) aNil)) aNil) (aCons_of (eCB_of (ds := [szD (szL L)]) (S1 := S) rfl len_szL) rfl) (rangeOf_nat hl')) (fun a => ⟨_, rfl, rfl, rfl, rfl⟩)
  have fz := fsz_s (L := L) (S := S) (i := 1) (j := 9) (it := iSeq (bVar 4)) (ρ := [.sh (lotsD L), .sh (szD (szL L)), .sh (ruLs L), .sh (chLs L), .sh (.lst ((freeL L).map fun (v : Nat) => D.int (v : Int))), .ow (.lst []), .un, .un, .un, .un, .un]) rfl (fun a => ⟨_, rfl, rfl, rfl⟩)
  have ro' : F_rows_of [.lst ((fszL L).map fun (n : Nat) => D.int (n : Int))] S = some (.tup ((rowsM [[]] (fszL L)).map rowD), S) := rows_of_g _ S h.small rfl
  have s2 : sAsg (eLc (iRng (aCons (eCB gLen (aCons (bVar 1) aNil)) aNil)) (gNm 9) (tBl (eBin D.isN (eBin D.ix (bVar 2) (bVar 9)) (eC .non))) (eVar 9) [9]) (gNm 4) [.sh (lotsD L), .sh (szD (szL L)), .sh (ruLs L), .sh (chLs L), .un, .un, .un, .un, .un, .un, .un] S = some (.nx [.sh (lotsD L), .sh (szD (szL L)), .sh (ruLs L), .sh (chLs L), .sh (.lst ((freeL L).map fun (v : Nat) => D.int (v : Int))), .un, .un, .un, .un, .un, .un] S) := sAsg_of fr rfl
  have s4 : sFor (iSeq (eCall F_rows_of (aCons (eLc (iSeq (bVar 4)) (gNm 9) tYs (eBin D.ix (bVar 1) (bVar 9)) [9]) aNil))) (gNm 6) drB [.sh (lotsD L), .sh (szD (szL L)), .sh (ruLs L), .sh (chLs L), .sh (.lst ((freeL L).map fun (v : Nat) => D.int (v : Int))), .ow (.lst []), .un, .un, .un, .un, .un] S = some (.nx _ S) := sFor_of (S1 := S) (iSeq_of (eCall_of (S1 := S) (aCons_of fz rfl) ro') rfl) l
  unfold F_drawn b_drawn
  refine fnD_rt (S' := S) ?_ rfl
  refine sSeq_of (S1 := S) (ρ' := [.sh (lotsD L), .sh (szD (szL L)), .sh (ruLs L), .sh (chLs L), .un, .un, .un, .un, .un, .un, .un]) (sAsg_of (d := lotsD L) (S1 := S) rfl rfl) ?_
  refine sSeq_of s2 ?_
  refine sSeq_of (S1 := S) (ρ' := [.sh (lotsD L), .sh (szD (szL L)), .sh (ruLs L), .sh (chLs L), .sh (.lst ((freeL L).map fun (v : Nat) => D.int (v : Int))), .ow (.lst []), .un, .un, .un, .un, .un]) rfl ?_
  refine sSeq_of s4 ?_
  refine sFz_of rfl ?_
  exact sRet_of (S1 := S) rfl
end
end W17

set_option Elab.async false
set_option linter.all false
set_option maxRecDepth 100000
namespace W17
open DL
open L2 (atI atI_nat ixN)
section
variable {L : Lots}
theorem sSetIx_of {i j : Nat} {f fi : Ex} {ρ : Rho} {S S1 S2 : Sto} {xs : List D} {d : D} (h1 : f ρ S = some (d, S1)) (h0 : ρ[i]? = some (.ow (.lst xs))) (h2 : fi ρ S1 = some (.int (j : Int), S2)) (hj : j < xs.length) : sSetIx i f fi ρ S = some (.nx (ρ.set i (.ow (.lst (xs.set j d)))) S2) := by
  unfold sSetIx
  rw [h1, Option.bind_some, h0]
  show (fi ρ S1).bind _ = _
  rw [h2, Option.bind_some]
  show (ixN xs.length (j : Int)).map _ = _
  rw [ixN_lt hj]
  rfl
def ldB1 : Stm := (sSeq (sAsg (eCall F__law_times (aCons (eVar 7) (aCons (eBin D.ix (eBin D.ix (bVar 3) (eBin D.ix (bVar 4) (bVar 9))) (eBin D.ix (bVar 6) (bVar 9))) aNil))) (gNm 7))
    (sSetIx 8 (eTup (aCons (eTup aNil) (aCons (eTup (aCons (eBin D.ix (bVar 6) (bVar 9)) aNil)) aNil))) (eBin D.ix (bVar 4) (bVar 9))))
theorem fr_at {fr : List Nat} {k : Nat} (h : k < fr.length) : D.ix (.lst (fr.map fun (v : Nat) => D.int (v : Int))) (.int (k : Int)) = some (.int ((fr.getD k 0 : Nat) : Int)) := szD_at h
theorem ld_loop1 (h : LotsOk L) {r : List Int} (d : Drawn L r) (S : Sto) (a b c g w : Sl) : ∀ (suf : Ev) (j k : Nat) (x : Int × Int) (os : List D) (z : Sl), ((freeL L).zip r).drop j = suf → os.length = L.length → WB k x → k + 3 * suf.length ≤ 100 →
    ∃ z', forF (gNm 9) ldB1 ((List.range' j suf.length).map fun (v : Nat) => D.int (v : Int)) [a, b, c, .sh (chLs L), .sh (.lst ((freeL L).map fun (v : Nat) => D.int (v : Int))), g, .sh (rowD r), .sh (frD (nf x.1 x.2)), .ow (.lst os), z, w] S = some (.nx [a, b, c, .sh (chLs L), .sh (.lst ((freeL L).map fun (v : Nat) => D.int (v : Int))), g, .sh (rowD r), .sh (frD (nf (suf.foldl (wStep L) x).1 (suf.foldl (wStep L) x).2)), .ow (.lst (suf.foldl (fun o p => o.set p.1 (ruD ([], [p.2]))) os)), z', w] S)
  | [], j, k, x, os, z, _, _, _, _ => ⟨z, rfl⟩
  | p :: suf, j, k, x, os, z, he, ho, wb, hk => by
    rw [List.length_cons] at hk
    have hj : j < ((freeL L).zip r).length := by
      have := congrArg List.length he
      simp only [List.length_drop, List.length_cons] at this; omega
    rw [List.drop_eq_getElem_cons hj] at he
    obtain ⟨e1, e2⟩ := List.cons.inj he
    have hm : p ∈ (freeL L).zip r := by rw [← e1]; exact List.getElem_mem hj
    have hf := zip_free p hm
    have hjf : j < (freeL L).length := by rw [List.length_zip] at hj; omega
    have hjr : j < r.length := by rw [List.length_zip] at hj; omega
    have ep : ((freeL L)[j], r[j]) = p := by rw [← e1, List.getElem_zip]
    have q1 : D.ix (.lst ((freeL L).map fun (v : Nat) => D.int (v : Int))) (.int (j : Int)) = some (.int (p.1 : Int)) := by
      rw [fr_at hjf, List.getD_eq_getElem?_getD, List.getElem?_eq_getElem hjf, ← ep]; rfl
    have q2 : D.ix (rowD r) (.int (j : Int)) = some (.int p.2) := by
      rw [rowD_at hjr, List.getD_eq_getElem?_getD, List.getElem?_eq_getElem hjr, ← ep]; rfl
    obtain ⟨z', ih⟩ := ld_loop1 h d S a b c g w suf (j + 1) (k + 3) (wStep L x p) (os.set p.1 (ruD ([], [p.2]))) (.sh (.int (j : Int))) e2 (by rw [List.length_set]; exact ho) (wb.step h hf) (by omega)
    refine ⟨z', ?_⟩
    obtain ⟨c1, c2, c3⟩ := chance_at h hf (d.val hm)
    have ts := law_times_s S wb.fb c2 (nf_nn wb.pos wb.nn) c3 (by omega)
    rw [tm_step h wb hf] at ts
    rw [List.length_cons, List.range'_succ, List.map_cons, forF_step (b := ldB1) (ρ1 := [a, b, c, .sh (chLs L), .sh (.lst ((freeL L).map fun (v : Nat) => D.int (v : Int))), g, .sh (rowD r), .sh (frD (nf x.1 x.2)), .ow (.lst os), .sh (.int (j : Int)), w]) (S2 := S) rfl
      (sSeq_of (S1 := S) (sAsg_of (S1 := S) (eCall_of (S1 := S) (aCons_of (S1 := S) rfl (aCons_of (S1 := S) (eBin_of (S1 := S) (S2 := S) (eBin_of (d1 := chLs L) (S1 := S) (S2 := S) rfl (eBin_of (S1 := S) (S2 := S) rfl rfl q1) (ch_at (mem_free.mp hf).1)) (eBin_of (S1 := S) (S2 := S) rfl rfl q2) c1) rfl)) ts) rfl)
        (sSetIx_of (S1 := S) (S2 := S) (d := ruD ([], [p.2])) (eTup_of (ds := [.tup [], .tup [.int p.2]]) (S1 := S) (aCons_of (d := .tup []) (S1 := S) (eTup_of (ds := []) rfl (Nat.zero_le _)) (aCons_of (d := .tup [.int p.2]) (S1 := S) (tup1 (eBin_of (S1 := S) (S2 := S) rfl rfl q2)) rfl)) (by show 2 ≤ PySem.sizeLine; decide)) rfl (eBin_of (S1 := S) (S2 := S) rfl rfl q1) (by rw [ho]; exact (mem_free.mp hf).1)))]
    exact ih
def ldB : Stm := (sSeq (sParDF 7 8 (eTup (aCons (eC (.int 1)) (aCons (eC (.int 1)) aNil))) (eCB gList (aCons (bVar 2) aNil)))
    (sSeq (sFor (iRng (aCons (eCB gLen (aCons (bVar 4) aNil)) aNil)) (gNm 9)
    ldB1)
    (sIf (tBl (eBin D.gt (eBin D.ix (bVar 7) (eC (.int 0))) (eC (.int 0)))) (sMut gAppend 5 (aCons (eTup (aCons (eTup (aCons (eVar 1) (aCons (eCB gTuple (aCons (bVar 8) aNil)) aNil))) (aCons (eVar 7) aNil))) aNil)) sNx)))
theorem ld_step (h : LotsOk L) {r : List Int} (d : Drawn L r) (S : Sto) (a z7 z8 z9 z10 : Sl) (xs : List D) (hx : xs.length ≤ 100000) :
    ∃ z7' z8' z9' z10', ldB [a, .sh (szD (szL L)), .sh (ruLs L), .sh (chLs L), .sh (.lst ((freeL L).map fun (v : Nat) => D.int (v : Int))), .ow (.lst xs), .sh (rowD r), z7, z8, z9, z10] S = some (.nx [a, .sh (szD (szL L)), .sh (ruLs L), .sh (chLs L), .sh (.lst ((freeL L).map fun (v : Nat) => D.int (v : Int))), .ow (.lst (xs ++ ((oneM L r).map (drD L)).toList)), .sh (rowD r), z7', z8', z9', z10'] S) := by
  have hzl : ((freeL L).zip r).length = (freeL L).length := by rw [List.length_zip, d.len, Nat.min_self]
  have hfl : (freeL L).length ≤ 100000 := by have := h.few; omega
  obtain ⟨z', l⟩ := ld_loop1 h d S a (.sh (szD (szL L))) (.sh (ruLs L)) (.ow (.lst xs)) z10 ((freeL L).zip r) 0 1 (1, 1) (L.map fun c => ruOf c.2) z9 rfl (by simp) WB.one (by have := h.few; omega)
  rw [hzl, ← List.range_eq_range', own_set d] at l
  have e2 := d.wl
  have ew : (((freeL L).zip r).foldl (wStep L) (1, 1)) = wgt L ((freeL L).zip r) := rfl
  rw [ew, e2] at l
  have st1 : sParDF 7 8 (eTup (aCons (eC (.int 1)) (aCons (eC (.int 1)) aNil))) (eCB gList (aCons (bVar 2) aNil)) [a, .sh (szD (szL L)), .sh (ruLs L), .sh (chLs L), .sh (.lst ((freeL L).map fun (v : Nat) => D.int (v : Int))), .ow (.lst xs), .sh (rowD r), z7, z8, z9, z10] S = some (.nx [a, .sh (szD (szL L)), .sh (ruLs L), .sh (chLs L), .sh (.lst ((freeL L).map fun (v : Nat) => D.int (v : Int))), .ow (.lst xs), .sh (rowD r), .sh (frD (1, 1)), .ow (.lst (L.map fun c => ruOf c.2)), z9, z10] S) := by
    have t1 : eTup (aCons (eC (.int 1)) (aCons (eC (.int 1)) aNil)) [a, .sh (szD (szL L)), .sh (ruLs L), .sh (chLs L), .sh (.lst ((freeL L).map fun (v : Nat) => D.int (v : Int))), .ow (.lst xs), .sh (rowD r), z7, z8, z9, z10] S = some (frD (1, 1), S) := pair_s (S1 := S) (S2 := S) rfl rfl
    unfold sParDF
    rw [t1, Option.bind_some]
    rfl
  have t : tBl (eBin D.gt (eBin D.ix (bVar 7) (eC (.int 0))) (eC (.int 0))) [a, .sh (szD (szL L)), .sh (ruLs L), .sh (chLs L), .sh (.lst ((freeL L).map fun (v : Nat) => D.int (v : Int))), .ow (.lst xs), .sh (rowD r), .sh (frD (nf (wgt L ((freeL L).zip r)).1 (WL L))), .ow (.lst ((ownL L ((freeL L).zip r)).map ruD)), z', z10] S = some (decide (0 < (nf (wgt L ((freeL L).zip r)).1 (WL L)).1), S) :=
    tBl_of (eBin_of (d1 := .int (nf (wgt L ((freeL L).zip r)).1 (WL L)).1) (d2 := .int 0) (S1 := S) (S2 := S) (eBin_of (d2 := .int 0) (S1 := S) (S2 := S) rfl rfl (at0 _ _)) rfl rfl)
  have rg : iRng (aCons (eCB gLen (aCons (bVar 4) aNil)) aNil) [a, .sh (szD (szL L)), .sh (ruLs L), .sh (chLs L), .sh (.lst ((freeL L).map fun (v : Nat) => D.int (v : Int))), .ow (.lst xs), .sh (rowD r), .sh (frD (1, 1)), .ow (.lst (L.map fun c => ruOf c.2)), z9, z10] S = some ((List.range (freeL L).length).map fun (i : Nat) => D.int (i : Int), S) :=
    iRng_of (ds := [.int (((freeL L).length : Nat) : Int)]) (S1 := S) (aCons_of (eCB_of (ds := [.lst ((freeL L).map fun (v : Nat) => D.int (v : Int))]) (S1 := S) rfl (by simp only [gLen, List.length_map])) rfl) (rangeOf_nat hfl)
  have e11 : nf 1 1 = (1, 1) := rfl
  unfold ldB
  rcases one_cases h d with ⟨c1, c2⟩ | ⟨c1, c2⟩
  · rw [c1] at t
    rw [c2]
    refine ⟨.sh (frD (nf (wgt L ((freeL L).zip r)).1 (WL L))), .ow (.lst ((ownL L ((freeL L).zip r)).map ruD)), z', z10, ?_⟩
    refine sSeq_of st1 ?_
    refine sSeq_of (sFor_of rg l) ?_
    refine sIf_t t ?_
    have p1 : eCB gTuple (aCons (bVar 8) aNil) [a, .sh (szD (szL L)), .sh (ruLs L), .sh (chLs L), .sh (.lst ((freeL L).map fun (v : Nat) => D.int (v : Int))), .ow (.lst xs), .sh (rowD r), .sh (frD (nf (wgt L ((freeL L).zip r)).1 (WL L))), .ow (.lst ((ownL L ((freeL L).zip r)).map ruD)), z', z10] S = some (.tup ((ownL L ((freeL L).zip r)).map ruD), S) := rfl
    have p2 := pair_s (f1 := eVar 1) (S1 := S) rfl p1
    have p3 := pair_s (f2 := eVar 7) (S2 := S) p2 rfl
    exact sMut_of (c := .lst xs) rfl (aCons_of p3 rfl) (app_d hx)
  · rw [c1] at t
    rw [c2]
    refine ⟨.sh (frD (nf (wgt L ((freeL L).zip r)).1 (WL L))), .ow (.lst ((ownL L ((freeL L).zip r)).map ruD)), z', z10, ?_⟩
    refine sSeq_of st1 ?_
    refine sSeq_of (sFor_of rg l) ?_
    refine sIf_f t ?_
    show some _ = _
    simp only [Option.map_none, Option.toList_none, List.append_nil]
theorem ld_loop (h : LotsOk L) (S : Sto) (a : Sl) : ∀ (rs : List (List Int)) (xs : List D) (z6 z7 z8 z9 z10 : Sl), (∀ r ∈ rs, Drawn L r) → xs.length + rs.length ≤ 100000 →
    ∃ z6' z7' z8' z9' z10', forF (gNm 6) ldB (rs.map rowD) [a, .sh (szD (szL L)), .sh (ruLs L), .sh (chLs L), .sh (.lst ((freeL L).map fun (v : Nat) => D.int (v : Int))), .ow (.lst xs), z6, z7, z8, z9, z10] S = some (.nx [a, .sh (szD (szL L)), .sh (ruLs L), .sh (chLs L), .sh (.lst ((freeL L).map fun (v : Nat) => D.int (v : Int))), .ow (.lst (xs ++ (rs.filterMap (oneM L)).map (drD L))), z6', z7', z8', z9', z10'] S)
  | [], xs, z6, z7, z8, z9, z10, _, _ => ⟨z6, z7, z8, z9, z10, by simp only [List.filterMap_nil, List.map_nil, List.append_nil]; rfl⟩
  | r :: rs, xs, z6, z7, z8, z9, z10, hd, hl => by
    rw [List.length_cons] at hl
    obtain ⟨y7, y8, y9, y10, st⟩ := ld_step h (hd r (.head _)) S a z7 z8 z9 z10 xs (by omega)
    have hlen : ((oneM L r).map (drD L)).toList.length ≤ 1 := by cases oneM L r <;> simp
    obtain ⟨z6', z7', z8', z9', z10', ih⟩ := ld_loop h S a rs (xs ++ ((oneM L r).map (drD L)).toList) (.sh (rowD r)) y7 y8 y9 y10 (fun q hq => hd q (.tail _ hq)) (by rw [List.length_append]; omega)
    refine ⟨z6', z7', z8', z9', z10', ?_⟩
    have f1 := forF_step (g := gNm 6) (b := ldB) (x := rowD r) (xs := rs.map rowD) (ρ := [a, .sh (szD (szL L)), .sh (ruLs L), .sh (chLs L), .sh (.lst ((freeL L).map fun (v : Nat) => D.int (v : Int))), .ow (.lst xs), z6, z7, z8, z9, z10]) (ρ1 := [a, .sh (szD (szL L)), .sh (ruLs L), .sh (chLs L), .sh (.lst ((freeL L).map fun (v : Nat) => D.int (v : Int))), .ow (.lst xs), .sh (rowD r), z7, z8, z9, z10]) rfl st
    rw [fm_cons, ← List.append_assoc]
    exact f1.trans ih
theorem law_drawn_s (h : LotsOk L) (S : Sto) : F__law_drawn [lotsD L] S = some (.lst ((drawnM L).map (drD L)), S) := by
  have hl : L.length ≤ 1000 := by have := h.sz.1; omega
  have rl := h.rows_len
  have hl' : L.length ≤ 100000 := by omega
  obtain ⟨z6, z7, z8, z9, z10, l⟩ := ld_loop h S (.sh (lotsD L)) (rowsM [[]] (fszL L)) [] .un .un .un .un .un (fun r hr => drawn_of hr) (by rw [List.length_nil]; omega)
  have fr := free_s (L := L) (S := S) (it := iRng (aCons (eCB gLen (aCons (bVar 1) aNil)) aNil)) (i := 2) (j := 10) (ρ := [.sh (lotsD L), .sh (szD (szL L)), .sh (ruLs L), .sh (chLs L), .un, .un, .un, .un, .un, .un, .un]) hl (iRng_of (ds := [.int ((L.length : Nat) : Int)]) (S1 := S) (fs := aCons (eCB gLen (aCons (bVar 1) aNil)) aNil) (aCons_of (eCB_of (ds := [szD (szL L)]) (S1 := S) rfl len_szL) rfl) (rangeOf_nat hl')) (fun a => ⟨_, rfl, rfl, rfl, rfl⟩)
  have fz := fsz_s (L := L) (S := S) (i := 1) (j := 10) (it := iSeq (bVar 4)) (ρ := [.sh (lotsD L), .sh (szD (szL L)), .sh (ruLs L), .sh (chLs L), .sh (.lst ((freeL L).map fun (v : Nat) => D.int (v : Int))), .ow (.lst []), .un, .un, .un, .un, .un]) rfl (fun a => ⟨_, rfl, rfl, rfl⟩)
  have ro := law_values_s (.lst ((fszL L).map fun (n : Nat) => D.int (n : Int))) _ S rfl h.small
  have s2 : sAsg (eLc (iRng (aCons (eCB gLen (aCons (bVar 1) aNil)) aNil)) (gNm 10) (tBl (eBin D.isN (eBin D.ix (bVar 2) (bVar 10)) (eC .non))) (eVar 10) [10]) (gNm 4) [.sh (lotsD L), .sh (szD (szL L)), .sh (ruLs L), .sh (chLs L), .un, .un, .un, .un, .un, .un, .un] S = some (.nx [.sh (lotsD L), .sh (szD (szL L)), .sh (ruLs L), .sh (chLs L), .sh (.lst ((freeL L).map fun (v : Nat) => D.int (v : Int))), .un, .un, .un, .un, .un, .un] S) := sAsg_of fr rfl
  have s4 : sFor (iSeq (eCall F__law_values (aCons (eLc (iSeq (bVar 4)) (gNm 10) tYs (eBin D.ix (bVar 1) (bVar 10)) [10]) aNil))) (gNm 6) ldB [.sh (lotsD L), .sh (szD (szL L)), .sh (ruLs L), .sh (chLs L), .sh (.lst ((freeL L).map fun (v : Nat) => D.int (v : Int))), .ow (.lst []), .un, .un, .un, .un, .un] S = some (.nx _ S) := sFor_of (S1 := S) (iSeq_of (eCall_of (S1 := S) (aCons_of fz rfl) ro) rfl) l
  unfold F__law_drawn b__law_drawn
  refine fnD_rt (S' := S) ?_ rfl
  refine sSeq_of (S1 := S) (ρ' := [.sh (lotsD L), .sh (szD (szL L)), .sh (ruLs L), .sh (chLs L), .un, .un, .un, .un, .un, .un, .un]) (sAsg_of (d := lotsD L) (S1 := S) rfl rfl) ?_
  refine sSeq_of s2 ?_
  refine sSeq_of (S1 := S) (ρ' := [.sh (lotsD L), .sh (szD (szL L)), .sh (ruLs L), .sh (chLs L), .sh (.lst ((freeL L).map fun (v : Nat) => D.int (v : Int))), .ow (.lst []), .un, .un, .un, .un, .un]) rfl ?_
  refine sSeq_of s4 ?_
  refine sFz_of rfl ?_
  exact sRet_of (S1 := S) rfl
end
end W17

set_option Elab.async false
set_option linter.all false
set_option maxRecDepth 100000
namespace DL
open PySem (NestedKey)
/-! ## dicts of weights: the model -/
section
variable {κ : Type} [DecidableEq κ]
def dget (kvs : List (κ × Int)) (k : κ) : Option Int := (kvs.find? fun kv => decide (kv.1 = k)).map (·.2)
def dset (kvs : List (κ × Int)) (k : κ) (x : Int) : List (κ × Int) := if (dget kvs k).isSome = true then kvs.map (fun kv => if kv.1 = k then (kv.1, x) else kv) else kvs ++ [(k, x)]
def dadd (kvs : List (κ × Int)) (k : κ) (w : Int) : List (κ × Int) := dset kvs k ((dget kvs k).getD 0 + w)
def tabK (l : List (κ × Int)) : List (κ × Int) := l.foldl (fun a p => dadd a p.1 p.2) []
def sumK (q : κ → Bool) : List (κ × Int) → Int
  | [] => 0
  | p :: l => (if q p.1 = true then p.2 else 0) + sumK q l
theorem dget_cons (p : κ × Int) (l : List (κ × Int)) (k : κ) : dget (p :: l) k = if p.1 = k then some p.2 else dget l k := by
  unfold dget
  by_cases c : p.1 = k
  · rw [List.find?_cons_of_pos (by simpa using c), if_pos c]; rfl
  · rw [List.find?_cons_of_neg (by simpa using c), if_neg c]
theorem dget_none {k : κ} : ∀ {l : List (κ × Int)}, dget l k = none ↔ ∀ p ∈ l, p.1 ≠ k
  | [] => ⟨(fun _ p h => nomatch h), (fun _ => rfl)⟩
  | p :: l => by
    rw [dget_cons]
    by_cases c : p.1 = k
    · rw [if_pos c]
      constructor
      · intro h; cases h
      · intro h; exact absurd c (h p (.head _))
    · rw [if_neg c, dget_none]
      constructor
      · intro h q hq
        cases hq with
        | head => exact c
        | tail _ hq => exact h q hq
      · intro h q hq; exact h q (.tail _ hq)
theorem dget_mem {k : κ} {x : Int} : ∀ {l : List (κ × Int)}, dget l k = some x → (k, x) ∈ l
  | p :: l, h => by
    rw [dget_cons] at h
    by_cases c : p.1 = k
    · rw [if_pos c] at h; cases h; rw [← c]; exact .head _
    · rw [if_neg c] at h; exact .tail _ (dget_mem h)
theorem dget_nodup {p : κ × Int} : ∀ {l : List (κ × Int)}, (l.map (·.1)).Nodup → p ∈ l → dget l p.1 = some p.2
  | q :: l, nd, h => by
    rw [List.map_cons, List.nodup_cons] at nd
    rw [dget_cons]
    cases h with
    | head => rw [if_pos rfl]
    | tail _ h => rw [if_neg (fun z => nd.1 (by rw [z]; exact List.mem_map_of_mem h)), dget_nodup nd.2 h]
theorem map_id_of {k : κ} {x : Int} : ∀ {l : List (κ × Int)}, (∀ p ∈ l, p.1 ≠ k) → (l.map fun kv => if kv.1 = k then (kv.1, x) else kv) = l
  | [], _ => rfl
  | p :: l, h => by rw [List.map_cons, if_neg (h p (.head _)), map_id_of fun q hq => h q (.tail _ hq)]
theorem dset_keys (l : List (κ × Int)) (k : κ) (x : Int) : (dset l k x).map (·.1) = if (dget l k).isSome = true then l.map (·.1) else l.map (·.1) ++ [k] := by
  unfold dset
  split
  · rw [List.map_map]; refine List.map_congr_left fun p _ => ?_
    by_cases c : p.1 = k <;> simp [c]
  · rw [List.map_append]; rfl
theorem dset_nodup {l : List (κ × Int)} (h : (l.map (·.1)).Nodup) (k : κ) (x : Int) : ((dset l k x).map (·.1)).Nodup := by
  rw [dset_keys]
  split
  · exact h
  · rename_i c
    have : dget l k = none := by cases e : dget l k with
      | none => rfl
      | some y => rw [e] at c; exact absurd rfl c
    rw [dget_none] at this
    rw [List.nodup_append]
    refine ⟨h, by simp, fun a ha b hb => ?_⟩
    rw [List.mem_singleton.mp hb]
    obtain ⟨p, hp, rfl⟩ := List.mem_map.mp ha
    exact this p hp
theorem sumK_append (q : κ → Bool) : ∀ (l m : List (κ × Int)), sumK q (l ++ m) = sumK q l + sumK q m
  | [], m => by simp [sumK]
  | p :: l, m => by
    show (if q p.1 = true then p.2 else 0) + sumK q (l ++ m) = _
    rw [sumK_append q l m]
    show _ = (if q p.1 = true then p.2 else 0) + sumK q l + sumK q m
    omega
theorem sumK_perm (q : κ → Bool) {l m : List (κ × Int)} (h : l.Perm m) : sumK q l = sumK q m := by
  induction h with
  | nil => rfl
  | cons x _ ih => show _ + _ = _ + _; rw [ih]
  | swap x y l => show _ + (_ + _) = _ + (_ + _); omega
  | trans _ _ ih1 ih2 => exact ih1.trans ih2
theorem sumK_filter (q : κ → Bool) : ∀ l : List (κ × Int), ((l.filter fun p => q p.1).map (·.2)).sum = sumK q l
  | [] => rfl
  | p :: l => by
    show _ = (if q p.1 = true then p.2 else 0) + sumK q l
    rw [← sumK_filter q l]
    by_cases c : q p.1 = true
    · rw [List.filter_cons_of_pos (p := fun p : κ × Int => q p.1) c, if_pos c, List.map_cons, List.sum_cons]
    · rw [List.filter_cons_of_neg (p := fun p : κ × Int => q p.1) c, if_neg c, Int.zero_add]
theorem sumK_key (k : κ) : ∀ {l : List (κ × Int)}, (l.map (·.1)).Nodup → sumK (fun j => decide (j = k)) l = (dget l k).getD 0
  | [], _ => rfl
  | p :: l, nd => by
    rw [List.map_cons, List.nodup_cons] at nd
    rw [dget_cons]
    show (if decide (p.1 = k) = true then p.2 else 0) + sumK _ l = _
    rw [sumK_key k nd.2]
    by_cases c : p.1 = k
    · rw [if_pos (decide_eq_true c), if_pos c, dget_none.mpr fun q hq z => nd.1 (by rw [c, ← z]; exact List.mem_map_of_mem hq)]
      simp
    · rw [if_neg (by simpa using c), if_neg c, Int.zero_add]
theorem sumK_map (q : κ → Bool) (k : κ) (x : Int) : ∀ {l : List (κ × Int)} {y : Int}, (l.map (·.1)).Nodup → dget l k = some y → sumK q (l.map fun kv => if kv.1 = k then (kv.1, x) else kv) = sumK q l + if q k = true then x - y else 0
  | p :: l, y, nd, h => by
    rw [List.map_cons, List.nodup_cons] at nd
    rw [dget_cons] at h
    rw [List.map_cons]
    by_cases c : p.1 = k
    · rw [if_pos c] at h
      cases h
      rw [if_pos c, map_id_of fun r hr z => nd.1 (by rw [c, ← z]; exact List.mem_map_of_mem hr)]
      show (if q p.1 = true then x else 0) + sumK q l = (if q p.1 = true then p.2 else 0) + sumK q l + _
      rw [c]
      by_cases d : q k = true
      · rw [if_pos d, if_pos d, if_pos d]; omega
      · rw [if_neg d, if_neg d, if_neg d]; omega
    · rw [if_neg c] at h
      rw [if_neg c]
      show (if q p.1 = true then p.2 else 0) + sumK q _ = (if q p.1 = true then p.2 else 0) + sumK q l + _
      rw [sumK_map q k x nd.2 h]
      omega
theorem dadd_sum (q : κ → Bool) {l : List (κ × Int)} (nd : (l.map (·.1)).Nodup) (k : κ) (w : Int) : sumK q (dadd l k w) = sumK q l + if q k = true then w else 0 := by
  unfold dadd dset
  cases e : dget l k with
  | none =>
    show sumK q (l ++ [(k, 0 + w)]) = _
    rw [sumK_append]
    show _ + ((if q k = true then 0 + w else 0) + 0) = _
    rw [Int.zero_add, Int.add_zero]
  | some y =>
    show sumK q (l.map fun kv => if kv.1 = k then (kv.1, y + w) else kv) = _
    rw [sumK_map q k (y + w) nd e, show y + w - y = w by omega]
theorem tab_nd : ∀ (l acc : List (κ × Int)), (acc.map (·.1)).Nodup → ((l.foldl (fun a p => dadd a p.1 p.2) acc).map (·.1)).Nodup
  | [], acc, h => h
  | p :: l, acc, h => tab_nd l _ (dset_nodup h _ _)
theorem tab_acc (q : κ → Bool) : ∀ (l acc : List (κ × Int)), (acc.map (·.1)).Nodup → sumK q (l.foldl (fun a p => dadd a p.1 p.2) acc) = sumK q acc + sumK q l
  | [], acc, h => by show sumK q acc = sumK q acc + 0; omega
  | p :: l, acc, h => by
    show sumK q (l.foldl _ (dadd acc p.1 p.2)) = _
    rw [tab_acc q l (dadd acc p.1 p.2) (dset_nodup h _ _), dadd_sum q h]
    show _ = _ + ((if q p.1 = true then p.2 else 0) + sumK q l)
    omega
theorem tab_nodup (l : List (κ × Int)) : ((tabK l).map (·.1)).Nodup := tab_nd l [] List.nodup_nil
theorem tab_sum (q : κ → Bool) (l : List (κ × Int)) : sumK q (tabK l) = sumK q l := by
  have := tab_acc q l [] List.nodup_nil
  rw [show sumK q ([] : List (κ × Int)) = 0 from rfl, Int.zero_add] at this
  exact this
theorem tab_get (l : List (κ × Int)) (k : κ) : (dget (tabK l) k).getD 0 = sumK (fun j => decide (j = k)) l := by
  rw [← sumK_key k (tab_nodup l), tab_sum]
theorem tab_val {l : List (κ × Int)} {p : κ × Int} (h : p ∈ tabK l) : p.2 = sumK (fun j => decide (j = p.1)) l := by
  rw [← tab_get, dget_nodup (tab_nodup l) h]; rfl
theorem tab_snoc (l : List (κ × Int)) (p : κ × Int) : tabK (l ++ [p]) = dadd (tabK l) p.1 p.2 := by
  unfold tabK
  rw [List.foldl_append]; rfl
theorem sumK_bd (q : κ → Bool) {k : Nat} : ∀ {l : List (κ × Int)}, (∀ p ∈ l, 0 ≤ p.2 ∧ p.2.natAbs < 2 ^ k) → 0 ≤ sumK q l ∧ (sumK q l).natAbs ≤ l.length * 2 ^ k
  | [], _ => ⟨Int.le_refl _, Nat.zero_le _⟩
  | p :: l, h => by
    have h0 := h p (.head _)
    obtain ⟨h1, h2⟩ := sumK_bd q (l := l) fun r hr => h r (.tail _ hr)
    rw [List.length_cons, Nat.succ_mul]
    show 0 ≤ (if q p.1 = true then p.2 else 0) + sumK q l ∧ ((if q p.1 = true then p.2 else 0) + sumK q l).natAbs ≤ _
    split <;> omega
/-! ### as data -/
structure KEnc (enc : κ → D) (nkOf : κ → NestedKey) : Prop where
  ok : ∀ k, (enc k).keyOk true = some (nkOf k)
  nk : ∀ k, (enc k).nk = some (nkOf k)
  inj : ∀ j k, nkOf j = nkOf k → j = k
variable {enc : κ → D} {nkOf : κ → NestedKey} {W : Int}
def ksD (enc : κ → D) (l : List (κ × Int)) : List D := l.map fun p => enc p.1
def dsD (W : Int) (l : List (κ × Int)) : List D := l.map fun p => frD (nf p.2 W)
theorem find_enc (E : KEnc enc nkOf) (k : κ) : ∀ l : List (κ × Int), dnFind (ksD enc l) (dsD W l) (nkOf k) = (dget l k).map fun x => frD (nf x W)
  | [] => rfl
  | p :: l => by
    have ih := find_enc E k l
    rw [dget_cons]
    unfold dnFind ksD dsD at *
    rw [List.map_cons, List.map_cons, List.zip_cons_cons]
    by_cases c : p.1 = k
    · rw [List.find?_cons_of_pos (by simp [E.nk, c]), if_pos c]; rfl
    · rw [List.find?_cons_of_neg (by simp only [E.nk, decide_eq_true_eq]; exact fun z => c (E.inj _ _ (Option.some.inj z))), if_neg c]
      exact ih
theorem rep_enc (E : KEnc enc nkOf) (k : κ) (x : Int) : ∀ l : List (κ × Int), dnRep (nkOf k) (frD (nf x W)) (ksD enc l) (dsD W l) = dsD W (l.map fun kv => if kv.1 = k then (kv.1, x) else kv)
  | [] => rfl
  | p :: l => by
    have ih := rep_enc E k x l
    unfold ksD dsD at *
    rw [List.map_cons, List.map_cons, List.map_cons, List.map_cons, dnRep, E.nk, ih]
    by_cases c : p.1 = k
    · rw [if_pos (by rw [c]), if_pos c]
    · rw [if_neg (fun z => c (E.inj _ _ (Option.some.inj z))), if_neg c]
theorem putK_enc (E : KEnc enc nkOf) (k : κ) (x : Int) (l : List (κ × Int)) : dnPutK (ksD enc l) (dsD W l) (enc k) (nkOf k) = ksD enc (dset l k x) := by
  unfold dnPutK
  rw [find_enc E, Option.isSome_map]
  have := congrArg (List.map enc) (dset_keys l k x)
  rw [List.map_map] at this
  unfold ksD
  rw [show ((dset l k x).map fun p => enc p.1) = (dset l k x).map (enc ∘ fun p => p.1) from rfl, this]
  split <;> simp [List.map_map]
theorem putV_enc (E : KEnc enc nkOf) (k : κ) (x : Int) (l : List (κ × Int)) : dnPutV (ksD enc l) (dsD W l) (nkOf k) (frD (nf x W)) = dsD W (dset l k x) := by
  unfold dnPutV dset
  rw [find_enc E, Option.isSome_map]
  split
  · exact rep_enc E k x l
  · unfold dsD; rw [List.map_append]; rfl
end
def nkR (r : List Int) : NestedKey := .tup (r.map .num)
theorem nks_ints : ∀ r : List Int, D.nks (r.map D.int) = some (r.map NestedKey.num)
  | [] => rfl
  | x :: r => by
    rw [List.map_cons]
    simp only [D.nks, D.nk, Option.bind_some, nks_ints r, Option.map_some]
    rfl
theorem nk_row (r : List Int) : (rowD r).nk = some (nkR r) := by
  unfold rowD nkR
  simp only [D.nk, nks_ints, Option.map_some]
end DL

set_option Elab.async false
set_option linter.all false
set_option maxRecDepth 100000
namespace DL
open PySem (NestedKey)
theorem depth_nums : ∀ r : List Int, NestedKey.depthAll (r.map NestedKey.num) ≤ 1
  | [] => by simp [NestedKey.depthAll]
  | x :: r => by
    have := depth_nums r
    rw [List.map_cons]
    simp only [NestedKey.depthAll, NestedKey.depth]
    omega
theorem encR : KEnc rowD nkR where
  nk := nk_row
  ok := fun r => by
    have e := nk_row r
    have d : (nkR r).depth ≤ 8 := by
      have := depth_nums r
      unfold nkR
      simp only [NestedKey.depth]
      omega
    unfold rowD at e ⊢
    show ((D.tup (r.map D.int)).nk.bind fun k => if k.depth ≤ 8 then some k else none) = _
    rw [e, Option.bind_some, if_pos d]
  inj := fun a b h => by
    have := NestedKey.tup.inj h
    exact (List.map_inj_right (fun x y h => NestedKey.num.inj h)).mp this
def prD (p : List Int × List Int) : D := .tup [rowD p.1, rowD p.2]
def nkP (p : List Int × List Int) : NestedKey := .tup [nkR p.1, nkR p.2]
theorem nk_pair (p : List Int × List Int) : (prD p).nk = some (nkP p) := by
  unfold prD nkP
  simp only [D.nk, D.nks, nk_row, Option.bind_some, Option.map_some]
theorem encP : KEnc prD nkP where
  nk := nk_pair
  ok := fun p => by
    have e := nk_pair p
    have d : (nkP p).depth ≤ 8 := by
      have := depth_nums p.1
      have := depth_nums p.2
      unfold nkP nkR
      simp only [NestedKey.depth, NestedKey.depthAll]
      omega
    unfold prD at e ⊢
    show ((D.tup [rowD p.1, rowD p.2]).nk.bind fun k => if k.depth ≤ 8 then some k else none) = _
    rw [e, Option.bind_some, if_pos d]
  inj := fun a b h => by
    have h1 := NestedKey.tup.inj h
    have h2 := (List.cons.inj h1).1
    have h3 := (List.cons.inj (List.cons.inj h1).2).1
    have e1 := encR.inj _ _ h2
    have e2 := encR.inj _ _ h3
    cases a; cases b
    simp only at e1 e2
    rw [e1, e2]
section
variable {L : Lots}
theorem LotsOk.szOk (h : LotsOk L) : (szL L).length ≤ 4 ∧ ∀ n ∈ szL L, 2 ≤ n ∧ n ≤ 3 := ⟨by unfold szL; rw [List.length_map]; exact h.sz.1, h.sz.2.2⟩
theorem LotsOk.drawn (h : LotsOk L) : ∀ p ∈ drawnM L, OwnOk (szL L) 0 p.1 ∧ p.1.length = (szL L).length ∧ 0 < p.2 ∧ p.2.natAbs < 2 ^ 10 := fun p hp => by
  unfold drawnM at hp
  obtain ⟨r, hr, e⟩ := List.mem_filterMap.mp hp
  have d := drawn_of hr
  unfold oneM at e
  by_cases c : 0 < (wgt L ((freeL L).zip r)).1
  · rw [if_pos c] at e
    cases e
    obtain ⟨h1, h2⟩ := h.own d
    exact ⟨h1, by rw [h2]; unfold szL; rw [List.length_map], c, (h.wb d).b1⟩
  · rw [if_neg c] at e; cases e
theorem LotsOk.WL (h : LotsOk L) : 0 < WL L ∧ (WL L).natAbs < 2 ^ 10 := by
  have key : ∀ (fr : List Nat) (a : Int) (k : Nat), (∀ v ∈ fr, v ∈ freeL L) → 0 < a → a.natAbs < 2 ^ k → 0 < fr.foldl (fun a v => a * (vrAt L v).ws.sum) a ∧ (fr.foldl (fun a v => a * (vrAt L v).ws.sum) a).natAbs < 2 ^ (k + 3 * fr.length) := by
    intro fr
    induction fr with
    | nil => intro a k _ h1 h2; exact ⟨h1, h2⟩
    | cons v fr ih =>
      intro a k hv h1 h2
      obtain ⟨ws, e, _, _, h3, h4⟩ := h.sum (hv v (.head _))
      have := ih (a * (vrAt L v).ws.sum) (k + 3) (fun u hu => hv u (.tail _ hu)) (by rw [e]; exact Int.mul_pos h1 h3) (by rw [e]; exact mul_bd h2 (show ws.sum.natAbs < 2 ^ 3 by omega))
      rw [List.length_cons, show k + 3 * (fr.length + 1) = k + 3 + 3 * fr.length by omega]
      exact this
  obtain ⟨h1, h2⟩ := key (freeL L) 1 1 (fun v hv => hv) (by decide) (by decide)
  exact ⟨h1, bd_mono h2 (by have := h.few; omega)⟩
end
theorem eqv_ints : ∀ a b : List Int, PySem.PyData.eqvAll (D.toPs (a.map D.int)) (D.toPs (b.map D.int)) = decide (a = b)
  | [], [] => by simp [D.toPs, PySem.PyData.eqvAll]
  | [], _ :: _ => by simp [D.toPs, D.toP, PySem.PyData.eqvAll]
  | _ :: _, [] => by simp [D.toPs, D.toP, PySem.PyData.eqvAll]
  | x :: a, y :: b => by
    rw [List.map_cons, List.map_cons]
    simp only [D.toPs, D.toP, PySem.PyData.eqvAll, eqv_ints a b]
    by_cases c : x = y <;> by_cases d : a = b <;> simp [PySem.PyData.eqv, c, d]
theorem fits_ints (n : Nat) : ∀ a : List Int, D.fits (a.map D.int) n = true
  | [] => rfl
  | x :: a => by
    rw [List.map_cons]
    simp only [D.fits, D.fit, fits_ints n a, Bool.and_self]
theorem eq_row (a b : List Int) : D.eq (rowD a) (rowD b) = some (.bl (decide (a = b))) := by
  have f : ∀ a : List Int, (rowD a).fit 60 = true := fun a => by
    unfold rowD
    simp only [D.fit]
    exact fits_ints _ a
  have e : ((rowD a).fit 60 && (rowD b).fit 60) = true := by rw [f, f]; rfl
  unfold D.eq
  rw [if_pos e]
  congr 2
  unfold D.eqv rowD
  simp only [D.toP, PySem.PyData.eqv, eqv_ints]
end DL
namespace W17
open DL
open L2 (atI atI_nat ixN)
section
variable {κ : Type} [DecidableEq κ] {enc : κ → D} {nkOf : κ → PySem.NestedKey} {W : Int} {l : List (κ × Int)} {i : Nat} {k : κ} {ρ : Rho} {S S1 S2 : Sto}
theorem get2_of (E : KEnc enc nkOf) (hW : 0 < W) {fe ff : Ex} (h0 : ρ[i]? = some (.ow (.dn true (ksD enc l) (dsD W l)))) (h1 : fe ρ S = some (enc k, S1)) (h2 : ff ρ S1 = some (frD (0, 1), S2)) : eDnGet2 i fe ff ρ S = some (frD (nf ((dget l k).getD 0) W), S2) := by
  unfold eDnGet2
  rw [h0]
  show (fe ρ S).bind _ = _
  rw [h1, Option.bind_some, h2, Option.bind_some, E.ok, Option.map_some, find_enc E]
  cases dget l k with
  | none => show some (frD (0, 1), S2) = some (frD (nf 0 W), S2); rw [nf_zero hW]
  | some x => rfl
theorem put_of (E : KEnc enc nkOf) {x : Int} {f fi : Ex} (h0 : ρ[i]? = some (.ow (.dn true (ksD enc l) (dsD W l)))) (h1 : f ρ S = some (frD (nf x W), S1)) (h2 : fi ρ S1 = some (enc k, S2)) (hl : l.length ≤ 100000) : sDnPut i f fi ρ S = some (.nx (ρ.set i (.ow (.dn true (ksD enc (dset l k x)) (dsD W (dset l k x))))) S2) := by
  have z : (ksD enc l).length < PySem.sizeLine := Nat.lt_of_lt_of_le (Nat.lt_succ_of_le (by unfold ksD; rw [List.length_map]; exact hl)) (by decide : 100000 + 1 ≤ PySem.sizeLine)
  unfold sDnPut
  rw [h1, Option.bind_some, h0]
  show (fi ρ S1).bind _ = _
  rw [h2, Option.bind_some, E.ok, Option.bind_some, if_pos z, putK_enc E k x, putV_enc E]
theorem dadd_len (l : List (κ × Int)) (k : κ) (w : Int) : (dadd l k w).length ≤ l.length + 1 := by
  unfold dadd dset
  split <;> simp
theorem tab_len : ∀ (l : List (κ × Int)), (tabK l).length ≤ l.length := by
  have key : ∀ (l acc : List (κ × Int)), (l.foldl (fun a p => dadd a p.1 p.2) acc).length ≤ acc.length + l.length := by
    intro l
    induction l with
    | nil => intro acc; exact Nat.le_refl _
    | cons p l ih =>
      intro acc
      have := ih (dadd acc p.1 p.2)
      have := dadd_len acc p.1 p.2
      rw [List.length_cons]
      show (l.foldl _ (dadd acc p.1 p.2)).length ≤ _
      omega
  intro l
  have := key l []
  simpa [tabK] using this
end
/-- weights in order -/
def WsOk (ws : List Int) : Prop := ws.length ≤ 1000 ∧ ∀ w ∈ ws, 0 ≤ w ∧ w.natAbs < 2 ^ 21
theorem tot_loop {W : Int} (hW : 0 < W) (hW2 : W.natAbs < 2 ^ 10) (S : Sto) (a : Sl) : ∀ (ws : List Int) (x : Int) (k : Nat) (z : Sl), (∀ w ∈ ws, 0 ≤ w ∧ w.natAbs < 2 ^ 21) → 0 ≤ x → x.natAbs < 2 ^ (21 + k) → k + ws.length ≤ 2000 →
    ∃ z', forF (gNm 2) (sAsg (eCall F__law_plus (aCons (eVar 1) (aCons (eVar 2) aNil))) (gNm 1)) (ws.map fun w => frD (nf w W)) [a, .sh (frD (nf x W)), z] S = some (.nx [a, .sh (frD (nf (x + ws.sum) W)), z'] S) ∧
      forF (gNm 2) (sAsg (eCall F_plus (aCons (eVar 1) (aCons (eVar 2) aNil))) (gNm 1)) (ws.map fun w => frD (nf w W)) [a, .sh (frD (nf x W)), z] S = some (.nx [a, .sh (frD (nf (x + ws.sum) W)), z'] S)
  | [], x, k, z, _, _, _, _ => ⟨z, by simp only [List.map_nil, List.sum_nil, Int.add_zero]; exact ⟨rfl, rfl⟩⟩
  | w :: ws, x, k, z, hw, hx, hx2, hk => by
    rw [List.length_cons] at hk
    have h0 := hw w (.head _)
    have hb : (x + w).natAbs < 2 ^ (21 + (k + 1)) := by
      have := add_bd hx2 (bd_mono (k := 21 + k) h0.2 (by omega))
      rw [show 21 + (k + 1) = 21 + k + 1 by omega]
      exact this
    obtain ⟨z', i1, i2⟩ := tot_loop hW hW2 S a ws (x + w) (k + 1) (.sh (frD (nf w W))) (fun v hv => hw v (.tail _ hv)) (by omega) hb (by omega)
    have f1 : Fb (21 + k) (nf x W) := nf_fb hx2 hW (bd_mono hW2 (by omega))
    have f2 : Fb 21 (nf w W) := nf_fb h0.2 hW (bd_mono hW2 (by decide))
    have p1 := law_plus_s S f1 f2 (nf_nn hW hx) (nf_nn hW h0.1) (by omega)
    have p2 := plus_s S f1 f2 (by omega)
    rw [plF_same _ _ hW] at p1 p2
    have e : x + (w :: ws).sum = x + w + ws.sum := by rw [List.sum_cons]; omega
    rw [e]
    refine ⟨z', ?_, ?_⟩
    · have := forF_step (g := gNm 2) (x := frD (nf w W)) (xs := ws.map fun w => frD (nf w W)) (ρ := [a, .sh (frD (nf x W)), z]) (ρ1 := [a, .sh (frD (nf x W)), .sh (frD (nf w W))]) (b := sAsg (eCall F__law_plus (aCons (eVar 1) (aCons (eVar 2) aNil))) (gNm 1)) (S := S) rfl (sAsg_of (eCall_of (S1 := S) rfl p1) rfl)
      exact this.trans i1
    · have := forF_step (g := gNm 2) (x := frD (nf w W)) (xs := ws.map fun w => frD (nf w W)) (ρ := [a, .sh (frD (nf x W)), z]) (ρ1 := [a, .sh (frD (nf x W)), .sh (frD (nf w W))]) (b := sAsg (eCall F_plus (aCons (eVar 1) (aCons (eVar 2) aNil))) (gNm 1)) (S := S) rfl (sAsg_of (eCall_of (S1 := S) rfl p2) rfl)
      exact this.trans i2
theorem total_w {W : Int} (hW : 0 < W) (hW2 : W.natAbs < 2 ^ 10) {ws : List Int} (h : WsOk ws) (d : D) (hd : d.elems = some (ws.map fun w => frD (nf w W))) (S : Sto) : F__law_total [d] S = some (frD (nf ws.sum W), S) ∧ F_total [d] S = some (frD (nf ws.sum W), S) := by
  obtain ⟨z', l1, l2⟩ := tot_loop hW hW2 S (.sh d) ws 0 0 .un h.2 (Int.le_refl _) (by decide) (by have := h.1; omega)
  rw [Int.zero_add, nf_zero hW] at l1 l2
  have st : sAsg (eTup (aCons (eC (.int 0)) (aCons (eC (.int 1)) aNil))) (gNm 1) [.sh d, .un, .un] S = some (.nx [.sh d, .sh (frD (0, 1)), .un] S) := sAsg_of (pair_s (S1 := S) (S2 := S) rfl rfl) rfl
  constructor
  · unfold F__law_total b__law_total
    refine fnD_rt (S' := S) ?_ rfl
    refine sSeq_of st ?_
    refine sSeq_of (sFor_of (iSeq_of (S1 := S) (d := d) rfl hd) l1) ?_
    exact sRet_of (S1 := S) rfl
  · unfold F_total b_total
    refine fnD_rt (S' := S) ?_ rfl
    refine sSeq_of st ?_
    refine sSeq_of (sFor_of (iSeq_of (S1 := S) (d := d) rfl hd) l2) ?_
    exact sRet_of (S1 := S) rfl
end W17

set_option Elab.async false
set_option linter.all false
set_option maxRecDepth 100000
namespace W17
open DL
open L2 (atI atI_nat ixN)
def DeedS (L : Lots) (e : Ev) : Prop := DeedOk (szL L) e
/-- the rows by a deed, with their weights -/
def lW (L : Lots) (deed : Ev) : List (List Int × Int) := (drawnM L).map fun p => (runF (szL L) deed p.1 [], p.2)
section
variable {L : Lots}
theorem drawn_len (h : LotsOk L) : (drawnM L).length ≤ 1000 := Nat.le_trans (List.length_filterMap_le _ _) h.rows_len
theorem lW_len (h : LotsOk L) (deed : Ev) : (lW L deed).length ≤ 1000 := by unfold lW; rw [List.length_map]; exact drawn_len h
theorem frb {W a : Int} {k : Nat} (hW : 0 < W) (hW2 : W.natAbs < 2 ^ 10) (ha : a.natAbs < 2 ^ k) (hk : 10 ≤ k) : Fb k (nf a W) := nf_fb ha hW (bd_mono hW2 hk)
/-- one more row's weight -/
theorem add_of {κ : Type} [DecidableEq κ] {enc : κ → D} {nkOf : κ → PySem.NestedKey} (E : KEnc enc nkOf) {W : Int} (hW : 0 < W) (hW2 : W.natAbs < 2 ^ 10) {l : List (κ × Int)} {k : κ} {w : Int} (hl : ∀ p ∈ l, 0 ≤ p.2 ∧ p.2.natAbs < 2 ^ 10) (hz : l.length ≤ 1000) (hw : 0 ≤ w ∧ w.natAbs < 2 ^ 10) :
    0 ≤ (dget (tabK l) k).getD 0 ∧ ((dget (tabK l) k).getD 0).natAbs < 2 ^ 21 := by
  rw [tab_get]
  obtain ⟨h1, h2⟩ := sumK_bd (fun j => decide (j = k)) hl
  refine ⟨h1, Nat.lt_of_le_of_lt h2 ?_⟩
  have : l.length * 2 ^ 10 ≤ 1000 * 2 ^ 10 := Nat.mul_le_mul_right _ hz
  omega
def dwB : Stm := (sSeq (sAsg (eCall F_values (aCons (eVar 3) (aCons (eVar 1) aNil))) (gNm 5))
    (sDnPut 2 (eCall F_plus (aCons (eDnGet2 2 (eVar 5) (eC (.tup [.int 0, .int 1]))) (aCons (eVar 4) aNil))) (eVar 5)))
theorem dw_loop (h : LotsOk L) {deed : Ev} (hd : DeedS L deed) (S : Sto) (a : Sl) : ∀ (suf pre : List (List Ru × Int)) (z3 z4 z5 : Sl), drawnM L = pre ++ suf →
    ∃ z3' z4' z5', forF (gTp 2 (gsCons (gNm 3) (gsCons (gNm 4) gsNil))) dwB (suf.map (drD L)) [a, .sh (evD deed), .ow (.dn true (ksD rowD (tabK (pre.map fun p => (runF (szL L) deed p.1 [], p.2)))) (dsD (WL L) (tabK (pre.map fun p => (runF (szL L) deed p.1 [], p.2))))), z3, z4, z5] S = some (.nx [a, .sh (evD deed), .ow (.dn true (ksD rowD (tabK (lW L deed))) (dsD (WL L) (tabK (lW L deed)))), z3', z4', z5'] S)
  | [], pre, z3, z4, z5, e => by
    rw [List.append_nil] at e
    unfold lW
    rw [e]
    exact ⟨z3, z4, z5, rfl⟩
  | p :: suf, pre, z3, z4, z5, e => by
    obtain ⟨hW, hW2⟩ := h.WL
    have hp : p ∈ drawnM L := by rw [e]; simp
    obtain ⟨o1, o2, o3, o4⟩ := h.drawn p hp
    have hs : SzOk (szL L) := h.szOk
    have vs := values_s (deed := deed) S hs hd o1 o2
    have hl : ∀ q ∈ pre.map fun p => (runF (szL L) deed p.1 [], p.2), 0 ≤ q.2 ∧ q.2.natAbs < 2 ^ 10 := fun q hq => by
      obtain ⟨q', hq', rfl⟩ := List.mem_map.mp hq
      obtain ⟨_, _, a1, a2⟩ := h.drawn q' (by rw [e]; exact List.mem_append_left _ hq')
      exact ⟨Int.le_of_lt a1, a2⟩
    have hz : (pre.map fun p => (runF (szL L) deed p.1 [], p.2)).length ≤ 1000 := by
      rw [List.length_map]
      have := drawn_len h
      rw [e, List.length_append] at this
      omega
    obtain ⟨b1, b2⟩ := add_of encR hW hW2 (k := runF (szL L) deed p.1 []) (w := p.2) hl hz ⟨Int.le_of_lt o3, o4⟩
    generalize hT : pre.map (fun p => (runF (szL L) deed p.1 [], p.2)) = T at *
    generalize hr : runF (szL L) deed p.1 [] = r at *
    obtain ⟨z3', z4', z5', ih⟩ := dw_loop h hd S a suf (pre ++ [p]) (.sh (fD (szL L) p.1)) (.sh (frD (nf p.2 (WL L)))) (.sh (rowD r)) (by rw [e, List.append_assoc]; rfl)
    refine ⟨z3', z4', z5', ?_⟩
    have ps := plus_s S (frb hW hW2 b2 (by decide)) (frb hW hW2 o4 (Nat.le_refl _)) (by decide)
    rw [plF_same _ _ hW] at ps
    have g := get2_of (S1 := S) (S2 := S) encR hW (l := tabK T) (k := r) (i := 2) (ρ := [a, .sh (evD deed), .ow (.dn true (ksD rowD (tabK T)) (dsD (WL L) (tabK T))), .sh (fD (szL L) p.1), .sh (frD (nf p.2 (WL L))), .sh (rowD r)]) (fe := eVar 5) (ff := eC (.tup [.int 0, .int 1])) rfl rfl rfl
    have pt := put_of (S1 := S) (S2 := S) encR (W := WL L) (l := tabK T) (k := r) (x := (dget (tabK T) r).getD 0 + p.2) (i := 2) (ρ := [a, .sh (evD deed), .ow (.dn true (ksD rowD (tabK T)) (dsD (WL L) (tabK T))), .sh (fD (szL L) p.1), .sh (frD (nf p.2 (WL L))), .sh (rowD r)]) (f := eCall F_plus (aCons (eDnGet2 2 (eVar 5) (eC (.tup [.int 0, .int 1]))) (aCons (eVar 4) aNil))) (fi := eVar 5) rfl (eCall_of (aCons_of g (aCons_of (S1 := S) rfl rfl)) ps) rfl (by have := tab_len T; omega)
    have st : dwB [a, .sh (evD deed), .ow (.dn true (ksD rowD (tabK T)) (dsD (WL L) (tabK T))), .sh (fD (szL L) p.1), .sh (frD (nf p.2 (WL L))), z5] S = some (.nx [a, .sh (evD deed), .ow (.dn true (ksD rowD (dadd (tabK T) r p.2)) (dsD (WL L) (dadd (tabK T) r p.2))), .sh (fD (szL L) p.1), .sh (frD (nf p.2 (WL L))), .sh (rowD r)] S) := by
      unfold dwB
      exact sSeq_of (S1 := S) (sAsg_of (eCall_of (S1 := S) rfl vs) rfl) pt
    have f1 := forF_step (g := gTp 2 (gsCons (gNm 3) (gsCons (gNm 4) gsNil))) (b := dwB) (x := drD L p) (xs := suf.map (drD L)) (ρ := [a, .sh (evD deed), .ow (.dn true (ksD rowD (tabK T)) (dsD (WL L) (tabK T))), z3, z4, z5]) (ρ1 := [a, .sh (evD deed), .ow (.dn true (ksD rowD (tabK T)) (dsD (WL L) (tabK T))), .sh (fD (szL L) p.1), .sh (frD (nf p.2 (WL L))), z5]) rfl st
    rw [List.map_append, hT] at ih
    rw [show ([p].map fun p => (runF (szL L) deed p.1 [], p.2)) = [(r, p.2)] by rw [← hr]; rfl, tab_snoc] at ih
    exact f1.trans ih
theorem _root_.DL.LotsOk.smallS (h : LotsOk L) : Small [[]] (szL L) := by
  have hs := h.szOk
  refine ⟨fun n hn => (hs.2 n hn).2, ?_, fun r hr => by rw [List.mem_singleton.mp hr, List.length_nil]; omega⟩
  have : 3 ^ (szL L).length ≤ 3 ^ 4 := Nat.pow_le_pow_right (by decide) hs.1
  simp only [List.length_cons, List.length_nil]
  omega
/-- a world -/
def wDa (L : Lots) (deed : Ev) : D := .tup [szD (szL L), .tup ((rowsM [[]] (szL L)).map fun r => frD (nf (sumK (fun j => decide (j = r)) (lW L deed)) (WL L)))]
theorem done_world_s (h : LotsOk L) {deed : Ev} (hd : DeedS L deed) (S : Sto) : F_done_world [lotsD L, evD deed] S = some (wDa L deed, S) := by
  obtain ⟨hW, hW2⟩ := h.WL
  obtain ⟨z3, z4, z5, l⟩ := dw_loop h hd S (.sh (lotsD L)) (drawnM L) [] .un .un .un rfl
  have dr := drawn_s h S
  have ro := rows_of_s (szL L) S h.smallS
  have c := compF_all (g := gNm 5) (te := eDnGet2 2 (eVar 5) (eC (.tup [.int 0, .int 1]))) (ρ := [.sh (lotsD L), .sh (evD deed), .ow (.dn true (ksD rowD (tabK (lW L deed))) (dsD (WL L) (tabK (lW L deed)))), z3, z4, .un]) (S := S) rowD (fun r => frD (nf (sumK (fun j => decide (j = r)) (lW L deed)) (WL L))) (rowsM [[]] (szL L)) fun r hr => by
    refine ⟨[.sh (lotsD L), .sh (evD deed), .ow (.dn true (ksD rowD (tabK (lW L deed))) (dsD (WL L) (tabK (lW L deed)))), z3, z4, .sh (rowD r)], rfl, ?_⟩
    have g := get2_of (S1 := S) (S2 := S) encR hW (l := tabK (lW L deed)) (k := r) (i := 2) (ρ := [.sh (lotsD L), .sh (evD deed), .ow (.dn true (ksD rowD (tabK (lW L deed))) (dsD (WL L) (tabK (lW L deed)))), z3, z4, .sh (rowD r)]) (fe := eVar 5) (ff := eC (.tup [.int 0, .int 1])) rfl rfl rfl
    rw [tab_get] at g
    exact g
  have i1 : iSeq (eCall F_rows_of (aCons (eBin D.ix (bVar 0) (eC (.int 0))) aNil)) [.sh (lotsD L), .sh (evD deed), .ow (.dn true (ksD rowD (tabK (lW L deed))) (dsD (WL L) (tabK (lW L deed)))), z3, z4, z5] S = some ((rowsM [[]] (szL L)).map rowD, S) :=
    iSeq_of (eCall_of (S1 := S) (aCons_of (eBin_of (S1 := S) (S2 := S) (d1 := lotsD L) (d2 := .int 0) rfl rfl (at0 _ _)) rfl) ro) rfl
  have lc := eLc_of (vs := [5]) i1 c
  have x0 : eBin D.ix (bVar 0) (eC (.int 0)) [.sh (lotsD L), .sh (evD deed), .ow (.dn true (ksD rowD (tabK (lW L deed))) (dsD (WL L) (tabK (lW L deed)))), z3, z4, z5] S = some (szD (szL L), S) := eBin_of (S1 := S) (S2 := S) (d1 := lotsD L) (d2 := .int 0) rfl rfl (at0 _ _)
  unfold F_done_world b_done_world
  refine fnD_rt (S' := S) ?_ rfl
  refine sSeq_of (S1 := S) (ρ' := [.sh (lotsD L), .sh (evD deed), .ow (.dn true (ksD rowD (tabK ([] : List (List Int × Int)))) (dsD (WL L) (tabK ([] : List (List Int × Int))))), .un, .un, .un]) rfl ?_
  refine sSeq_of (sFor_of (S1 := S) (iSeq_of (S1 := S) (eCall_of (S1 := S) rfl dr) rfl) l) ?_
  refine sRet_of ?_
  exact pair_s x0 (eCB_of (aCons_of lc rfl) rfl)
/-! the law's world -/
def lwB : Stm := (sMut gAppend 3 (aCons (eCall F__law_total (aCons (eLc (iSeq (bVar 2)) (gTp 2 (gsCons (gNm 7) (gsCons (gNm 6) gsNil))) (tBl (eBin D.eq (bVar 7) (bVar 4))) (eVar 6) [7, 6]) aNil)) aNil))
def rwD (W : Int) (p : List Int × Int) : D := .tup [rowD p.1, frD (nf p.2 W)]
theorem lW_ok (h : LotsOk L) (deed : Ev) : ∀ p ∈ lW L deed, 0 ≤ p.2 ∧ p.2.natAbs < 2 ^ 10 := fun p hp => by
  unfold lW at hp
  obtain ⟨q, hq, rfl⟩ := List.mem_map.mp hp
  obtain ⟨_, _, a1, a2⟩ := h.drawn q hq
  exact ⟨Int.le_of_lt a1, a2⟩
theorem ws_filter {κ : Type} {l : List (κ × Int)} (hl : l.length ≤ 1000) (ho : ∀ p ∈ l, 0 ≤ p.2 ∧ p.2.natAbs < 2 ^ 10) (q : κ × Int → Bool) : WsOk ((l.filter q).map (·.2)) := by
  refine ⟨by rw [List.length_map]; exact Nat.le_trans (List.length_filter_le _ _) hl, fun w hw => ?_⟩
  obtain ⟨p, hp, rfl⟩ := List.mem_map.mp hw
  exact ⟨(ho p (List.mem_filter.mp hp).1).1, bd_mono (ho p (List.mem_filter.mp hp).1).2 (by decide)⟩
theorem lw_step (h : LotsOk L) (deed : Ev) (S : Sto) (a b z5 z6 z7 : Sl) (r : List Int) (xs : List D) (hx : xs.length ≤ 100000) :
    lwB [a, b, .sh (.lst ((lW L deed).map (rwD (WL L)))), .ow (.lst xs), .sh (rowD r), z5, z6, z7] S = some (.nx [a, b, .sh (.lst ((lW L deed).map (rwD (WL L)))), .ow (.lst (xs ++ [frD (nf (sumK (fun j => decide (j = r)) (lW L deed)) (WL L))])), .sh (rowD r), z5, z6, z7] S) := by
  obtain ⟨hW, hW2⟩ := h.WL
  have c := compF_map (g := gTp 2 (gsCons (gNm 7) (gsCons (gNm 6) gsNil))) (tt := tBl (eBin D.eq (bVar 7) (bVar 4))) (te := eVar 6) (ρ := [a, b, .sh (.lst ((lW L deed).map (rwD (WL L)))), .ow (.lst xs), .sh (rowD r), z5, .un, .un]) (S := S) (rwD (WL L)) (fun p => decide (p.1 = r)) (fun p => frD (nf p.2 (WL L))) (lW L deed) fun p hp =>
    ⟨[a, b, .sh (.lst ((lW L deed).map (rwD (WL L)))), .ow (.lst xs), .sh (rowD r), z5, .sh (frD (nf p.2 (WL L))), .sh (rowD p.1)], rfl, tBl_of (eBin_of (S1 := S) (S2 := S) rfl rfl (eq_row _ _)), fun _ => rfl⟩
  have lc := eLc_of (vs := [7, 6]) (it := iSeq (bVar 2)) (ρ := [a, b, .sh (.lst ((lW L deed).map (rwD (WL L)))), .ow (.lst xs), .sh (rowD r), z5, z6, z7]) (S := S) rfl c
  have ok := ws_filter (lW_len h deed) (lW_ok h deed) (fun p => decide (p.1 = r))
  have tt := (total_w hW hW2 ok (.lst (((lW L deed).filter fun p => decide (p.1 = r)).map fun p => frD (nf p.2 (WL L)))) (by rw [List.map_map]; rfl) S).1
  rw [sumK_filter (fun j => decide (j = r))] at tt
  unfold lwB
  exact sMut_of (c := .lst xs) (S1 := S) rfl (aCons_of (eCall_of (aCons_of lc rfl) tt) rfl) (app_d hx)
theorem lw_loop (h : LotsOk L) (deed : Ev) (S : Sto) (a b z5 z6 z7 : Sl) : ∀ (rs : List (List Int)) (xs : List D) (z4 : Sl), xs.length + rs.length ≤ 100000 →
    ∃ z4', forF (gNm 4) lwB (rs.map rowD) [a, b, .sh (.lst ((lW L deed).map (rwD (WL L)))), .ow (.lst xs), z4, z5, z6, z7] S = some (.nx [a, b, .sh (.lst ((lW L deed).map (rwD (WL L)))), .ow (.lst (xs ++ rs.map fun r => frD (nf (sumK (fun j => decide (j = r)) (lW L deed)) (WL L)))), z4', z5, z6, z7] S)
  | [], xs, z4, _ => ⟨z4, by simp only [List.map_nil, List.append_nil]; rfl⟩
  | r :: rs, xs, z4, hl => by
    rw [List.length_cons] at hl
    obtain ⟨z4', ih⟩ := lw_loop h deed S a b z5 z6 z7 rs (xs ++ [frD (nf (sumK (fun j => decide (j = r)) (lW L deed)) (WL L))]) (.sh (rowD r)) (by rw [List.length_append, List.length_singleton]; omega)
    refine ⟨z4', ?_⟩
    have f1 := forF_step (g := gNm 4) (b := lwB) (x := rowD r) (xs := rs.map rowD) (ρ := [a, b, .sh (.lst ((lW L deed).map (rwD (WL L)))), .ow (.lst xs), z4, z5, z6, z7]) (ρ1 := [a, b, .sh (.lst ((lW L deed).map (rwD (WL L)))), .ow (.lst xs), .sh (rowD r), z5, z6, z7]) rfl (lw_step h deed S a b z5 z6 z7 r xs (by omega))
    rw [List.append_assoc] at ih
    exact f1.trans ih
theorem law_world_s (h : LotsOk L) {deed : Ev} (hd : DeedS L deed) (S : Sto) : F__law_world [lotsD L, evD deed] S = some (wDa L deed, S) := by
  have hs : SzOk (szL L) := h.szOk
  have rl := rowsM_len h.smallS
  have dr := law_drawn_s h S
  have c := compF_all (g := gTp 2 (gsCons (gNm 5) (gsCons (gNm 6) gsNil))) (te := eTup (aCons (eCall F__law_run (aCons (eVar 5) (aCons (eVar 1) aNil))) (aCons (eVar 6) aNil))) (ρ := [.sh (lotsD L), .sh (evD deed), .un, .un, .un, .un, .un, .un]) (S := S) (drD L) (fun p => rwD (WL L) (runF (szL L) deed p.1 [], p.2)) (drawnM L) fun p hp => by
    obtain ⟨o1, o2, o3, o4⟩ := h.drawn p hp
    refine ⟨[.sh (lotsD L), .sh (evD deed), .un, .un, .un, .sh (fD (szL L) p.1), .sh (frD (nf p.2 (WL L))), .un], rfl, ?_⟩
    exact pair_s (S1 := S) (S2 := S) (eCall_of (S1 := S) rfl (law_run_s (deed := deed) S hs hd o1 o2)) rfl
  have lc := eLc_of (vs := [5, 6]) (it := iSeq (eCall F__law_drawn (aCons (eVar 0) aNil))) (ρ := [.sh (lotsD L), .sh (evD deed), .un, .un, .un, .un, .un, .un]) (S := S) (iSeq_of (S1 := S) (eCall_of (S1 := S) rfl dr) rfl) c
  have e1 : ((drawnM L).map fun p => rwD (WL L) (runF (szL L) deed p.1 [], p.2)) = (lW L deed).map (rwD (WL L)) := by unfold lW; rw [List.map_map]; rfl
  rw [e1] at lc
  obtain ⟨z4, l⟩ := lw_loop h deed S (.sh (lotsD L)) (.sh (evD deed)) .un .un .un (rowsM [[]] (szL L)) [] .un (by rw [List.length_nil]; omega)
  have ro := law_values_s (szD (szL L)) _ S rfl h.smallS
  unfold F__law_world b__law_world
  refine fnD_rt (S' := S) ?_ rfl
  refine sSeq_of (S1 := S) (ρ' := [.sh (lotsD L), .sh (evD deed), .sh (.lst ((lW L deed).map (rwD (WL L)))), .un, .un, .un, .un, .un]) (sAsg_of lc rfl) ?_
  refine sSeq_of (S1 := S) (ρ' := [.sh (lotsD L), .sh (evD deed), .sh (.lst ((lW L deed).map (rwD (WL L)))), .ow (.lst []), .un, .un, .un, .un]) rfl ?_
  refine sSeq_of (sFor_of (S1 := S) (iSeq_of (S1 := S) (eCall_of (S1 := S) (aCons_of (eBin_of (S1 := S) (S2 := S) (d1 := lotsD L) (d2 := .int 0) rfl rfl (at0 _ _)) rfl) ro) rfl) l) ?_
  refine sFz_of rfl ?_
  refine sRet_of ?_
  exact pair_s (S1 := S) (S2 := S) (eBin_of (S1 := S) (S2 := S) (d1 := lotsD L) (d2 := .int 0) rfl rfl (at0 _ _)) rfl
end
end W17

set_option Elab.async false
set_option linter.all false
set_option maxRecDepth 100000
namespace DL
open PySem (PyData)
open PySem.W (alike alikeAll dataLt keyToksAll dataLt_all_yes dataLt_all_no)
theorem alike_ints : ∀ a b : List Int, alikeAll (D.toPs (a.map D.int)) (D.toPs (b.map D.int)) = true
  | [], [] => by simp [D.toPs, alikeAll]
  | [], _ :: _ => by simp [D.toPs, alikeAll]
  | _ :: _, [] => by simp [D.toPs, alikeAll]
  | x :: a, y :: b => by
    rw [List.map_cons, List.map_cons]
    simp only [D.toPs, D.toP, alikeAll, alike, alike_ints a b, Bool.and_self]
theorem alike_row (a b : List Int) : alike (rowD a).toP (rowD b).toP = true := by
  unfold rowD
  simp only [D.toP, alike, alike_ints]
theorem fit_row (n : Nat) (hn : 0 < n) (a : List Int) : (rowD a).fit n = true := by
  obtain ⟨m, rfl⟩ : ∃ m, n = m + 1 := ⟨n - 1, by omega⟩
  unfold rowD
  simp only [D.fit, fits_ints]
def triD (W : Int) (p : (List Int × List Int) × Int) : D := .tup [rowD p.1.1, rowD p.1.2, frD (nf p.2 W)]
theorem fr_row (p : Int × Int) : frD p = rowD [p.1, p.2] := rfl
theorem canSort_pr (T : List ((List Int × List Int) × Int)) : canSort (ksD prD T) = true := by
  unfold canSort ksD
  simp only [List.all_map, Bool.and_eq_true, Bool.or_eq_true, List.all_eq_true, Function.comp]
  refine ⟨⟨fun x _ => ?_, fun x _ y _ => ?_⟩, .inl fun x _ => rfl⟩
  · unfold prD
    simp only [D.fit, D.fits, fit_row 39 (by decide), Bool.and_self]
  · unfold prD
    simp only [D.toP, D.toPs, alike, alikeAll, alike_row, Bool.and_self]
theorem canSort_triD (W : Int) (T : List ((List Int × List Int) × Int)) : canSort (T.map (triD W)) = true := by
  unfold canSort
  simp only [List.all_map, Bool.and_eq_true, Bool.or_eq_true, List.all_eq_true, Function.comp]
  refine ⟨⟨fun x _ => ?_, fun x _ y _ => ?_⟩, .inl fun x _ => rfl⟩
  · unfold triD
    simp only [fr_row, D.fit, D.fits, fit_row 39 (by decide), Bool.and_self]
  · unfold triD
    simp only [fr_row, D.toP, D.toPs, alike, alikeAll, alike_row, Bool.and_self]
theorem eqv_row (a b : List Int) : PyData.eqv (rowD a).toP (rowD b).toP = decide (a = b) := by
  unfold rowD
  simp only [D.toP, PyData.eqv, eqv_ints]
theorem le_same (d : D) (h : alike d.toP d.toP = true) : D.le' d d = true := by
  unfold D.le' dataLt
  rw [PyProof.Rows.lex_irrefl]; rfl
/-- the share behind a pair does not change the order -/
theorem le_pair (W : Int) (p q : (List Int × List Int) × Int) (h : p.1 = q.1 → p = q) : D.le' (prD p.1) (prD q.1) = D.le' (triD W p) (triD W q) := by
  by_cases c : p.1 = q.1
  · have e := h c
    subst e
    have h1 : D.le' (prD p.1) (prD p.1) = true := by unfold D.le' dataLt; rw [PyProof.Rows.lex_irrefl]; rfl
    have h2 : D.le' (triD W p) (triD W p) = true := by unfold D.le' dataLt; rw [PyProof.Rows.lex_irrefl]; rfl
    rw [h1, h2]
  · unfold D.le' dataLt prD triD
    simp only [D.toP, D.toPs, PySem.W.keyToks]
    congr 1
    by_cases c1 : q.1.1 = p.1.1
    · have e1 : PyData.eqv (rowD q.1.1).toP (rowD p.1.1).toP = true := by rw [eqv_row]; exact decide_eq_true c1
      rw [dataLt_all_yes (alike_row _ _) e1, dataLt_all_yes (alike_row _ _) e1]
      have c2 : ¬ q.1.2 = p.1.2 := fun z => c (by
        cases hp : p.1; cases hq : q.1
        rw [hp, hq] at c1 z
        simp only at c1 z
        rw [c1, z])
      have e2 : PyData.eqv (rowD q.1.2).toP (rowD p.1.2).toP = false := by rw [eqv_row]; exact decide_eq_false c2
      rw [dataLt_all_no (alike_row _ _) e2, dataLt_all_no (alike_row _ _) e2]
    · have e1 : PyData.eqv (rowD q.1.1).toP (rowD p.1.1).toP = false := by rw [eqv_row]; exact decide_eq_false c1
      rw [dataLt_all_no (alike_row _ _) e1, dataLt_all_no (alike_row _ _) e1]
def sortT (T : List ((List Int × List Int) × Int)) : List ((List Int × List Int) × Int) := T.mergeSort fun p q => D.le' (prD p.1) (prD q.1)
theorem sortT_perm (T : List ((List Int × List Int) × Int)) : (sortT T).Perm T := List.mergeSort_perm _ _
theorem sort_ks (T : List ((List Int × List Int) × Int)) : (ksD prD T).mergeSort D.le' = (sortT T).map fun p => prD p.1 := by
  unfold ksD sortT
  rw [List.map_mergeSort (s := D.le') (fun a _ b _ => rfl)]
theorem sort_triD (W : Int) {T : List ((List Int × List Int) × Int)} (nd : (T.map (·.1)).Nodup) : (T.map (triD W)).mergeSort D.le' = (sortT T).map (triD W) := by
  unfold sortT
  rw [List.map_mergeSort (s := D.le') (fun a ha b hb => le_pair W a b fun e => ?_)]
  have h1 := dget_nodup nd ha
  have h2 := dget_nodup nd hb
  rw [e, h2] at h1
  have := Option.some.inj h1
  cases a; cases b
  simp only at e this
  rw [e, this]
end DL
namespace W17
open DL
open L2 (atI atI_nat ixN)
abbrev PK := List Int × List Int
/-- both rows, with their weights -/
def lP (L : Lots) (deed : Ev) : List (PK × Int) := (drawnM L).map fun p => ((runF (szL L) [] p.1 [], runF (szL L) deed p.1 []), p.2)
section
variable {L : Lots}
theorem lP_len (h : LotsOk L) (deed : Ev) : (lP L deed).length ≤ 1000 := by unfold lP; rw [List.length_map]; exact drawn_len h
theorem lP_ok (h : LotsOk L) (deed : Ev) : ∀ p ∈ lP L deed, 0 ≤ p.2 ∧ p.2.natAbs < 2 ^ 10 := fun p hp => by
  unfold lP at hp
  obtain ⟨q, hq, rfl⟩ := List.mem_map.mp hp
  obtain ⟨_, _, a1, a2⟩ := h.drawn q hq
  exact ⟨Int.le_of_lt a1, a2⟩
theorem deed0 (L : Lots) : DeedS L [] := fun p hp => nomatch hp
def twB : Stm := (sSeq (sAsg (eTup (aCons (eCall F_values (aCons (eVar 3) (aCons (eTup aNil) aNil))) (aCons (eCall F_values (aCons (eVar 3) (aCons (eVar 1) aNil))) aNil))) (gNm 5))
    (sDnPut 2 (eCall F_plus (aCons (eDnGet2 2 (eVar 5) (eC (.tup [.int 0, .int 1]))) (aCons (eVar 4) aNil))) (eVar 5)))
theorem tw_loop (h : LotsOk L) {deed : Ev} (hd : DeedS L deed) (S : Sto) (a : Sl) : ∀ (suf pre : List (List Ru × Int)) (z3 z4 z5 : Sl), drawnM L = pre ++ suf →
    ∃ z3' z4' z5', forF (gTp 2 (gsCons (gNm 3) (gsCons (gNm 4) gsNil))) twB (suf.map (drD L)) [a, .sh (evD deed), .ow (.dn true (ksD prD (tabK (pre.map fun p => ((runF (szL L) [] p.1 [], runF (szL L) deed p.1 []), p.2)))) (dsD (WL L) (tabK (pre.map fun p => ((runF (szL L) [] p.1 [], runF (szL L) deed p.1 []), p.2))))), z3, z4, z5] S = some (.nx [a, .sh (evD deed), .ow (.dn true (ksD prD (tabK (lP L deed))) (dsD (WL L) (tabK (lP L deed)))), z3', z4', z5'] S)
  | [], pre, z3, z4, z5, e => by
    rw [List.append_nil] at e
    unfold lP
    rw [e]
    exact ⟨z3, z4, z5, rfl⟩
  | p :: suf, pre, z3, z4, z5, e => by
    obtain ⟨hW, hW2⟩ := h.WL
    have hp : p ∈ drawnM L := by rw [e]; simp
    obtain ⟨o1, o2, o3, o4⟩ := h.drawn p hp
    have hs : SzOk (szL L) := h.szOk
    have vs0 := values_s (deed := []) S hs (deed0 L) o1 o2
    have vs := values_s (deed := deed) S hs hd o1 o2
    have hl : ∀ q ∈ pre.map fun p => ((runF (szL L) [] p.1 [], runF (szL L) deed p.1 []), p.2), 0 ≤ q.2 ∧ q.2.natAbs < 2 ^ 10 := fun q hq => by
      obtain ⟨q', hq', rfl⟩ := List.mem_map.mp hq
      obtain ⟨_, _, a1, a2⟩ := h.drawn q' (by rw [e]; exact List.mem_append_left _ hq')
      exact ⟨Int.le_of_lt a1, a2⟩
    have hz : (pre.map fun p => ((runF (szL L) [] p.1 [], runF (szL L) deed p.1 []), p.2)).length ≤ 1000 := by
      rw [List.length_map]
      have := drawn_len h
      rw [e, List.length_append] at this
      omega
    obtain ⟨b1, b2⟩ := add_of encP hW hW2 (k := (runF (szL L) [] p.1 [], runF (szL L) deed p.1 [])) (w := p.2) hl hz ⟨Int.le_of_lt o3, o4⟩
    generalize hT : pre.map (fun p => ((runF (szL L) [] p.1 [], runF (szL L) deed p.1 []), p.2)) = T at *
    obtain ⟨z3', z4', z5', ih⟩ := tw_loop h hd S a suf (pre ++ [p]) (.sh (fD (szL L) p.1)) (.sh (frD (nf p.2 (WL L)))) (.sh (prD (runF (szL L) [] p.1 [], runF (szL L) deed p.1 []))) (by rw [e, List.append_assoc]; rfl)
    rw [List.map_append, hT] at ih
    rw [show ([p].map fun p => ((runF (szL L) [] p.1 [], runF (szL L) deed p.1 []), p.2)) = [((runF (szL L) [] p.1 [], runF (szL L) deed p.1 []), p.2)] from rfl, tab_snoc] at ih
    have tp : eTup (aCons (eCall F_values (aCons (eVar 3) (aCons (eTup aNil) aNil))) (aCons (eCall F_values (aCons (eVar 3) (aCons (eVar 1) aNil))) aNil)) [a, .sh (evD deed), .ow (.dn true (ksD prD (tabK T)) (dsD (WL L) (tabK T))), .sh (fD (szL L) p.1), .sh (frD (nf p.2 (WL L))), z5] S = some (prD (runF (szL L) [] p.1 [], runF (szL L) deed p.1 []), S) :=
      pair_s (S1 := S) (S2 := S) (eCall_of (ds := [fD (szL L) p.1, evD []]) (S1 := S) (aCons_of (S1 := S) rfl (aCons_of (S1 := S) (eTup_of (ds := []) rfl (Nat.zero_le _)) rfl)) vs0) (eCall_of (S1 := S) rfl vs)
    generalize hr : (runF (szL L) [] p.1 [], runF (szL L) deed p.1 []) = r at *
    refine ⟨z3', z4', z5', ?_⟩
    have ps := plus_s S (frb hW hW2 b2 (by decide)) (frb hW hW2 o4 (Nat.le_refl _)) (by decide)
    rw [plF_same _ _ hW] at ps
    have g := get2_of (S1 := S) (S2 := S) encP hW (l := tabK T) (k := r) (i := 2) (ρ := [a, .sh (evD deed), .ow (.dn true (ksD prD (tabK T)) (dsD (WL L) (tabK T))), .sh (fD (szL L) p.1), .sh (frD (nf p.2 (WL L))), .sh (prD r)]) (fe := eVar 5) (ff := eC (.tup [.int 0, .int 1])) rfl rfl rfl
    have pt := put_of (S1 := S) (S2 := S) encP (W := WL L) (l := tabK T) (k := r) (x := (dget (tabK T) r).getD 0 + p.2) (i := 2) (ρ := [a, .sh (evD deed), .ow (.dn true (ksD prD (tabK T)) (dsD (WL L) (tabK T))), .sh (fD (szL L) p.1), .sh (frD (nf p.2 (WL L))), .sh (prD r)]) (f := eCall F_plus (aCons (eDnGet2 2 (eVar 5) (eC (.tup [.int 0, .int 1]))) (aCons (eVar 4) aNil))) (fi := eVar 5) rfl (eCall_of (aCons_of g (aCons_of (S1 := S) rfl rfl)) ps) rfl (by have := tab_len T; omega)
    have st : twB [a, .sh (evD deed), .ow (.dn true (ksD prD (tabK T)) (dsD (WL L) (tabK T))), .sh (fD (szL L) p.1), .sh (frD (nf p.2 (WL L))), z5] S = some (.nx [a, .sh (evD deed), .ow (.dn true (ksD prD (dadd (tabK T) r p.2)) (dsD (WL L) (dadd (tabK T) r p.2))), .sh (fD (szL L) p.1), .sh (frD (nf p.2 (WL L))), .sh (prD r)] S) := by
      unfold twB
      exact sSeq_of (S1 := S) (sAsg_of tp rfl) pt
    have f1 := forF_step (g := gTp 2 (gsCons (gNm 3) (gsCons (gNm 4) gsNil))) (b := twB) (x := drD L p) (xs := suf.map (drD L)) (ρ := [a, .sh (evD deed), .ow (.dn true (ksD prD (tabK T)) (dsD (WL L) (tabK T))), z3, z4, z5]) (ρ1 := [a, .sh (evD deed), .ow (.dn true (ksD prD (tabK T)) (dsD (WL L) (tabK T))), .sh (fD (szL L) p.1), .sh (frD (nf p.2 (WL L))), z5]) rfl st
    exact f1.trans ih
theorem ix_of {κ : Type} [DecidableEq κ] {enc : κ → D} {nkOf : κ → PySem.NestedKey} (E : KEnc enc nkOf) {W x : Int} {l : List (κ × Int)} {i : Nat} {k : κ} {ρ : Rho} {S S1 : Sto} {fe : Ex} (h0 : ρ[i]? = some (.ow (.dn true (ksD enc l) (dsD W l)))) (h1 : fe ρ S = some (enc k, S1)) (hg : dget l k = some x) : eDnIx i fe ρ S = some (frD (nf x W), S1) := by
  unfold eDnIx
  rw [h0]
  show (fe ρ S).bind _ = _
  rw [h1, Option.bind_some, E.ok, Option.bind_some, find_enc E, hg]
  rfl
theorem add3 (W : Int) (p : PK × Int) : D.add (prD p.1) (.tup [frD (nf p.2 W)]) = some (triD W p) := add_tup (by show 3 ≤ PySem.sizeLine; decide)
def twDa (L : Lots) (deed : Ev) : List (PK × Int) := sortT (tabK (lP L deed))
theorem tw_get {L : Lots} {deed : Ev} {p : PK × Int} (hp : p ∈ twDa L deed) : dget (tabK (lP L deed)) p.1 = some p.2 := dget_nodup (tab_nodup _) ((sortT_perm _).mem_iff.mp hp)
theorem twins_s (h : LotsOk L) {deed : Ev} (hd : DeedS L deed) (S : Sto) : F_twins [lotsD L, evD deed] S = some (.tup ((twDa L deed).map (triD (WL L))), S) := by
  obtain ⟨z3, z4, z5, l⟩ := tw_loop h hd S (.sh (lotsD L)) (drawnM L) [] .un .un .un rfl
  have dr := drawn_s h S
  have tl := tab_len (lP L deed)
  have ll := lP_len h deed
  have so : eDnSort 2 [.sh (lotsD L), .sh (evD deed), .ow (.dn true (ksD prD (tabK (lP L deed))) (dsD (WL L) (tabK (lP L deed)))), z3, z4, z5] S = some (.lst ((twDa L deed).map fun p => prD p.1), S) := by
    have cs : canSort (ksD prD (tabK (lP L deed))) = true ∧ (ksD prD (tabK (lP L deed))).length ≤ PySem.sizeLine := ⟨canSort_pr _, szle (by unfold ksD; rw [List.length_map]; omega)⟩
    show (if _ then _ else _) = _
    rw [if_pos cs, sort_ks]
    rfl
  have c := compF_all (g := gNm 5) (te := eBin D.add (bVar 5) (eTup (aCons (eDnIx 2 (eVar 5)) aNil))) (ρ := [.sh (lotsD L), .sh (evD deed), .ow (.dn true (ksD prD (tabK (lP L deed))) (dsD (WL L) (tabK (lP L deed)))), z3, z4, .un]) (S := S) (fun p : PK × Int => prD p.1) (triD (WL L)) (twDa L deed) fun p hp =>
    ⟨[.sh (lotsD L), .sh (evD deed), .ow (.dn true (ksD prD (tabK (lP L deed))) (dsD (WL L) (tabK (lP L deed)))), z3, z4, .sh (prD p.1)], rfl, eBin_of (S1 := S) (S2 := S) rfl (tup1 (ix_of encP (W := WL L) (l := tabK (lP L deed)) (k := p.1) (S1 := S) rfl rfl (tw_get hp))) (add3 _ _)⟩
  have lc := eLc_of (vs := [5]) (iSeq_of so rfl) c
  unfold F_twins b_twins
  refine fnD_rt (S' := S) ?_ rfl
  refine sSeq_of (S1 := S) (ρ' := [.sh (lotsD L), .sh (evD deed), .ow (.dn true (ksD prD (tabK ([] : List (PK × Int)))) (dsD (WL L) (tabK ([] : List (PK × Int))))), .un, .un, .un]) rfl ?_
  refine sSeq_of (sFor_of (S1 := S) (iSeq_of (S1 := S) (eCall_of (S1 := S) rfl dr) rfl) l) ?_
  refine sRet_of ?_
  exact eCB_of (aCons_of lc rfl) rfl
theorem law_pairs_s (h : LotsOk L) {deed : Ev} (hd : DeedS L deed) (S : Sto) : F__law_pairs [lotsD L, evD deed] S = some (.lst ((lP L deed).map (triD (WL L))), S) := by
  have hs : SzOk (szL L) := h.szOk
  have dr := law_drawn_s h S
  have c := compF_all (g := gTp 2 (gsCons (gNm 2) (gsCons (gNm 3) gsNil))) (te := eTup (aCons (eCall F__law_run (aCons (eVar 2) (aCons (eTup aNil) aNil))) (aCons (eCall F__law_run (aCons (eVar 2) (aCons (eVar 1) aNil))) (aCons (eVar 3) aNil)))) (ρ := [.sh (lotsD L), .sh (evD deed), .un, .un]) (S := S) (drD L) (fun p => triD (WL L) ((runF (szL L) [] p.1 [], runF (szL L) deed p.1 []), p.2)) (drawnM L) fun p hp => by
    obtain ⟨o1, o2, o3, o4⟩ := h.drawn p hp
    refine ⟨[.sh (lotsD L), .sh (evD deed), .sh (fD (szL L) p.1), .sh (frD (nf p.2 (WL L)))], rfl, ?_⟩
    exact eTup_of (ds := [rowD (runF (szL L) [] p.1 []), rowD (runF (szL L) deed p.1 []), frD (nf p.2 (WL L))]) (S1 := S) (aCons_of (S1 := S) (eCall_of (ds := [fD (szL L) p.1, evD []]) (S1 := S) (aCons_of (S1 := S) rfl (aCons_of (S1 := S) (eTup_of (ds := []) rfl (Nat.zero_le _)) rfl)) (law_run_s (deed := []) S hs (deed0 L) o1 o2)) (aCons_of (S1 := S) (eCall_of (S1 := S) rfl (law_run_s (deed := deed) S hs hd o1 o2)) rfl)) (by show 3 ≤ PySem.sizeLine; decide)
  have lc := eLc_of (vs := [2, 3]) (it := iSeq (eCall F__law_drawn (aCons (eVar 0) aNil))) (ρ := [.sh (lotsD L), .sh (evD deed), .un, .un]) (S := S) (iSeq_of (S1 := S) (eCall_of (S1 := S) rfl dr) rfl) c
  have e1 : ((drawnM L).map fun p => triD (WL L) ((runF (szL L) [] p.1 [], runF (szL L) deed p.1 []), p.2)) = (lP L deed).map (triD (WL L)) := by unfold lP; rw [List.map_map]; rfl
  rw [e1] at lc
  unfold F__law_pairs b__law_pairs
  exact fnD_rt (S' := S) (sRet_of lc) rfl
end
end W17

set_option Elab.async false
set_option linter.all false
set_option maxRecDepth 100000
namespace DL
section
variable {κ : Type} [DecidableEq κ]
theorem dset_key_mem {l : List (κ × Int)} {k : κ} {x : Int} {p : κ × Int} (h : p ∈ dset l k x) : p.1 = k ∨ ∃ q ∈ l, q.1 = p.1 := by
  unfold dset at h
  split at h
  · obtain ⟨q, hq, rfl⟩ := List.mem_map.mp h
    by_cases c : q.1 = k
    · rw [if_pos c]; exact .inl c
    · rw [if_neg c]; exact .inr ⟨q, hq, rfl⟩
  · rcases List.mem_append.mp h with h | h
    · exact .inr ⟨p, h, rfl⟩
    · rw [List.mem_singleton.mp h]; exact .inl rfl
theorem tab_key {l : List (κ × Int)} {p : κ × Int} (h : p ∈ tabK l) : ∃ q ∈ l, q.1 = p.1 := by
  have key : ∀ (l acc : List (κ × Int)) (p : κ × Int), p ∈ l.foldl (fun a p => dadd a p.1 p.2) acc → (∃ q ∈ acc, q.1 = p.1) ∨ ∃ q ∈ l, q.1 = p.1 := by
    intro l
    induction l with
    | nil => intro acc p h; exact .inl ⟨p, h, rfl⟩
    | cons r l ih =>
      intro acc p h
      rcases ih _ p h with ⟨q, hq, e⟩ | ⟨q, hq, e⟩
      · rcases dset_key_mem hq with e1 | ⟨q', hq', e1⟩
        · exact .inr ⟨r, .head _, by rw [← e, e1]⟩
        · exact .inl ⟨q', hq', e1.trans e⟩
      · exact .inr ⟨q, .tail _ hq, e⟩
  rcases key l [] p h with ⟨q, hq, _⟩ | h
  · cases hq
  · exact h
theorem sumK_le (q q' : κ → Bool) (hq : ∀ k, q k = true → q' k = true) : ∀ {l : List (κ × Int)}, (∀ p ∈ l, 0 ≤ p.2) → sumK q l ≤ sumK q' l
  | [], _ => Int.le_refl _
  | p :: l, h => by
    have h0 := h p (.head _)
    have ih := sumK_le q q' hq (l := l) fun r hr => h r (.tail _ hr)
    show (if q p.1 = true then p.2 else 0) + sumK q l ≤ (if q' p.1 = true then p.2 else 0) + sumK q' l
    by_cases c : q p.1 = true
    · rw [if_pos c, if_pos (hq _ c)]; omega
    · rw [if_neg c]; split <;> omega
end
theorem nf_zero_iff {B W : Int} (hW : 0 < W) (hB : 0 ≤ B) : (nf B W).1 = 0 ↔ B = 0 := by
  have h1 := nf_pos1 hW hB
  have h2 := nf_nn hW hB
  constructor
  · intro h
    by_cases c : 0 < B
    · have := h1.mpr c; omega
    · omega
  · intro h; subst h; rw [nf_zero hW]
theorem over_nf {A B W : Int} (hW : 0 < W) (hB : 0 < B) : nf ((nf A W).1 * (nf B W).2) ((nf A W).2 * (nf B W).1) = nf A B := by
  have ha := nf_cross A W
  have hb := nf_cross B W
  have bpos : 0 < (nf B W).1 := (nf_pos1 hW (Int.le_of_lt hB)).mpr hB
  refine nf_eq (Int.mul_pos (nf_pos hW) bpos) hB ?_
  generalize (nf A W).1 = a1 at *
  generalize (nf A W).2 = a2 at *
  generalize (nf B W).1 = b1 at *
  generalize (nf B W).2 = b2 at *
  have e : (a1 * b2 * B) * W = (A * (a2 * b1)) * W := by
    calc (a1 * b2 * B) * W = (a1 * W) * (B * b2) := by simp only [Int.mul_assoc, Int.mul_comm, Int.mul_left_comm]
      _ = (A * a2) * (b1 * W) := by rw [ha, hb]
      _ = (A * (a2 * b1)) * W := by simp only [Int.mul_assoc, Int.mul_comm, Int.mul_left_comm]
  exact Int.eq_of_mul_eq_mul_right (by omega) e
end DL
namespace W17
open DL
open L2 (atI atI_nat ixN)
theorem has_s (r : List Int) (e : Ev) (S : Sto) (h : ∀ p ∈ e, p.1 < r.length) : F__law_has [rowD r, evD e] S = some (.bl (fitsB r e), S) := by
  have c := compF_all (g := gTp 2 (gsCons (gNm 2) (gsCons (gNm 3) gsNil))) (te := eBin D.eq (eBin D.ix (bVar 0) (bVar 2)) (bVar 3)) (ρ := [.sh (rowD r), .sh (evD e), .un, .un]) (S := S) pD (fun p => D.bl (decide (r[p.1]? = some p.2))) e fun p hp => by
    have hl := h p hp
    have a : atI (r.map D.int) ((p.1 : Nat) : Int) = some (.int r[p.1]) := by
      rw [atI_lt (by simpa using hl), List.getElem_map]
    refine ⟨_, by unfold pD; simp only [fnD, fnE, fnOut, rho0, eVar, bVar, Sl.rd, eC, eBin, eTup, eLst, aNil, aCons, eCB, eCall, tTru, tBl, tAn, DL.tOr, tNo, eAn, DL.eOr, eNo, eIf, eIxR, eSl, pNo, pIs, iSeq, iZp, gNm, gTp, gsNil, gsCons, sNx, sBk, sCt, sSeq, Out.seq, sIf, sAsg, sOwn, sPar, sPar3, sRet, sFz, sPub, sDn, sAug, D.iadd, D.imul, sParDF, sParFF, cellOf, iEn, D.isB, D.notB, sSetR, sSetIx, sMut, sDrop, sFor, eLc, tYs, wipeR, D.elems, D.truth, D.add, D.sub, D.mul, D.fdiv, D.mod, D.pow, D.lt, D.le, D.gt, D.ge, D.isN, D.notN, D.ix, D.cat, liftI, Option.bind_some, Option.bind_none, Option.map_some, Option.map_none, List.map_cons, List.map_nil, List.length_cons, List.length_nil, List.cons_append, List.nil_append, List.replicate, List.set_cons_zero, List.set_cons_succ, List.getElem?_cons_zero, List.getElem?_cons_succ, Nat.reduceAdd, Nat.reduceSub, Nat.reduceLeDiff, if_true, if_false, ↓reduceIte, List.isEmpty_nil, List.isEmpty_cons, Bool.not_true, Bool.not_false, Bool.false_eq_true, decide_true, decide_false, decide_eq_true_eq]; rfl, ?_⟩
    unfold rowD
    simp only [fnD, fnE, fnOut, rho0, eVar, bVar, Sl.rd, eC, eBin, eTup, eLst, aNil, aCons, eCB, eCall, tTru, tBl, tAn, DL.tOr, tNo, eAn, DL.eOr, eNo, eIf, eIxR, eSl, pNo, pIs, iSeq, iZp, gNm, gTp, gsNil, gsCons, sNx, sBk, sCt, sSeq, Out.seq, sIf, sAsg, sOwn, sPar, sPar3, sRet, sFz, sPub, sDn, sAug, D.iadd, D.imul, sParDF, sParFF, cellOf, iEn, D.isB, D.notB, sSetR, sSetIx, sMut, sDrop, sFor, eLc, tYs, wipeR, D.elems, D.truth, D.add, D.sub, D.mul, D.fdiv, D.mod, D.pow, D.lt, D.le, D.gt, D.ge, D.isN, D.notN, D.ix, D.cat, liftI, Option.bind_some, Option.bind_none, Option.map_some, Option.map_none, List.map_cons, List.map_nil, List.length_cons, List.length_nil, List.cons_append, List.nil_append, List.replicate, List.set_cons_zero, List.set_cons_succ, List.getElem?_cons_zero, List.getElem?_cons_succ, Nat.reduceAdd, Nat.reduceSub, Nat.reduceLeDiff, if_true, if_false, ↓reduceIte, List.isEmpty_nil, List.isEmpty_cons, Bool.not_true, Bool.not_false, Bool.false_eq_true, decide_true, decide_false, decide_eq_true_eq, a, eq_int]
    rw [List.getElem?_eq_getElem hl]
    congr 3
    simp
  have b := boolsOf_map (e.map fun p => decide (r[p.1]? = some p.2))
  rw [List.map_map] at b
  unfold evD at c
  unfold F__law_has b__law_has evD
  simp only [fnD, fnE, fnOut, rho0, eVar, bVar, Sl.rd, eC, eBin, eTup, eLst, aNil, aCons, eCB, eCall, tTru, tBl, tAn, DL.tOr, tNo, eAn, DL.eOr, eNo, eIf, eIxR, eSl, pNo, pIs, iSeq, iZp, gNm, gTp, gsNil, gsCons, sNx, sBk, sCt, sSeq, Out.seq, sIf, sAsg, sOwn, sPar, sPar3, sRet, sFz, sPub, sDn, sAug, D.iadd, D.imul, sParDF, sParFF, cellOf, iEn, D.isB, D.notB, sSetR, sSetIx, sMut, sDrop, sFor, eLc, tYs, wipeR, D.elems, D.truth, D.add, D.sub, D.mul, D.fdiv, D.mod, D.pow, D.lt, D.le, D.gt, D.ge, D.isN, D.notN, D.ix, D.cat, liftI, Option.bind_some, Option.bind_none, Option.map_some, Option.map_none, List.map_cons, List.map_nil, List.length_cons, List.length_nil, List.cons_append, List.nil_append, List.replicate, List.set_cons_zero, List.set_cons_succ, List.getElem?_cons_zero, List.getElem?_cons_succ, Nat.reduceAdd, Nat.reduceSub, Nat.reduceLeDiff, if_true, if_false, ↓reduceIte, List.isEmpty_nil, List.isEmpty_cons, Bool.not_true, Bool.not_false, Bool.false_eq_true, decide_true, decide_false, decide_eq_true_eq, c, gAll]
  have b' : boolsOf (e.map fun p => D.bl (decide (r[p.1]? = some p.2))) = some (e.map fun p => decide (r[p.1]? = some p.2)) := b
  simp only [fnD, fnE, fnOut, rho0, eVar, bVar, Sl.rd, eC, eBin, eTup, eLst, aNil, aCons, eCB, eCall, tTru, tBl, tAn, DL.tOr, tNo, eAn, DL.eOr, eNo, eIf, eIxR, eSl, pNo, pIs, iSeq, iZp, gNm, gTp, gsNil, gsCons, sNx, sBk, sCt, sSeq, Out.seq, sIf, sAsg, sOwn, sPar, sPar3, sRet, sFz, sPub, sDn, sAug, D.iadd, D.imul, sParDF, sParFF, cellOf, iEn, D.isB, D.notB, sSetR, sSetIx, sMut, sDrop, sFor, eLc, tYs, wipeR, D.elems, D.truth, D.add, D.sub, D.mul, D.fdiv, D.mod, D.pow, D.lt, D.le, D.gt, D.ge, D.isN, D.notN, D.ix, D.cat, liftI, Option.bind_some, Option.bind_none, Option.map_some, Option.map_none, List.map_cons, List.map_nil, List.length_cons, List.length_nil, List.cons_append, List.nil_append, List.replicate, List.set_cons_zero, List.set_cons_succ, List.getElem?_cons_zero, List.getElem?_cons_succ, Nat.reduceAdd, Nat.reduceSub, Nat.reduceLeDiff, if_true, if_false, ↓reduceIte, List.isEmpty_nil, List.isEmpty_cons, Bool.not_true, Bool.not_false, Bool.false_eq_true, decide_true, decide_false, decide_eq_true_eq, b']
  unfold fitsB
  rw [List.all_map]
  rfl
section
variable {L : Lots}
def EvS (L : Lots) (e : Ev) : Prop := ∀ p ∈ e, p.1 < L.length
def qB (seen : Ev) (k : PK) : Bool := fitsB k.1 seen
def qA (seen event : Ev) (k : PK) : Bool := fitsB k.2 event && fitsB k.1 seen
def woD (L : Lots) (seen deed event : Ev) : D := if sumK (qB seen) (lP L deed) = 0 then .non else frD (nf (sumK (qA seen event) (lP L deed)) (sumK (qB seen) (lP L deed)))
theorem lP_rows (h : LotsOk L) {deed : Ev} (hd : DeedS L deed) : ∀ p ∈ lP L deed, p.1.1.length = L.length ∧ p.1.2.length = L.length := fun p hp => by
  unfold lP at hp
  obtain ⟨q, hq, rfl⟩ := List.mem_map.mp hp
  obtain ⟨o1, o2, _, _⟩ := h.drawn q hq
  have e : (szL L).length = L.length := by unfold szL; rw [List.length_map]
  refine ⟨?_, ?_⟩
  · rw [(runF_ok (deed0 L) (rs := q.1) (row := []) o1 (.nil _)).2, o2, e]; simp
  · rw [(runF_ok hd (rs := q.1) (row := []) o1 (.nil _)).2, o2, e]; simp
theorem tw_rows (h : LotsOk L) {deed : Ev} (hd : DeedS L deed) : ∀ p ∈ twDa L deed, p.1.1.length = L.length ∧ p.1.2.length = L.length := fun p hp => by
  obtain ⟨q, hq, e⟩ := tab_key ((sortT_perm _).mem_iff.mp hp)
  have := lP_rows h hd q hq
  rw [e] at this
  exact this
theorem tw_sum (q : PK → Bool) (deed : Ev) : sumK q (twDa L deed) = sumK q (lP L deed) := (sumK_perm q (sortT_perm _)).trans (tab_sum q _)
theorem lP_bd (h : LotsOk L) (deed : Ev) (q : PK → Bool) : 0 ≤ sumK q (lP L deed) ∧ (sumK q (lP L deed)).natAbs < 2 ^ 21 := by
  obtain ⟨h1, h2⟩ := sumK_bd q (lP_ok h deed)
  refine ⟨h1, Nat.lt_of_le_of_lt h2 ?_⟩
  have : (lP L deed).length * 2 ^ 10 ≤ 1000 * 2 ^ 10 := Nat.mul_le_mul_right _ (lP_len h deed)
  omega
theorem tw_ok (h : LotsOk L) (deed : Ev) : ∀ p ∈ twDa L deed, 0 ≤ p.2 ∧ p.2.natAbs < 2 ^ 21 := fun p hp => by
  rw [tab_val ((sortT_perm _).mem_iff.mp hp)]
  exact lP_bd h deed _
theorem tw_len (h : LotsOk L) (deed : Ev) : (twDa L deed).length ≤ 1000 := by
  unfold twDa
  rw [(sortT_perm _).length_eq]
  exact Nat.le_trans (tab_len _) (lP_len h deed)
theorem ws_of {κ : Type} {l m : List (κ × Int)} (hs : m.Sublist l) (hl : l.length ≤ 1000) (ho : ∀ p ∈ l, 0 ≤ p.2 ∧ p.2.natAbs < 2 ^ 21) : WsOk (m.map (·.2)) := by
  refine ⟨by rw [List.length_map]; exact Nat.le_trans hs.length_le hl, fun w hw => ?_⟩
  obtain ⟨p, hp, rfl⟩ := List.mem_map.mp hw
  exact ho p (hs.subset hp)
theorem tri_ix (W : Int) (p : PK × Int) : D.ix (triD W p) (.int 0) = some (rowD p.1.1) ∧ D.ix (triD W p) (.int 1) = some (rowD p.1.2) ∧ D.ix (triD W p) (.int 2) = some (frD (nf p.2 W)) := ⟨at0 _ _, at1 _ _ _, at2 _ _ _ _⟩
theorem filter2 (q1 q2 : PK → Bool) (l : List (PK × Int)) : (((l.filter fun p => q1 p.1).filter fun p => q2 p.1).map (·.2)).sum = sumK (fun k => q2 k && q1 k) l := by
  rw [List.filter_filter]
  exact sumK_filter (fun k => q2 k && q1 k) l
theorem would_s (h : LotsOk L) {seen deed event : Ev} (hd : DeedS L deed) (h1 : EvS L seen) (h2 : EvS L event) (S : Sto) : F_would [lotsD L, evD seen, evD deed, evD event] S = some (woD L seen deed event, S) := by
  obtain ⟨hW, hW2⟩ := h.WL
  have tw := twins_s h hd S
  have rows := tw_rows h hd
  have c1 := compF_map (g := gNm 6) (tt := tTru (eCall F_fits (aCons (eBin D.ix (bVar 6) (eC (.int 0))) (aCons (eVar 1) aNil)))) (te := eVar 6) (ρ := [.sh (lotsD L), .sh (evD seen), .sh (evD deed), .sh (evD event), .un, .un, .un]) (S := S) (triD (WL L)) (fun p => qB seen p.1) (triD (WL L)) (twDa L deed) fun p hp =>
    ⟨[.sh (lotsD L), .sh (evD seen), .sh (evD deed), .sh (evD event), .un, .un, .sh (triD (WL L) p)], rfl, tTru_of (eCall_of (S1 := S) (aCons_of (S1 := S) (eBin_of (S1 := S) (S2 := S) rfl rfl (tri_ix _ _).1) rfl) (fits_s p.1.1 seen S fun q hq => by rw [(rows p hp).1]; exact h1 q hq)) rfl, fun _ => rfl⟩
  have l1 := eLc_of (vs := [6]) (it := iSeq (eCall F_twins (aCons (eVar 0) (aCons (eVar 2) aNil)))) (ρ := [.sh (lotsD L), .sh (evD seen), .sh (evD deed), .sh (evD event), .un, .un, .un]) (S := S) (iSeq_of (S1 := S) (eCall_of (S1 := S) rfl tw) rfl) c1
  generalize hR : (twDa L deed).filter (fun p => qB seen p.1) = R at *
  have hRs : R.Sublist (twDa L deed) := by rw [← hR]; exact List.filter_sublist
  have sB : (R.map (·.2)).sum = sumK (qB seen) (lP L deed) := by rw [← hR, sumK_filter (qB seen), tw_sum]
  obtain ⟨b1, b2⟩ := lP_bd h deed (qB seen)
  obtain ⟨a1, a2⟩ := lP_bd h deed (qA seen event)
  have c2 := fun (z : Sl) => compF_all (g := gNm 6) (te := eBin D.ix (bVar 6) (eC (.int 2))) (ρ := [.sh (lotsD L), .sh (evD seen), .sh (evD deed), .sh (evD event), .sh (.lst (R.map (triD (WL L)))), z, .un]) (S := S) (triD (WL L)) (fun p => frD (nf p.2 (WL L))) R fun p hp =>
    ⟨[.sh (lotsD L), .sh (evD seen), .sh (evD deed), .sh (evD event), .sh (.lst (R.map (triD (WL L)))), z, .sh (triD (WL L) p)], rfl, eBin_of (S1 := S) (S2 := S) rfl rfl (tri_ix _ _).2.2⟩
  have l2 := eLc_of (vs := [6]) (it := iSeq (bVar 4)) (ρ := [.sh (lotsD L), .sh (evD seen), .sh (evD deed), .sh (evD event), .sh (.lst (R.map (triD (WL L)))), .un, .un]) (S := S) rfl (c2 .un)
  have t2 := (total_w hW hW2 (ws_of hRs (tw_len h deed) (tw_ok h deed)) (.lst (R.map fun p => frD (nf p.2 (WL L)))) (by rw [List.map_map]; rfl) S).2
  rw [sB] at t2
  generalize hB : sumK (qB seen) (lP L deed) = B at *
  have c3 := compF_map (g := gNm 6) (tt := tTru (eCall F_fits (aCons (eBin D.ix (bVar 6) (eC (.int 1))) (aCons (eVar 3) aNil)))) (te := eBin D.ix (bVar 6) (eC (.int 2))) (ρ := [.sh (lotsD L), .sh (evD seen), .sh (evD deed), .sh (evD event), .sh (.lst (R.map (triD (WL L)))), .sh (frD (nf B (WL L))), .un]) (S := S) (triD (WL L)) (fun p => fitsB p.1.2 event) (fun p => frD (nf p.2 (WL L))) R fun p hp =>
    ⟨[.sh (lotsD L), .sh (evD seen), .sh (evD deed), .sh (evD event), .sh (.lst (R.map (triD (WL L)))), .sh (frD (nf B (WL L))), .sh (triD (WL L) p)], rfl, tTru_of (eCall_of (S1 := S) (aCons_of (S1 := S) (eBin_of (S1 := S) (S2 := S) rfl rfl (tri_ix _ _).2.1) rfl) (fits_s p.1.2 event S fun q hq => by rw [(rows p (hRs.subset hp)).2]; exact h2 q hq)) rfl, fun _ => eBin_of (S1 := S) (S2 := S) rfl rfl (tri_ix _ _).2.2⟩
  have l3 := eLc_of (vs := [6]) (it := iSeq (bVar 4)) (ρ := [.sh (lotsD L), .sh (evD seen), .sh (evD deed), .sh (evD event), .sh (.lst (R.map (triD (WL L)))), .sh (frD (nf B (WL L))), .un]) (S := S) rfl c3
  have sA : (((R.filter fun p => fitsB p.1.2 event)).map (·.2)).sum = sumK (qA seen event) (lP L deed) := by
    rw [← hR, filter2 (qB seen) (fun k => fitsB k.2 event), tw_sum]
    rfl
  have t3 := (total_w hW hW2 (ws_of (List.filter_sublist.trans hRs) (tw_len h deed) (tw_ok h deed)) (.lst ((R.filter fun p => fitsB p.1.2 event).map fun p => frD (nf p.2 (WL L)))) (by rw [List.map_map]; rfl) S).2
  rw [sA] at t3
  have tz : tBl (eBin D.eq (eBin D.ix (bVar 5) (eC (.int 0))) (eC (.int 0))) [.sh (lotsD L), .sh (evD seen), .sh (evD deed), .sh (evD event), .sh (.lst (R.map (triD (WL L)))), .sh (frD (nf B (WL L))), .un] S = some (decide ((nf B (WL L)).1 = 0), S) := tBl_of (eBin_of (S1 := S) (S2 := S) (d1 := .int (nf B (WL L)).1) (d2 := .int 0) (eBin_of (S1 := S) (S2 := S) (d2 := .int 0) rfl rfl (at0 _ _)) rfl (eq_int _ _))
  unfold F_would b_would woD
  rw [hB]
  refine fnD_rt (S' := S) ?_ rfl
  refine sSeq_of (sAsg_of l1 rfl) ?_
  refine sSeq_of (sAsg_of (eCall_of (aCons_of l2 rfl) t2) rfl) ?_
  by_cases c : B = 0
  · rw [if_pos c]
    rw [decide_eq_true ((nf_zero_iff hW b1).mpr c)] at tz
    exact sSeq_rt (sIf_t tz (sRet_of rfl))
  · rw [if_neg c]
    rw [decide_eq_false fun z => c ((nf_zero_iff hW b1).mp z)] at tz
    have ov := over_s S (frb hW hW2 a2 (by decide)) (frb hW hW2 b2 (by decide)) ((nf_pos1 hW b1).mpr (by omega)) (by decide)
    rw [over_nf hW (by omega)] at ov
    refine sSeq_of (sIf_f tz rfl) ?_
    refine sRet_of ?_
    exact eCall_of (aCons_of (eCall_of (aCons_of l3 rfl) t3) (aCons_of (S1 := S) rfl rfl)) ov
theorem law_would_s (h : LotsOk L) {seen deed event : Ev} (hd : DeedS L deed) (h1 : EvS L seen) (h2 : EvS L event) (S : Sto) : F__law_would [lotsD L, evD seen, evD deed, evD event] S = some (woD L seen deed event, S) := by
  obtain ⟨hW, hW2⟩ := h.WL
  have tw := law_pairs_s h hd S
  have rows := lP_rows h hd
  have hok : ∀ p ∈ lP L deed, 0 ≤ p.2 ∧ p.2.natAbs < 2 ^ 21 := fun p hp => ⟨(lP_ok h deed p hp).1, bd_mono (lP_ok h deed p hp).2 (by decide)⟩
  have c1 := compF_map (g := gNm 7) (tt := tTru (eCall F__law_has (aCons (eBin D.ix (bVar 7) (eC (.int 0))) (aCons (eVar 1) aNil)))) (te := eVar 7) (ρ := [.sh (lotsD L), .sh (evD seen), .sh (evD deed), .sh (evD event), .un, .un, .un, .un, .un, .un, .un]) (S := S) (triD (WL L)) (fun p => qB seen p.1) (triD (WL L)) (lP L deed) fun p hp =>
    ⟨[.sh (lotsD L), .sh (evD seen), .sh (evD deed), .sh (evD event), .un, .un, .un, .sh (triD (WL L) p), .un, .un, .un], rfl, tTru_of (eCall_of (S1 := S) (aCons_of (S1 := S) (eBin_of (S1 := S) (S2 := S) rfl rfl (tri_ix _ _).1) rfl) (has_s p.1.1 seen S fun q hq => by rw [(rows p hp).1]; exact h1 q hq)) rfl, fun _ => rfl⟩
  have l1 := eLc_of (vs := [7]) (it := iSeq (eCall F__law_pairs (aCons (eVar 0) (aCons (eVar 2) aNil)))) (ρ := [.sh (lotsD L), .sh (evD seen), .sh (evD deed), .sh (evD event), .un, .un, .un, .un, .un, .un, .un]) (S := S) (iSeq_of (S1 := S) (eCall_of (S1 := S) rfl tw) rfl) c1
  generalize hR : (lP L deed).filter (fun p => qB seen p.1) = R at *
  have hRs : R.Sublist (lP L deed) := by rw [← hR]; exact List.filter_sublist
  have sB : (R.map (·.2)).sum = sumK (qB seen) (lP L deed) := by rw [← hR, sumK_filter (qB seen)]
  obtain ⟨b1, b2⟩ := lP_bd h deed (qB seen)
  obtain ⟨a1, a2⟩ := lP_bd h deed (qA seen event)
  have c2 := compF_all (g := gTp 3 (gsCons (gNm 8) (gsCons (gNm 9) (gsCons (gNm 10) gsNil)))) (te := eVar 10) (ρ := [.sh (lotsD L), .sh (evD seen), .sh (evD deed), .sh (evD event), .sh (.lst (R.map (triD (WL L)))), .un, .un, .un, .un, .un, .un]) (S := S) (triD (WL L)) (fun p => frD (nf p.2 (WL L))) R fun p hp =>
    ⟨[.sh (lotsD L), .sh (evD seen), .sh (evD deed), .sh (evD event), .sh (.lst (R.map (triD (WL L)))), .un, .un, .un, .sh (rowD p.1.1), .sh (rowD p.1.2), .sh (frD (nf p.2 (WL L)))], rfl, rfl⟩
  have l2 := eLc_of (vs := [8, 9, 10]) (it := iSeq (bVar 4)) (ρ := [.sh (lotsD L), .sh (evD seen), .sh (evD deed), .sh (evD event), .sh (.lst (R.map (triD (WL L)))), .un, .un, .un, .un, .un, .un]) (S := S) rfl c2
  have t2 := (total_w hW hW2 (ws_of hRs (lP_len h deed) hok) (.lst (R.map fun p => frD (nf p.2 (WL L)))) (by rw [List.map_map]; rfl) S).1
  rw [sB] at t2
  generalize hB : sumK (qB seen) (lP L deed) = B at *
  have c3 := compF_map (g := gTp 3 (gsCons (gNm 8) (gsCons (gNm 9) (gsCons (gNm 10) gsNil)))) (tt := tTru (eCall F__law_has (aCons (eVar 9) (aCons (eVar 3) aNil)))) (te := eVar 10) (ρ := [.sh (lotsD L), .sh (evD seen), .sh (evD deed), .sh (evD event), .sh (.lst (R.map (triD (WL L)))), .sh (frD (nf B (WL L))), .un, .un, .un, .un, .un]) (S := S) (triD (WL L)) (fun p => fitsB p.1.2 event) (fun p => frD (nf p.2 (WL L))) R fun p hp =>
    ⟨[.sh (lotsD L), .sh (evD seen), .sh (evD deed), .sh (evD event), .sh (.lst (R.map (triD (WL L)))), .sh (frD (nf B (WL L))), .un, .un, .sh (rowD p.1.1), .sh (rowD p.1.2), .sh (frD (nf p.2 (WL L)))], rfl, tTru_of (eCall_of (S1 := S) rfl (has_s p.1.2 event S fun q hq => by rw [(rows p (hRs.subset hp)).2]; exact h2 q hq)) rfl, fun _ => rfl⟩
  have l3 := eLc_of (vs := [8, 9, 10]) (it := iSeq (bVar 4)) (ρ := [.sh (lotsD L), .sh (evD seen), .sh (evD deed), .sh (evD event), .sh (.lst (R.map (triD (WL L)))), .sh (frD (nf B (WL L))), .un, .un, .un, .un, .un]) (S := S) rfl c3
  have sA : (((R.filter fun p => fitsB p.1.2 event)).map (·.2)).sum = sumK (qA seen event) (lP L deed) := by
    rw [← hR, filter2 (qB seen) (fun k => fitsB k.2 event)]
    rfl
  have t3 := (total_w hW hW2 (ws_of (List.filter_sublist.trans hRs) (lP_len h deed) hok) (.lst ((R.filter fun p => fitsB p.1.2 event).map fun p => frD (nf p.2 (WL L)))) (by rw [List.map_map]; rfl) S).1
  rw [sA] at t3
  have tz : tBl (eBin D.eq (eBin D.ix (bVar 5) (eC (.int 0))) (eC (.int 0))) [.sh (lotsD L), .sh (evD seen), .sh (evD deed), .sh (evD event), .sh (.lst (R.map (triD (WL L)))), .sh (frD (nf B (WL L))), .un, .un, .un, .un, .un] S = some (decide ((nf B (WL L)).1 = 0), S) := tBl_of (eBin_of (S1 := S) (S2 := S) (d1 := .int (nf B (WL L)).1) (d2 := .int 0) (eBin_of (S1 := S) (S2 := S) (d2 := .int 0) rfl rfl (at0 _ _)) rfl (eq_int _ _))
  unfold F__law_would b__law_would woD
  rw [hB]
  refine fnD_rt (S' := S) ?_ rfl
  refine sSeq_of (sAsg_of l1 rfl) ?_
  refine sSeq_of (sAsg_of (eCall_of (aCons_of l2 rfl) t2) rfl) ?_
  by_cases c : B = 0
  · rw [if_pos c]
    rw [decide_eq_true ((nf_zero_iff hW b1).mpr c)] at tz
    exact sSeq_rt (sIf_t tz (sRet_of rfl))
  · rw [if_neg c]
    rw [decide_eq_false fun z => c ((nf_zero_iff hW b1).mp z)] at tz
    have fa := frb hW hW2 a2 (by decide)
    have fb := frb hW hW2 b2 (by decide)
    have bp := (nf_pos1 hW b1).mpr (show 0 < B by omega)
    have lf := law_fraction_s ((nf (sumK (qA seen event) (lP L deed)) (WL L)).1 * (nf B (WL L)).2) ((nf (sumK (qA seen event) (lP L deed)) (WL L)).2 * (nf B (WL L)).1) S (Int.mul_nonneg (nf_nn hW a1) (Int.le_of_lt fb.pos)) (Int.mul_pos fa.pos bp) (bd_mono (mul_bd fa.d fb.n) (by decide))
    rw [over_nf hW (by omega)] at lf
    have m1 := okMul_t (bd_mono fa.n (by decide : 21 ≤ 8999)) (bd_mono fb.d (by decide : 21 ≤ 8999))
    have m2 := okMul_t (bd_mono fa.d (by decide : 21 ≤ 8999)) (bd_mono fb.n (by decide : 21 ≤ 8999))
    refine sSeq_of (sIf_f tz rfl) ?_
    refine sSeq_of (sAsg_of (eCall_of (aCons_of l3 rfl) t3) rfl) ?_
    refine sRet_of ?_
    refine eCall_of (ds := [.int ((nf (sumK (qA seen event) (lP L deed)) (WL L)).1 * (nf B (WL L)).2), .int ((nf (sumK (qA seen event) (lP L deed)) (WL L)).2 * (nf B (WL L)).1)]) (S1 := S) (aCons_of (S1 := S) (eBin_of (S1 := S) (S2 := S) (d1 := .int (nf (sumK (qA seen event) (lP L deed)) (WL L)).1) (d2 := .int (nf B (WL L)).2) (eBin_of (S1 := S) (S2 := S) (d2 := .int 0) rfl rfl (at0 _ _)) (eBin_of (S1 := S) (S2 := S) (d2 := .int 1) rfl rfl (at1 _ _ _)) (by simp only [D.mul, liftI, m1, if_true])) (aCons_of (S1 := S) (eBin_of (S1 := S) (S2 := S) (d1 := .int (nf (sumK (qA seen event) (lP L deed)) (WL L)).2) (d2 := .int (nf B (WL L)).1) (eBin_of (S1 := S) (S2 := S) (d2 := .int 1) rfl rfl (at1 _ _ _)) (eBin_of (S1 := S) (S2 := S) (d2 := .int 0) rfl rfl (at0 _ _)) (by simp only [D.mul, liftI, m2, if_true])) rfl)) lf
end
end W17

set_option Elab.async false
set_option linter.all false
set_option maxRecDepth 100000
namespace W17
open DL
open L2 (atI atI_nat ixN)
section
variable {L : Lots}
/-- two variables of two values -/
structure XY (L : Lots) (x y : Nat) : Prop where
  x : (szL L).getD x 0 = 2
  y : (szL L).getD y 0 = 2
theorem getD_lt {s : List Nat} {x : Nat} (h : s.getD x 0 = 2) : x < s.length := by
  rw [List.getD_eq_getElem?_getD] at h
  cases e : s[x]? with
  | none => rw [e] at h; cases h
  | some n => exact (List.getElem?_eq_some_iff.mp e).1
theorem XY.lx {x y : Nat} (q : XY L x y) : x < L.length := by have := getD_lt q.x; unfold szL at this; rwa [List.length_map] at this
theorem XY.ly {x y : Nat} (q : XY L x y) : y < L.length := by have := getD_lt q.y; unfold szL at this; rwa [List.length_map] at this
theorem deed1 {x : Nat} (q : (szL L).getD x 0 = 2) {i : Int} (hi : 0 ≤ i ∧ i < 2) : DeedS L [(x, i)] := fun p hp => by
  rw [List.mem_singleton.mp hp]
  show 0 ≤ i ∧ i < ((szL L).getD x 0 : Nat)
  rw [q]
  exact hi
theorem ev1 {x : Nat} (q : x < L.length) {i : Int} : EvS L [(x, i)] := fun p hp => by rw [List.mem_singleton.mp hp]; exact q
theorem ev2 {x y : Nat} (q : x < L.length) (q' : y < L.length) {i j : Int} : EvS L [(x, i), (y, j)] := fun p hp => by
  rcases List.mem_cons.mp hp with e | hp
  · rw [e]; exact q
  · rw [List.mem_singleton.mp hp]; exact q'
/-- ((x, i),) -/
theorem deed_s {x : Nat} {i : Int} {a b : Nat} {ρ : Rho} {S : Sto} {f : Ex} (h1 : f ρ S = some (.int (x : Int), S)) : eTup (aCons (eTup (aCons f (aCons (eC (.int i)) aNil))) aNil) ρ S = some (evD [(x, i)], S) := tup1 (pair_s (S2 := S) h1 rfl)
theorem deed2_s {x y : Nat} {i j : Int} {ρ : Rho} {S : Sto} {f g : Ex} (h1 : f ρ S = some (.int (x : Int), S)) (h2 : g ρ S = some (.int (y : Int), S)) : eTup (aCons (eTup (aCons f (aCons (eC (.int i)) aNil))) (aCons (eTup (aCons g (aCons (eC (.int j)) aNil))) aNil)) ρ S = some (evD [(x, i), (y, j)], S) := pair_s (S1 := S) (S2 := S) (pair_s (S2 := S) h1 rfl) (pair_s (S2 := S) h2 rfl)
theorem necessity_s (h : LotsOk L) {x y : Nat} (q : XY L x y) (S : Sto) : F_necessity [lotsD L, .int (x : Int), .int (y : Int)] S = some (woD L [(x, 1), (y, 1)] [(x, 0)] [(y, 0)], S) := by
  unfold F_necessity b_necessity
  exact fnD_rt (S' := S) (sRet_of (eCall_of (aCons_of (S1 := S) rfl (aCons_of (deed2_s (ρ := rho0 3 [lotsD L, .int (x : Int), .int (y : Int)]) (S := S) rfl rfl) (aCons_of (deed_s (a := 0) (b := 0) (ρ := rho0 3 [lotsD L, .int (x : Int), .int (y : Int)]) (S := S) rfl) (aCons_of (deed_s (a := 0) (b := 0) (ρ := rho0 3 [lotsD L, .int (x : Int), .int (y : Int)]) (S := S) rfl) rfl)))) (would_s h (deed1 q.x (by decide)) (ev2 q.lx q.ly) (ev1 q.ly) S))) rfl
theorem sufficiency_s (h : LotsOk L) {x y : Nat} (q : XY L x y) (S : Sto) : F_sufficiency [lotsD L, .int (x : Int), .int (y : Int)] S = some (woD L [(x, 0), (y, 0)] [(x, 1)] [(y, 1)], S) := by
  unfold F_sufficiency b_sufficiency
  exact fnD_rt (S' := S) (sRet_of (eCall_of (aCons_of (S1 := S) rfl (aCons_of (deed2_s (ρ := rho0 3 [lotsD L, .int (x : Int), .int (y : Int)]) (S := S) rfl rfl) (aCons_of (deed_s (a := 0) (b := 0) (ρ := rho0 3 [lotsD L, .int (x : Int), .int (y : Int)]) (S := S) rfl) (aCons_of (deed_s (a := 0) (b := 0) (ρ := rho0 3 [lotsD L, .int (x : Int), .int (y : Int)]) (S := S) rfl) rfl)))) (would_s h (deed1 q.x (by decide)) (ev2 q.lx q.ly) (ev1 q.ly) S))) rfl
/-- both deeds tell -/
def boB (L : Lots) (x y : Nat) (own : List Ru) : Bool := decide ((runF (szL L) [(x, 1)] own []).getD y 0 = 1) && decide ((runF (szL L) [(x, 0)] own []).getD y 0 = 0)
def boS (L : Lots) (x y : Nat) : Int := (((drawnM L).filter fun p => boB L x y p.1).map (·.2)).sum
theorem run_len (h : LotsOk L) {deed : Ev} (hd : DeedS L deed) {p : List Ru × Int} (hp : p ∈ drawnM L) : (runF (szL L) deed p.1 []).length = L.length := by
  obtain ⟨o1, o2, _, _⟩ := h.drawn p hp
  have e : (szL L).length = L.length := by unfold szL; rw [List.length_map]
  rw [(runF_ok hd (rs := p.1) (row := []) o1 (.nil _)).2, o2, e]; simp
theorem tAn_of {f1 f2 : Ex} {ρ : Rho} {S : Sto} {a b : Bool} (h1 : tBl f1 ρ S = some (a, S)) (h2 : tBl f2 ρ S = some (b, S)) : tAn (tBl f1) (tBl f2) ρ S = some (a && b, S) := by
  unfold tAn
  rw [h1, Option.bind_some]
  cases a with
  | true => rw [if_pos rfl, h2]; rfl
  | false => rw [if_neg Bool.false_ne_true]; rfl
theorem at_eq {F : Fn} {fs : Ars} {g : Ex} {ρ : Rho} {S : Sto} {ds : List D} {r : List Int} {y : Nat} {i : Int} (h1 : fs ρ S = some (ds, S)) (h2 : F ds S = some (rowD r, S)) (h3 : g ρ S = some (.int (y : Int), S)) (hl : y < r.length) : tBl (eBin D.eq (eBin D.ix (eCall F fs) g) (eC (.int i))) ρ S = some (decide (r.getD y 0 = i), S) :=
  tBl_of (eBin_of (S1 := S) (S2 := S) (d2 := .int i) (eBin_of (S1 := S) (S2 := S) (eCall_of h1 h2) h3 (rowD_at hl)) rfl (eq_int _ _))
def btB : Stm := (sIf (tAn (tBl (eBin D.eq (eBin D.ix (eCall F_values (aCons (eVar 4) (aCons (eTup (aCons (eTup (aCons (eVar 1) (aCons (eC (.int 1)) aNil))) aNil)) aNil))) (bVar 2)) (eC (.int 1)))) (tBl (eBin D.eq (eBin D.ix (eCall F_values (aCons (eVar 4) (aCons (eTup (aCons (eTup (aCons (eVar 1) (aCons (eC (.int 0)) aNil))) aNil)) aNil))) (bVar 2)) (eC (.int 0))))) (sAsg (eCall F_plus (aCons (eVar 3) (aCons (eVar 5) aNil))) (gNm 3)) sNx)
theorem bt_loop (h : LotsOk L) {x y : Nat} (q : XY L x y) (S : Sto) (a : Sl) : ∀ (suf : List (List Ru × Int)) (acc : Int) (k : Nat) (z4 z5 : Sl), (∀ p ∈ suf, p ∈ drawnM L) → acc.natAbs < 2 ^ (10 + k) → k + suf.length ≤ 2000 →
    ∃ z4' z5', forF (gTp 2 (gsCons (gNm 4) (gsCons (gNm 5) gsNil))) btB (suf.map (drD L)) [a, .sh (.int (x : Int)), .sh (.int (y : Int)), .sh (frD (nf acc (WL L))), z4, z5] S = some (.nx [a, .sh (.int (x : Int)), .sh (.int (y : Int)), .sh (frD (nf (acc + ((suf.filter fun p => boB L x y p.1).map (·.2)).sum) (WL L))), z4', z5'] S)
  | [], acc, k, z4, z5, _, _, _ => ⟨z4, z5, by simp only [List.filter_nil, List.map_nil, List.sum_nil, Int.add_zero]; rfl⟩
  | p :: suf, acc, k, z4, z5, hp, hb, hk => by
    obtain ⟨hW, hW2⟩ := h.WL
    rw [List.length_cons] at hk
    have hm := hp p (.head _)
    obtain ⟨o1, o2, o3, o4⟩ := h.drawn p hm
    have hs : SzOk (szL L) := h.szOk
    have d1 := deed1 q.x (i := 1) (by decide)
    have d0 := deed1 q.x (i := 0) (by decide)
    have v1 := values_s (deed := [(x, 1)]) S hs d1 o1 o2
    have v0 := values_s (deed := [(x, 0)]) S hs d0 o1 o2
    have t1 := at_eq (i := 1) (g := bVar 2) (ρ := [a, .sh (.int (x : Int)), .sh (.int (y : Int)), .sh (frD (nf acc (WL L))), .sh (fD (szL L) p.1), .sh (frD (nf p.2 (WL L)))]) (fs := aCons (eVar 4) (aCons (eTup (aCons (eTup (aCons (eVar 1) (aCons (eC (.int 1)) aNil))) aNil)) aNil)) (aCons_of (S1 := S) rfl (aCons_of (deed_s (a := 0) (b := 0) rfl) rfl)) v1 rfl (by rw [run_len h d1 hm]; exact q.ly)
    have t0 := at_eq (i := 0) (g := bVar 2) (ρ := [a, .sh (.int (x : Int)), .sh (.int (y : Int)), .sh (frD (nf acc (WL L))), .sh (fD (szL L) p.1), .sh (frD (nf p.2 (WL L)))]) (fs := aCons (eVar 4) (aCons (eTup (aCons (eTup (aCons (eVar 1) (aCons (eC (.int 0)) aNil))) aNil)) aNil)) (aCons_of (S1 := S) rfl (aCons_of (deed_s (a := 0) (b := 0) rfl) rfl)) v0 rfl (by rw [run_len h d0 hm]; exact q.ly)
    have t := tAn_of t1 t0
    have eb : (decide ((runF (szL L) [(x, 1)] p.1 []).getD y 0 = 1) && decide ((runF (szL L) [(x, 0)] p.1 []).getD y 0 = 0)) = boB L x y p.1 := rfl
    rw [eb] at t
    by_cases c : boB L x y p.1 = true
    · rw [c] at t
      have ps := plus_s S (frb hW hW2 hb (by omega)) (frb hW hW2 o4 (Nat.le_refl _)) (by omega)
      rw [plF_same _ _ hW] at ps
      obtain ⟨z4', z5', ih⟩ := bt_loop h q S a suf (acc + p.2) (k + 1) (.sh (fD (szL L) p.1)) (.sh (frD (nf p.2 (WL L)))) (fun r hr => hp r (.tail _ hr)) (by
        have := add_bd hb (bd_mono (k := 10 + k) o4 (by omega))
        rw [show 10 + (k + 1) = 10 + k + 1 by omega]
        exact this) (by omega)
      refine ⟨z4', z5', ?_⟩
      have f1 := forF_step (g := gTp 2 (gsCons (gNm 4) (gsCons (gNm 5) gsNil))) (b := btB) (x := drD L p) (xs := suf.map (drD L)) (ρ := [a, .sh (.int (x : Int)), .sh (.int (y : Int)), .sh (frD (nf acc (WL L))), z4, z5]) (ρ1 := [a, .sh (.int (x : Int)), .sh (.int (y : Int)), .sh (frD (nf acc (WL L))), .sh (fD (szL L) p.1), .sh (frD (nf p.2 (WL L)))]) rfl (sIf_t t (sAsg_of (eCall_of (S1 := S) rfl ps) rfl))
      have e1 : (((p :: suf).filter fun p => boB L x y p.1).map (·.2)).sum = p.2 + ((suf.filter fun p => boB L x y p.1).map (·.2)).sum := by rw [List.filter_cons_of_pos (p := fun p : List Ru × Int => boB L x y p.1) c, List.map_cons, List.sum_cons]
      rw [e1, ← Int.add_assoc]
      exact f1.trans ih
    · rw [Bool.eq_false_iff.mpr c] at t
      obtain ⟨z4', z5', ih⟩ := bt_loop h q S a suf acc k (.sh (fD (szL L) p.1)) (.sh (frD (nf p.2 (WL L)))) (fun r hr => hp r (.tail _ hr)) hb (by omega)
      refine ⟨z4', z5', ?_⟩
      have f1 := forF_step (g := gTp 2 (gsCons (gNm 4) (gsCons (gNm 5) gsNil))) (b := btB) (x := drD L p) (xs := suf.map (drD L)) (ρ := [a, .sh (.int (x : Int)), .sh (.int (y : Int)), .sh (frD (nf acc (WL L))), z4, z5]) (ρ1 := [a, .sh (.int (x : Int)), .sh (.int (y : Int)), .sh (frD (nf acc (WL L))), .sh (fD (szL L) p.1), .sh (frD (nf p.2 (WL L)))]) rfl (sIf_f t (o := some (.nx [a, .sh (.int (x : Int)), .sh (.int (y : Int)), .sh (frD (nf acc (WL L))), .sh (fD (szL L) p.1), .sh (frD (nf p.2 (WL L)))] S)) rfl)
      rw [List.filter_cons_of_neg (p := fun p : List Ru × Int => boB L x y p.1) c]
      exact f1.trans ih
theorem both_s (h : LotsOk L) {x y : Nat} (q : XY L x y) (S : Sto) : F_both [lotsD L, .int (x : Int), .int (y : Int)] S = some (frD (nf (boS L x y) (WL L)), S) := by
  obtain ⟨hW, hW2⟩ := h.WL
  obtain ⟨z4, z5, l⟩ := bt_loop h q S (.sh (lotsD L)) (drawnM L) 0 0 .un .un (fun p hp => hp) (by decide) (by have := drawn_len h; omega)
  rw [Int.zero_add, nf_zero hW] at l
  have dr := drawn_s h S
  unfold F_both b_both
  refine fnD_rt (S' := S) ?_ rfl
  refine sSeq_of (S1 := S) (ρ' := [.sh (lotsD L), .sh (.int (x : Int)), .sh (.int (y : Int)), .sh (frD (0, 1)), .un, .un]) rfl ?_
  refine sSeq_of (sFor_of (S1 := S) (iSeq_of (S1 := S) (eCall_of (S1 := S) rfl dr) rfl) l) ?_
  exact sRet_of (S1 := S) rfl
def ltB : Stm := (sIf (tAn (tBl (eBin D.eq (eBin D.ix (eCall F__law_run (aCons (eVar 6) (aCons (eTup (aCons (eTup (aCons (eVar 1) (aCons (eC (.int 1)) aNil))) aNil)) aNil))) (bVar 2)) (eC (.int 1)))) (tBl (eBin D.eq (eBin D.ix (eCall F__law_run (aCons (eVar 6) (aCons (eTup (aCons (eTup (aCons (eVar 1) (aCons (eC (.int 0)) aNil))) aNil)) aNil))) (bVar 2)) (eC (.int 0))))) (sMut gAppend 5 (aCons (eVar 7) aNil)) sNx)
theorem lt_loop (h : LotsOk L) {x y : Nat} (q : XY L x y) (S : Sto) (a b c : Sl) : ∀ (suf : List (List Ru × Int)) (xs : List D) (z6 z7 : Sl), (∀ p ∈ suf, p ∈ drawnM L) → xs.length + suf.length ≤ 100000 →
    ∃ z6' z7', forF (gTp 2 (gsCons (gNm 6) (gsCons (gNm 7) gsNil))) ltB (suf.map (drD L)) [a, .sh (.int (x : Int)), .sh (.int (y : Int)), b, c, .ow (.lst xs), z6, z7] S = some (.nx [a, .sh (.int (x : Int)), .sh (.int (y : Int)), b, c, .ow (.lst (xs ++ (suf.filter fun p => boB L x y p.1).map fun p => frD (nf p.2 (WL L)))), z6', z7'] S)
  | [], xs, z6, z7, _, _ => ⟨z6, z7, by simp only [List.filter_nil, List.map_nil, List.append_nil]; rfl⟩
  | p :: suf, xs, z6, z7, hp, hk => by
    rw [List.length_cons] at hk
    have hm := hp p (.head _)
    obtain ⟨o1, o2, o3, o4⟩ := h.drawn p hm
    have hs : SzOk (szL L) := h.szOk
    have d1 := deed1 q.x (i := 1) (by decide)
    have d0 := deed1 q.x (i := 0) (by decide)
    have v1 := law_run_s (deed := [(x, 1)]) S hs d1 o1 o2
    have v0 := law_run_s (deed := [(x, 0)]) S hs d0 o1 o2
    have t1 := at_eq (i := 1) (g := bVar 2) (ρ := [a, .sh (.int (x : Int)), .sh (.int (y : Int)), b, c, .ow (.lst xs), .sh (fD (szL L) p.1), .sh (frD (nf p.2 (WL L)))]) (fs := aCons (eVar 6) (aCons (eTup (aCons (eTup (aCons (eVar 1) (aCons (eC (.int 1)) aNil))) aNil)) aNil)) (aCons_of (S1 := S) rfl (aCons_of (deed_s (a := 0) (b := 0) rfl) rfl)) v1 rfl (by rw [run_len h d1 hm]; exact q.ly)
    have t0 := at_eq (i := 0) (g := bVar 2) (ρ := [a, .sh (.int (x : Int)), .sh (.int (y : Int)), b, c, .ow (.lst xs), .sh (fD (szL L) p.1), .sh (frD (nf p.2 (WL L)))]) (fs := aCons (eVar 6) (aCons (eTup (aCons (eTup (aCons (eVar 1) (aCons (eC (.int 0)) aNil))) aNil)) aNil)) (aCons_of (S1 := S) rfl (aCons_of (deed_s (a := 0) (b := 0) rfl) rfl)) v0 rfl (by rw [run_len h d0 hm]; exact q.ly)
    have t := tAn_of t1 t0
    have eb : (decide ((runF (szL L) [(x, 1)] p.1 []).getD y 0 = 1) && decide ((runF (szL L) [(x, 0)] p.1 []).getD y 0 = 0)) = boB L x y p.1 := rfl
    rw [eb] at t
    by_cases cc : boB L x y p.1 = true
    · rw [cc] at t
      obtain ⟨z6', z7', ih⟩ := lt_loop h q S a b c suf (xs ++ [frD (nf p.2 (WL L))]) (.sh (fD (szL L) p.1)) (.sh (frD (nf p.2 (WL L)))) (fun r hr => hp r (.tail _ hr)) (by rw [List.length_append, List.length_singleton]; omega)
      refine ⟨z6', z7', ?_⟩
      have f1 := forF_step (g := gTp 2 (gsCons (gNm 6) (gsCons (gNm 7) gsNil))) (b := ltB) (x := drD L p) (xs := suf.map (drD L)) (ρ := [a, .sh (.int (x : Int)), .sh (.int (y : Int)), b, c, .ow (.lst xs), z6, z7]) (ρ1 := [a, .sh (.int (x : Int)), .sh (.int (y : Int)), b, c, .ow (.lst xs), .sh (fD (szL L) p.1), .sh (frD (nf p.2 (WL L)))]) rfl (sIf_t t (sMut_of (c := .lst xs) (S1 := S) rfl rfl (app_d (by omega))))
      have e1 : ((p :: suf).filter fun p => boB L x y p.1).map (fun p => frD (nf p.2 (WL L))) = frD (nf p.2 (WL L)) :: (suf.filter fun p => boB L x y p.1).map fun p => frD (nf p.2 (WL L)) := by rw [List.filter_cons_of_pos (p := fun p : List Ru × Int => boB L x y p.1) cc, List.map_cons]
      rw [e1]
      rw [List.append_assoc] at ih
      exact f1.trans ih
    · rw [Bool.eq_false_iff.mpr cc] at t
      obtain ⟨z6', z7', ih⟩ := lt_loop h q S a b c suf xs (.sh (fD (szL L) p.1)) (.sh (frD (nf p.2 (WL L)))) (fun r hr => hp r (.tail _ hr)) (by omega)
      refine ⟨z6', z7', ?_⟩
      have f1 := forF_step (g := gTp 2 (gsCons (gNm 6) (gsCons (gNm 7) gsNil))) (b := ltB) (x := drD L p) (xs := suf.map (drD L)) (ρ := [a, .sh (.int (x : Int)), .sh (.int (y : Int)), b, c, .ow (.lst xs), z6, z7]) (ρ1 := [a, .sh (.int (x : Int)), .sh (.int (y : Int)), b, c, .ow (.lst xs), .sh (fD (szL L) p.1), .sh (frD (nf p.2 (WL L)))]) rfl (sIf_f t (o := some (.nx [a, .sh (.int (x : Int)), .sh (.int (y : Int)), b, c, .ow (.lst xs), .sh (fD (szL L) p.1), .sh (frD (nf p.2 (WL L)))] S)) rfl)
      rw [List.filter_cons_of_neg (p := fun p : List Ru × Int => boB L x y p.1) cc]
      exact f1.trans ih
def twoD (L : Lots) (x y : Nat) : D := .lst [woD L [(x, 1), (y, 1)] [(x, 0)] [(y, 0)], woD L [(x, 0), (y, 0)] [(x, 1)] [(y, 1)], frD (nf (boS L x y) (WL L))]
theorem law_two_s (h : LotsOk L) {x y : Nat} (q : XY L x y) (S : Sto) : F__law_two [lotsD L, .int (x : Int), .int (y : Int)] S = some (twoD L x y, S) := by
  obtain ⟨hW, hW2⟩ := h.WL
  have w1 := law_would_s h (seen := [(x, 1), (y, 1)]) (deed1 q.x (i := 0) (by decide)) (ev2 q.lx q.ly) (ev1 q.ly (i := 0)) S
  have w2 := law_would_s h (seen := [(x, 0), (y, 0)]) (deed1 q.x (i := 1) (by decide)) (ev2 q.lx q.ly) (ev1 q.ly (i := 1)) S
  generalize hn1 : woD L [(x, 1), (y, 1)] [(x, 0)] [(y, 0)] = n1 at *
  generalize hn2 : woD L [(x, 0), (y, 0)] [(x, 1)] [(y, 1)] = n2 at *
  obtain ⟨z6, z7, l⟩ := lt_loop h q S (.sh (lotsD L)) (.sh n1) (.sh n2) (drawnM L) [] .un .un (fun p hp => hp) (by have := drawn_len h; rw [List.length_nil]; omega)
  have hok : ∀ p ∈ drawnM L, 0 ≤ p.2 ∧ p.2.natAbs < 2 ^ 21 := fun p hp => by
    obtain ⟨_, _, a1, a2⟩ := h.drawn p hp
    exact ⟨Int.le_of_lt a1, bd_mono a2 (by decide)⟩
  have t := (total_w hW hW2 (ws_of (List.filter_sublist (p := fun p : List Ru × Int => boB L x y p.1)) (drawn_len h) hok) (.lst (((drawnM L).filter fun p => boB L x y p.1).map fun p => frD (nf p.2 (WL L)))) (by rw [List.map_map]; rfl) S).1
  have dr := law_drawn_s h S
  unfold F__law_two b__law_two twoD
  rw [hn1, hn2]
  refine fnD_rt (S' := S) ?_ rfl
  refine sSeq_of (ρ' := [.sh (lotsD L), .sh (.int (x : Int)), .sh (.int (y : Int)), .sh n1, .un, .un, .un, .un]) (sAsg_of (eCall_of (aCons_of (S1 := S) rfl (aCons_of (deed2_s (ρ := rho0 8 [lotsD L, .int (x : Int), .int (y : Int)]) (S := S) rfl rfl) (aCons_of (deed_s (a := 0) (b := 0) (ρ := rho0 8 [lotsD L, .int (x : Int), .int (y : Int)]) (S := S) rfl) (aCons_of (deed_s (a := 0) (b := 0) (ρ := rho0 8 [lotsD L, .int (x : Int), .int (y : Int)]) (S := S) rfl) rfl)))) w1) rfl) ?_
  refine sSeq_of (ρ' := [.sh (lotsD L), .sh (.int (x : Int)), .sh (.int (y : Int)), .sh n1, .sh n2, .un, .un, .un]) (sAsg_of (eCall_of (aCons_of (S1 := S) rfl (aCons_of (deed2_s (S := S) rfl rfl) (aCons_of (deed_s (a := 0) (b := 0) (S := S) rfl) (aCons_of (deed_s (a := 0) (b := 0) (S := S) rfl) rfl)))) w2) rfl) ?_
  refine sSeq_of (S1 := S) (ρ' := [.sh (lotsD L), .sh (.int (x : Int)), .sh (.int (y : Int)), .sh n1, .sh n2, .ow (.lst []), .un, .un]) rfl ?_
  refine sSeq_of (sFor_of (S1 := S) (iSeq_of (S1 := S) (eCall_of (S1 := S) rfl dr) rfl) l) ?_
  refine sFz_of rfl ?_
  refine sRet_of ?_
  have ae : aCons (eVar 3) (aCons (eVar 4) (aCons (eCall F__law_total (aCons (eVar 5) aNil)) aNil)) [.sh (lotsD L), .sh (.int (x : Int)), .sh (.int (y : Int)), .sh n1, .sh n2, .sh (.lst ([] ++ ((drawnM L).filter fun p => boB L x y p.1).map fun p => frD (nf p.2 (WL L)))), z6, z7] S = some ([n1, n2, frD (nf (boS L x y) (WL L))], S) := aCons_of (S1 := S) rfl (aCons_of (S1 := S) rfl (aCons_of (eCall_of (S1 := S) rfl t) rfl))
  show eLst _ _ _ = _
  unfold eLst
  have ae' := ae
  rw [show (Sl.sh (D.lst ([] ++ ((drawnM L).filter fun p => boB L x y p.1).map fun p => frD (nf p.2 (WL L))))) = Sl.sh (D.lst ([] ++ ((drawnM L).filter fun p => boB L x y p.1).map fun p => frD (nf p.2 (WL L)))) from rfl] at ae'
  simp only [List.set_cons_succ, List.set_cons_zero]
  rw [ae', Option.bind_some, if_pos (by show 3 ≤ PySem.sizeLine; decide)]
end
end W17

set_option Elab.async false
set_option linter.all false
set_option maxRecDepth 100000
namespace W17
open DL
open L2 (atI atI_nat ixN)
theorem isi_int (i : Int) : gIsi [.int i, .ty "int"] = some (.bl true) := by
  unfold gIsi D.isA
  have : L2.kitB "int" "int" = some true := by decide +kernel
  simp only [this, Option.map_some]
theorem isi_bool (i : Int) : gIsi [.int i, .ty "bool"] = some (.bl false) := by
  unfold gIsi D.isA
  have : L2.kitB "int" "bool" = some false := by decide +kernel
  simp only [this, Option.map_some]
theorem isi_tup (xs : List D) : gIsi [.tup xs, .ty "tuple"] = some (.bl true) := by
  unfold gIsi D.isA
  have : L2.kitB "tuple" "tuple" = some true := by decide +kernel
  simp only [this, Option.map_some]
section
variable {ρ ρ1 : Rho} {S S1 S2 S3 : Sto} {f f1 f2 f3 : Ex} {t1 t2 : Tx} {d d1 d2 d3 : D}
theorem eAn_t {o : Option (D × Sto)} (h1 : f1 ρ S = some (.bl true, S1)) (h2 : f2 ρ S1 = o) : eAn f1 f2 ρ S = o := by
  unfold eAn
  rw [h1, Option.bind_some]
  exact h2
theorem eNo_of {b : Bool} (h1 : f ρ S = some (.bl b, S1)) : eNo f ρ S = some (.bl (!b), S1) := by
  unfold eNo
  rw [h1, Option.bind_some]
  rfl
theorem tNo_of {b : Bool} (h1 : t1 ρ S = some (b, S1)) : tNo t1 ρ S = some (!b, S1) := by
  unfold tNo
  rw [h1]
  rfl
theorem tOr_f {o : Option (Bool × Sto)} (h1 : t1 ρ S = some (false, S1)) (h2 : t2 ρ S1 = o) : DL.tOr t1 t2 ρ S = o := by
  unfold DL.tOr
  rw [h1, Option.bind_some, if_neg Bool.false_ne_true]
  exact h2
theorem tOr_t (h1 : t1 ρ S = some (true, S1)) : DL.tOr t1 t2 ρ S = some (true, S1) := by
  unfold DL.tOr
  rw [h1, Option.bind_some, if_pos rfl]
theorem chain_of {g g' : D → D → Option D} (h1 : f1 ρ S = some (d1, S1)) (h2 : f2 ρ S1 = some (d2, S2)) (h3 : g d1 d2 = some (.bl true)) (h4 : f3 ρ S2 = some (d3, S3)) (h5 : g' d2 d3 = some d) : eChain g g' f1 f2 f3 ρ S = some (d, S3) := by
  unfold eChain
  rw [h1, Option.bind_some, h2, Option.bind_some, h3, Option.bind_some]
  show (f3 ρ S2).bind _ = _
  rw [h4, Option.bind_some, h5]
  rfl
theorem isi_of {n : String} {b : Bool} (h1 : f ρ S = some (d, S1)) (h2 : gIsi [d, .ty n] = some (.bl b)) : eCB gIsi (aCons f (aCons (eC (.ty n)) aNil)) ρ S = some (.bl b, S1) := eCB_of (aCons_of h1 rfl) h2
theorem tru_bl {b : Bool} (h1 : f ρ S = some (.bl b, S1)) : tTru f ρ S = some (b, S1) := tTru_of h1 rfl
theorem all_true {α : Type} {it : Ars} {g : Tg} {te : Ex} {w : List Nat} (enc : α → D) (xs : List α) (hit : it ρ S = some (xs.map enc, S)) (h : ∀ x ∈ xs, ∃ ρ2, g (enc x) (wipeR ρ w) = some ρ2 ∧ te ρ2 S = some (.bl true, S)) : eCB gAll (aCons (eLc it g tYs te w) aNil) ρ S = some (.bl true, S) := by
  have c := compF_all (g := g) (te := te) (ρ := wipeR ρ w) (S := S) enc (fun _ => D.bl true) xs h
  refine eCB_of (aCons_of (eLc_of hit c) rfl) ?_
  have b := boolsOf_map (xs.map fun _ => true)
  rw [List.map_map] at b
  show (boolsOf (xs.map fun _ => D.bl true)).map _ = _
  have b' : boolsOf (xs.map fun _ => D.bl true) = some (xs.map fun _ => true) := b
  rw [b', Option.map_some]
  congr 2
  simp
theorem is_integer_s (i : Int) (S : Sto) : F_is_integer [.int i] S = some (.bl true, S) := by
  unfold F_is_integer b_is_integer
  exact fnD_rt (S' := S) (sRet_of (eAn_t (isi_of (S1 := S) (d := .int i) rfl (isi_int i)) (eNo_of (isi_of (S1 := S) (d := .int i) rfl (isi_bool i))))) rfl
theorem int_of {i : Int} (h : f ρ S = some (.int i, S)) : eCall F_is_integer (aCons f aNil) ρ S = some (.bl true, S) := eCall_of (S1 := S) (aCons_of h rfl) (is_integer_s i S)
theorem le_of (i j : Int) (h : i ≤ j) : D.le (.int i) (.int j) = some (.bl true) := by
  show some (D.bl (decide (i ≤ j))) = _
  rw [decide_eq_true h]
theorem lt_of (i j : Int) (h : i < j) : D.lt (.int i) (.int j) = some (.bl true) := by
  show some (D.bl (decide (i < j))) = _
  rw [decide_eq_true h]
theorem ne_same (i : Int) : D.ne (.int i) (.int i) = some (.bl false) := by rw [ne_int]; simp
theorem eq_same (i : Int) : D.eq (.int i) (.int i) = some (.bl true) := by rw [eq_int]; simp
end
theorem gcd_nf {a b : Int} (hb : 0 < b) : Nat.gcd (nf a b).1.natAbs (nf a b).2.natAbs = 1 := by
  have hg := gcd_pos (a := a) hb
  obtain ⟨x, hx⟩ := gcd_dvd1 a b
  obtain ⟨y, hy⟩ := gcd_dvd2 a b
  generalize hG : Nat.gcd a.natAbs b.natAbs = g at *
  have hg' : 0 < g := by omega
  unfold nf
  rw [hG, hx, hy, Int.mul_ediv_cancel_left _ (by omega), Int.mul_ediv_cancel_left _ (by omega)]
  have e : Nat.gcd (g * x.natAbs) (g * y.natAbs) = g := by
    rw [hx, hy, Int.natAbs_mul, Int.natAbs_mul] at hG
    simpa using hG
  rw [Nat.gcd_mul_left] at e
  have : g * Nat.gcd x.natAbs y.natAbs = g * 1 := by omega
  exact Nat.eq_of_mul_eq_mul_left hg' this
theorem is_fraction_s (a b : Int) (hb : 0 < b) (S : Sto) : F_is_fraction [frD (nf a b)] S = some (.bl true, S) := by
  have hp := nf_pos (a := a) hb
  have hg := gcd_nf (a := a) hb
  generalize nf a b = p at *
  have al := all_true (ρ := [.sh (frD p), .un]) (S := S) (it := iSeq (bVar 0)) (g := gNm 1) (te := eCall F_is_integer (aCons (eVar 1) aNil)) (w := [1]) D.int [p.1, p.2] rfl fun x _ => ⟨[.sh (frD p), .sh (.int x)], rfl, int_of rfl⟩
  unfold F_is_fraction b_is_fraction
  refine fnD_rt (S' := S) ?_ rfl
  refine sSeq_of (S1 := S) (ρ' := [.sh (frD p), .un]) (sIf_f (S1 := S) (tOr_f (tNo_of (tru_bl (isi_of (S1 := S) (d := frD p) rfl (isi_tup _)))) (tOr_f (S1 := S) (tBl_of (eBin_of (S1 := S) (S2 := S) (d1 := .int 2) (d2 := .int 2) rfl rfl (ne_same 2))) (tNo_of (tru_bl al)))) rfl) ?_
  refine sRet_of ?_
  refine eAn_t (S1 := S) (eBin_of (S1 := S) (S2 := S) (d1 := .int p.2) (d2 := .int 0) (eBin_of (S1 := S) (S2 := S) (d1 := frD p) (d2 := .int 1) rfl rfl (at1 _ _ _)) rfl ?_) ?_
  · show some (D.bl (decide (0 < p.2))) = _
    rw [decide_eq_true hp]
  · refine eBin_of (S1 := S) (S2 := S) (d1 := .int 1) (d2 := .int 1) (eCB_of (ds := [.int p.1, .int p.2]) (S1 := S) (aCons_of (S1 := S) (eBin_of (S1 := S) (S2 := S) (d1 := frD p) (d2 := .int 0) rfl rfl (at0 _ _)) (aCons_of (S1 := S) (eBin_of (S1 := S) (S2 := S) (d1 := frD p) (d2 := .int 1) rfl rfl (at1 _ _ _)) rfl)) ?_) rfl (eq_same 1)
    show some (D.int ((Nat.gcd p.1.natAbs p.2.natAbs : Nat) : Int)) = _
    rw [hg]; rfl
theorem len_tup (xs : List D) : gLen [.tup xs] = some (.int (xs.length : Int)) := rfl
theorem are_sizes_s {s : List Nat} (h1 : 1 ≤ s.length) (h2 : s.length ≤ 7) (h : ∀ n ∈ s, 1 ≤ n ∧ n ≤ 3) (S : Sto) : F_are_sizes [szD s] S = some (.bl true, S) := by
  have al := all_true (ρ := [.sh (szD s), .un]) (S := S) (it := iSeq (bVar 0)) (g := gNm 1) (te := eAn (eCall F_is_integer (aCons (eVar 1) aNil)) (eChain D.le D.le (eC (.int 1)) (bVar 1) (eC (.int 3)))) (w := [1]) (fun (n : Nat) => D.int (n : Int)) s rfl fun n hn => by
    have hn := h n hn
    exact ⟨[.sh (szD s), .sh (.int (n : Int))], rfl, eAn_t (int_of rfl) (chain_of (S1 := S) (S2 := S) (S3 := S) (d1 := .int 1) (d2 := .int (n : Int)) (d3 := .int 3) rfl rfl (le_of _ _ (by omega)) rfl (le_of _ _ (by omega)))⟩
  have hl : gLen [szD s] = some (.int (s.length : Int)) := by simp only [gLen, szD, List.length_map]
  unfold F_are_sizes b_are_sizes
  refine fnD_rt (S' := S) ?_ rfl
  refine sSeq_of (S1 := S) (ρ' := [.sh (szD s), .un]) (sIf_f (S1 := S) (tOr_f (tNo_of (tru_bl (isi_of (S1 := S) (d := szD s) rfl (isi_tup _)))) (tNo_of (tBl_of (chain_of (S1 := S) (S2 := S) (S3 := S) (d1 := .int 1) (d2 := .int (s.length : Int)) (d3 := .int 7) rfl (eCB_of (ds := [szD s]) (S1 := S) rfl hl) (le_of _ _ (by omega)) rfl (le_of _ _ (by omega)))))) rfl) ?_
  exact sRet_of al
theorem are_chances_s {ws : List Int} (h0 : ∀ x ∈ ws, 0 ≤ x) (hs : 0 < ws.sum) (hb : ws.sum < 8) (hl : ws.length ≤ 1000) (S : Sto) : F_are_chances [.int (ws.length : Int), chanceD ws] S = some (.bl true, S) := by
  have hle : ∀ x ∈ ws, x.natAbs < 2 ^ 3 := fun x hx => by
    obtain ⟨j, hj, e⟩ := List.mem_iff_getElem.mp hx
    have g := getD_le_sum (ws := ws) (j := j) h0
    rw [List.getD_eq_getElem?_getD, List.getElem?_eq_getElem hj, Option.getD_some, e] at g
    omega
  have hw : WsOk ws := ⟨hl, fun x hx => ⟨h0 x hx, bd_mono (hle x hx) (by decide)⟩⟩
  have a1 := all_true (ρ := [.sh (.int (ws.length : Int)), .sh (chanceD ws), .un]) (S := S) (it := iSeq (bVar 1)) (g := gNm 2) (te := eCall F_is_fraction (aCons (eVar 2) aNil)) (w := [2]) (fun x => frD (nf x ws.sum)) ws rfl fun x hx => ⟨[.sh (.int (ws.length : Int)), .sh (chanceD ws), .sh (frD (nf x ws.sum))], rfl, eCall_of (S1 := S) rfl (is_fraction_s x _ hs S)⟩
  have a2 := all_true (ρ := [.sh (.int (ws.length : Int)), .sh (chanceD ws), .un]) (S := S) (it := iSeq (bVar 1)) (g := gNm 2) (te := eBin D.ge (eBin D.ix (bVar 2) (eC (.int 0))) (eC (.int 0))) (w := [2]) (fun x => frD (nf x ws.sum)) ws rfl fun x hx => ⟨[.sh (.int (ws.length : Int)), .sh (chanceD ws), .sh (frD (nf x ws.sum))], rfl, eBin_of (S1 := S) (S2 := S) (d1 := .int (nf x ws.sum).1) (d2 := .int 0) (eBin_of (S1 := S) (S2 := S) (d1 := frD (nf x ws.sum)) (d2 := .int 0) rfl rfl (at0 _ _)) rfl (by
    show some (D.bl (decide (0 ≤ (nf x ws.sum).1))) = _
    rw [decide_eq_true (nf_nn hs (h0 x hx))])⟩
  have tt := (total_w hs (bd_mono (j := 3) (by omega) (by decide)) hw (chanceD ws) rfl S).2
  have e1 : nf ws.sum ws.sum = (1, 1) := by
    have : nf (1 * ws.sum) (1 * ws.sum) = nf 1 1 := nf_scale 1 1 hs
    rw [Int.one_mul] at this
    exact this
  rw [e1] at tt
  have hl2 : gLen [chanceD ws] = some (.int (ws.length : Int)) := by simp only [gLen, chanceD, List.length_map]
  unfold F_are_chances b_are_chances
  refine fnD_rt (S' := S) ?_ rfl
  refine sSeq_of (S1 := S) (ρ' := [.sh (.int (ws.length : Int)), .sh (chanceD ws), .un]) (sIf_f (S1 := S) (tOr_f (tNo_of (tru_bl (isi_of (S1 := S) (d := chanceD ws) rfl (isi_tup _)))) (tOr_f (S1 := S) (tBl_of (eBin_of (S1 := S) (S2 := S) (d1 := .int (ws.length : Int)) (d2 := .int (ws.length : Int)) (eCB_of (ds := [chanceD ws]) (S1 := S) rfl hl2) rfl (ne_same _))) (tNo_of (tru_bl a1)))) rfl) ?_
  refine sRet_of ?_
  refine eAn_t a2 ?_
  have er : D.eq (frD (1, 1)) (.tup [.int 1, .int 1]) = some (.bl true) := by
    have := eq_row [1, 1] [1, 1]
    rw [decide_eq_true rfl] at this
    exact this
  exact eBin_of (S1 := S) (S2 := S) (d1 := frD (1, 1)) (eCall_of (S1 := S) rfl tt) rfl er
theorem rowsM_count : ∀ (s : List Nat) (found : List (List Int)), (rowsM found s).length = found.length * prodN s
  | [], found => by show found.length = _; rw [show prodN [] = 1 from rfl, Nat.mul_one]
  | n :: s, found => by
    show (rowsM (found.flatMap (rowsStep n)) s).length = found.length * (n * prodN s)
    rw [rowsM_count s]
    have : (found.flatMap (rowsStep n)).length = found.length * n := by
      induction found with
      | nil => simp
      | cons r f ih => rw [List.flatMap_cons, List.length_append, ih, List.length_cons, Nat.succ_mul]; unfold rowsStep; simp; omega
    rw [this, Nat.mul_assoc]
theorem slice1 (ps : List D) : D.slice (.tup ps) (some 1) none = some (.tup (ps.drop 1)) := by
  have e : HT.sIx ps.length 0 (some 1) = min 1 ps.length := HT.sIx_nat ps.length 0 1
  show some (D.tup (cutD ps (some 1) none)) = _
  unfold cutD
  rw [e]
  show some (D.tup ((ps.drop (min 1 ps.length)).take (ps.length - min 1 ps.length))) = _
  cases ps with
  | nil => rfl
  | cons x ps =>
    rw [show min 1 (x :: ps).length = 1 by simp, show (x :: ps).drop 1 = ps from rfl, List.take_of_length_le (by simp)]
theorem pair_lt : ∀ {ps : List Nat}, ps.Pairwise (· < ·) → ∀ p ∈ ps.zip (ps.drop 1), p.1 < p.2
  | [], _, p, hp => by simp at hp
  | [a], _, p, hp => by simp at hp
  | a :: b :: ps, h, p, hp => by
    have hp' : p ∈ (a, b) :: (b :: ps).zip ps := hp
    rcases List.mem_cons.mp hp' with e | hp'
    · rw [e]; exact (List.pairwise_cons.mp h).1 b (.head _)
    · exact pair_lt (ps := b :: ps) (List.pairwise_cons.mp h).2 p hp'
theorem is_rule_s {s : List Nat} {v : Nat} {r : Ru} (hs : SzOk s) (hv : v < s.length) (h : RuOk s v r) (hp : r.1.Pairwise (· < ·)) (S : Sto) : F_is_rule [szD s, .int (v : Int), ruD r] S = some (.bl true, S) := by
  have x0 : ∀ {ρ : Rho}, ρ[2]? = some (.sh (ruD r)) → eBin D.ix (bVar 2) (eC (.int 0)) ρ S = some (varsD r.1, S) := fun {ρ} e => eBin_of (S1 := S) (S2 := S) (d1 := ruD r) (d2 := .int 0) (by unfold bVar; rw [e]; rfl) rfl (at0 _ _)
  have x1 : ∀ {ρ : Rho}, ρ[2]? = some (.sh (ruD r)) → eBin D.ix (bVar 2) (eC (.int 1)) ρ S = some (rowD r.2, S) := fun {ρ} e => eBin_of (S1 := S) (S2 := S) (d1 := ruD r) (d2 := .int 1) (by unfold bVar; rw [e]; rfl) rfl (at1 _ _ _)
  have a1 := all_true (ρ := [.sh (szD s), .sh (.int (v : Int)), .sh (ruD r), .un, .un, .un, .un, .un]) (S := S) (it := iSeq (bVar 2)) (g := gNm 3) (te := eCB gIsi (aCons (bVar 3) (aCons (eC (.ty "tuple")) aNil))) (w := [3]) id [varsD r.1, rowD r.2] rfl fun x hx => by
    refine ⟨[.sh (szD s), .sh (.int (v : Int)), .sh (ruD r), .sh x, .un, .un, .un, .un], rfl, isi_of (d := x) rfl ?_⟩
    rcases List.mem_cons.mp hx with e | hx
    · rw [e]; exact isi_tup _
    · rw [List.mem_singleton.mp hx]; exact isi_tup _
  have a2 := all_true (ρ := [.sh (szD s), .sh (.int (v : Int)), .sh (ruD r), .un, .un, .un, .un, .un]) (S := S) (it := iSeq (eBin D.ix (bVar 2) (eC (.int 0)))) (g := gNm 4) (te := eAn (eCall F_is_integer (aCons (eVar 4) aNil)) (eChain D.le D.lt (eC (.int 0)) (bVar 4) (bVar 1))) (w := [4]) (fun (a : Nat) => D.int (a : Int)) r.1 (iSeq_of (x0 rfl) rfl) fun a ha =>
    ⟨[.sh (szD s), .sh (.int (v : Int)), .sh (ruD r), .un, .sh (.int (a : Int)), .un, .un, .un], rfl, eAn_t (int_of rfl) (chain_of (S1 := S) (S2 := S) (S3 := S) (d1 := .int 0) (d2 := .int (a : Int)) (d3 := .int (v : Int)) rfl rfl (le_of _ _ (by omega)) rfl (lt_of _ _ (by have := h.par a ha; omega)))⟩
  have zp : iZp (aCons (eBin D.ix (bVar 2) (eC (.int 0))) (aCons (eSl D.slice (eBin D.ix (bVar 2) (eC (.int 0))) (pIs (eC (.int 1))) pNo) aNil)) [.sh (szD s), .sh (.int (v : Int)), .sh (ruD r), .un, .un, .un, .un, .un] S = some ((r.1.zip (r.1.drop 1)).map fun p : Nat × Nat => D.tup [.int (p.1 : Int), .int (p.2 : Int)], S) := by
    have sl : eSl D.slice (eBin D.ix (bVar 2) (eC (.int 0))) (pIs (eC (.int 1))) pNo [.sh (szD s), .sh (.int (v : Int)), .sh (ruD r), .un, .un, .un, .un, .un] S = some (.tup ((r.1.map fun (a : Nat) => D.int (a : Int)).drop 1), S) := by
      unfold eSl
      rw [x0 rfl, Option.bind_some]
      show ((D.slice (varsD r.1) (some 1) none).map fun z => (z, S)) = _
      unfold varsD
      rw [slice1]
      rfl
    unfold iZp
    rw [aCons_of (x0 rfl) (aCons_of sl rfl), Option.bind_some]
    show (some (List.zipWith _ (r.1.map fun (a : Nat) => D.int (a : Int)) ((r.1.map fun (a : Nat) => D.int (a : Int)).drop 1))).map _ = _
    rw [zipPair_with, ← List.map_drop]
    unfold zipPair
    rw [List.zip_map, List.map_map]
    rfl
  have a3 := all_true (ρ := [.sh (szD s), .sh (.int (v : Int)), .sh (ruD r), .un, .un, .un, .un, .un]) (S := S) (g := gTp 2 (gsCons (gNm 5) (gsCons (gNm 6) gsNil))) (te := eBin D.lt (bVar 5) (bVar 6)) (w := [5, 6]) (fun p : Nat × Nat => D.tup [.int (p.1 : Int), .int (p.2 : Int)]) (r.1.zip (r.1.drop 1)) zp fun p hpm =>
    ⟨[.sh (szD s), .sh (.int (v : Int)), .sh (ruD r), .un, .un, .sh (.int (p.1 : Int)), .sh (.int (p.2 : Int)), .un], rfl, eBin_of (S1 := S) (S2 := S) (d1 := .int (p.1 : Int)) (d2 := .int (p.2 : Int)) rfl rfl (lt_of _ _ (by have := pair_lt hp p hpm; omega))⟩
  have a4 := all_true (ρ := [.sh (szD s), .sh (.int (v : Int)), .sh (ruD r), .un, .un, .un, .un, .un]) (S := S) (it := iSeq (eBin D.ix (bVar 2) (eC (.int 1)))) (g := gNm 7) (te := eAn (eCall F_is_integer (aCons (eVar 7) aNil)) (eChain D.le D.lt (eC (.int 0)) (bVar 7) (eBin D.ix (bVar 0) (bVar 1)))) (w := [7]) D.int r.2 (iSeq_of (x1 rfl) rfl) fun x hx =>
    ⟨[.sh (szD s), .sh (.int (v : Int)), .sh (ruD r), .un, .un, .un, .un, .sh (.int x)], rfl, eAn_t (int_of rfl) (chain_of (S1 := S) (S2 := S) (S3 := S) (d1 := .int 0) (d2 := .int x) (d3 := .int ((s.getD v 0 : Nat) : Int)) rfl rfl (le_of _ _ (h.val x hx).1) (eBin_of (S1 := S) (S2 := S) rfl rfl (szD_at hv)) (lt_of _ _ (h.val x hx).2))⟩
  have c5 := compF_all (g := gNm 4) (te := eBin D.ix (bVar 0) (bVar 4)) (ρ := [.sh (szD s), .sh (.int (v : Int)), .sh (ruD r), .un, .un, .un, .un, .un]) (S := S) (fun (a : Nat) => D.int (a : Int)) (fun a => D.int ((s.getD a 0 : Nat) : Int)) r.1 fun a ha => ⟨[.sh (szD s), .sh (.int (v : Int)), .sh (ruD r), .un, .sh (.int (a : Int)), .un, .un, .un], rfl, eBin_of (S1 := S) (S2 := S) rfl rfl (szD_at (by have := h.par a ha; omega))⟩
  have l5 := eLc_of (vs := [4]) (it := iSeq (eBin D.ix (bVar 2) (eC (.int 0)))) (ρ := [.sh (szD s), .sh (.int (v : Int)), .sh (ruD r), .un, .un, .un, .un, .un]) (S := S) (iSeq_of (x0 rfl) rfl) c5
  have sm : Small [[]] (r.1.map fun a => s.getD a 0) := by
    refine ⟨fun n hn => ?_, ?_, fun q hq => by rw [List.mem_singleton.mp hq, List.length_nil, List.length_map]; have := h.few; omega⟩
    · obtain ⟨a, _, rfl⟩ := List.mem_map.mp hn
      exact hs.at a
    · have : 3 ^ (r.1.map fun a => s.getD a 0).length ≤ 3 ^ 4 := Nat.pow_le_pow_right (by decide) (by rw [List.length_map]; exact h.few)
      simp only [List.length_cons, List.length_nil]
      omega
  have ro := rows_of_g (d := .lst (r.1.map fun a => D.int ((s.getD a 0 : Nat) : Int))) (r.1.map fun a => s.getD a 0) S sm (by rw [List.map_map]; rfl)
  have len1 : gLen [rowD r.2] = some (.int ((prodN (r.1.map fun a => s.getD a 0) : Nat) : Int)) := by
    simp only [gLen, rowD, List.length_map, h.len]
  have len2 : gLen [.tup ((rowsM [[]] (r.1.map fun a => s.getD a 0)).map rowD)] = some (.int ((prodN (r.1.map fun a => s.getD a 0) : Nat) : Int)) := by
    simp only [gLen, List.length_map, rowsM_count, List.length_cons, List.length_nil, Nat.zero_add, Nat.one_mul]
  unfold F_is_rule b_is_rule
  refine fnD_rt (S' := S) ?_ rfl
  refine sSeq_of (S1 := S) (ρ' := [.sh (szD s), .sh (.int (v : Int)), .sh (ruD r), .un, .un, .un, .un, .un]) (sIf_f (S1 := S) (tOr_f (tNo_of (tru_bl (isi_of (S1 := S) (d := ruD r) rfl (isi_tup _)))) (tOr_f (S1 := S) (tBl_of (eBin_of (S1 := S) (S2 := S) (d1 := .int 2) (d2 := .int 2) rfl rfl (ne_same 2))) (tNo_of (tru_bl a1)))) rfl) ?_
  refine sSeq_of (S1 := S) (ρ' := [.sh (szD s), .sh (.int (v : Int)), .sh (ruD r), .un, .un, .un, .un, .un]) (sIf_f (S1 := S) (tNo_of (tru_bl a2)) rfl) ?_
  refine sSeq_of (S1 := S) (ρ' := [.sh (szD s), .sh (.int (v : Int)), .sh (ruD r), .un, .un, .un, .un, .un]) (sIf_f (S1 := S) (tNo_of (tru_bl a3)) rfl) ?_
  refine sSeq_of (S1 := S) (ρ' := [.sh (szD s), .sh (.int (v : Int)), .sh (ruD r), .un, .un, .un, .un, .un]) (sIf_f (S1 := S) (tBl_of (eBin_of (S1 := S) (S2 := S) (eCB_of (aCons_of (x1 rfl) rfl) len1) (eCB_of (aCons_of (eCall_of (aCons_of l5 rfl) ro) rfl) len2) (ne_same _))) rfl) ?_
  exact sRet_of a4
end W17

set_option Elab.async false
set_option linter.all false
set_option maxRecDepth 100000
namespace DL
theorem filter_at {α : Type} (d : α) (q : α → Bool) (l : List α) : ((List.range l.length).filter fun v => q (l.getD v d)).length = (l.filter q).length := by
  have e : l = (List.range l.length).map fun v => l.getD v d := by
    refine List.ext_getElem? fun i => ?_
    rw [List.getElem?_map]
    by_cases h : i < l.length
    · rw [List.getElem?_range h, List.getElem?_eq_getElem h, Option.map_some, List.getD_eq_getElem?_getD, List.getElem?_eq_getElem h]; rfl
    · rw [List.getElem?_eq_none (by omega), List.getElem?_eq_none (by simp; omega)]; rfl
  have e2 : (l.filter q).length = (((List.range l.length).map fun v => l.getD v d).filter q).length := by rw [← e]
  rw [e2, List.filter_map, List.length_map]
  rfl
theorem free_len (L : Lots) : (freeL L).length = (L.filter fun c => c.2.isLot).length := filter_at (0, Vr.lot []) (fun c => c.2.isLot) L
end DL
namespace W17
open DL
open L2 (atI atI_nat ixN)
section
variable {L : Lots}
theorem sAug_of {g : D → D → Option D} {i : Nat} {f : Ex} {ρ : Rho} {S S1 : Sto} {d1 d2 d : D} (h0 : ρ[i]? = some (.sh d1)) (h1 : f ρ S = some (d2, S1)) (h2 : g d1 d2 = some d) : sAug g i f ρ S = some (.nx (ρ.set i (.sh d)) S1) := by
  unfold sAug
  rw [h0]
  show (f ρ S).bind _ = _
  rw [h1, Option.bind_some, h2]
  rfl
def alB : Stm := (sIf (tBl (eBin D.isN (eBin D.ix (bVar 2) (bVar 5)) (eC .non))) (sSeq (sAug D.imul 4 (bVar 6))
    (sIf (tNo (tTru (eCall F_are_chances (aCons (eVar 6) (aCons (eBin D.ix (bVar 3) (bVar 5)) aNil))))) (sRet (eC (.bl false))) sNx)) (sIf (DL.tOr (tBl (eBin D.notN (eBin D.ix (bVar 3) (bVar 5)) (eC .non))) (tNo (tTru (eCall F_is_rule (aCons (eVar 1) (aCons (eVar 5) (aCons (eBin D.ix (bVar 2) (bVar 5)) aNil))))))) (sRet (eC (.bl false))) sNx))
theorem al_loop (h : LotsOk L) (S : Sto) (a : Sl) : ∀ (suf pre : Lots) (many k : Nat) (z5 z6 : Sl), L = pre ++ suf → many ≤ 3 ^ k → k + (suf.filter fun c => c.2.isLot).length ≤ 3 →
    ∃ (m' : Nat) (z5' z6' : Sl), m' ≤ 27 ∧ forF (gTp 2 (gsCons (gNm 5) (gsCons (gNm 6) gsNil))) alB (((suf.map (·.1)).map fun (n : Nat) => D.int (n : Int)).mapIdx fun i y => .tup [.int ((pre.length + i : Nat) : Int), y]) [a, .sh (szD (szL L)), .sh (ruLs L), .sh (chLs L), .sh (.int (many : Int)), z5, z6] S = some (.nx [a, .sh (szD (szL L)), .sh (ruLs L), .sh (chLs L), .sh (.int (m' : Int)), z5', z6'] S)
  | [], pre, many, k, z5, z6, _, hm, hk => ⟨many, z5, z6, by
      have : 3 ^ k ≤ 3 ^ 3 := Nat.pow_le_pow_right (by decide) (by simpa using hk)
      omega, rfl⟩
  | c :: suf, pre, many, k, z5, z6, e, hm, hk => by
    have hv : pre.length < L.length := by rw [e]; simp
    have hc : vrAt L pre.length = c.2 := by
      unfold vrAt
      rw [List.getD_eq_getElem?_getD, e, List.getElem?_append_right (Nat.le_refl _), Nat.sub_self]
      rfl
    have hsz : (szL L).getD pre.length 0 = c.1 := by
      unfold szL
      rw [List.getD_eq_getElem?_getD, List.getElem?_map, e, List.getElem?_append_right (Nat.le_refl _), Nat.sub_self]
      rfl
    have hs : SzOk (szL L) := h.szOk
    have ra := ru_at hv
    have ca := ch_at hv
    rw [hc] at ra ca
    have t : tBl (eBin D.isN (eBin D.ix (bVar 2) (bVar 5)) (eC .non)) [a, .sh (szD (szL L)), .sh (ruLs L), .sh (chLs L), .sh (.int (many : Int)), .sh (.int (pre.length : Int)), .sh (.int (c.1 : Int))] S = some (c.2.isLot, S) := tBl_of (eBin_of (S1 := S) (S2 := S) (d2 := .non) (eBin_of (S1 := S) (S2 := S) rfl rfl ra) rfl (isN_ru _))
    have sh : ((((c :: suf).map (·.1)).map fun (n : Nat) => D.int (n : Int)).mapIdx fun i y => D.tup [.int ((pre.length + i : Nat) : Int), y]) = .tup [.int (pre.length : Int), .int (c.1 : Int)] :: ((suf.map (·.1)).map fun (n : Nat) => D.int (n : Int)).mapIdx fun i y => D.tup [.int ((pre.length + 1 + i : Nat) : Int), y] := by
      rw [List.map_cons, List.map_cons, enum_shift]
    cases ec : c.2 with
    | lot ws =>
      rw [ec] at t ca
      rw [show (Vr.lot ws).isLot = true from rfl] at t
      rw [show chOf (Vr.lot ws) = chanceD ws from rfl] at ca
      obtain ⟨w1, w2, w3, w4⟩ := h.lot pre.length ws hv (by rw [hc, ec])
      rw [hsz] at w1
      have c3 := hs.at pre.length
      rw [hsz] at c3
      have hk' : k + 1 + (suf.filter fun c => c.2.isLot).length ≤ 3 := by
        rw [List.filter_cons_of_pos (by rw [ec]; rfl), List.length_cons] at hk; omega
      have hm' : many * c.1 ≤ 3 ^ (k + 1) := by rw [Nat.pow_succ]; exact Nat.mul_le_mul hm c3
      obtain ⟨m', z5', z6', q, ih⟩ := al_loop h S a suf (pre ++ [c]) (many * c.1) (k + 1) (.sh (.int (pre.length : Int))) (.sh (.int (c.1 : Int))) (by rw [e, List.append_assoc]; rfl) hm' hk'
      refine ⟨m', z5', z6', q, ?_⟩
      have ac := are_chances_s w2 w3 w4 (by rw [w1]; omega) S
      rw [w1] at ac
      have hml : many ≤ 27 := Nat.le_trans hm (Nat.pow_le_pow_right (by decide) (show k ≤ 3 by omega))
      have im : D.imul (.int (many : Int)) (.int (c.1 : Int)) = some (.int ((many * c.1 : Nat) : Int)) := by
        have q : (-(2 ^ 64) < ((many : Nat) : Int) ∧ ((many : Nat) : Int) < 2 ^ 64) ∨ (-(2 ^ 64) < ((c.1 : Nat) : Int) ∧ ((c.1 : Nat) : Int) < 2 ^ 64) := .inl ⟨by omega, by omega⟩
        simp only [D.imul]
        rw [if_pos q, Int.natCast_mul]
      have st : alB [a, .sh (szD (szL L)), .sh (ruLs L), .sh (chLs L), .sh (.int (many : Int)), .sh (.int (pre.length : Int)), .sh (.int (c.1 : Int))] S = some (.nx [a, .sh (szD (szL L)), .sh (ruLs L), .sh (chLs L), .sh (.int ((many * c.1 : Nat) : Int)), .sh (.int (pre.length : Int)), .sh (.int (c.1 : Int))] S) := by
        unfold alB
        refine sIf_t t ?_
        refine sSeq_of (S1 := S) (ρ' := [a, .sh (szD (szL L)), .sh (ruLs L), .sh (chLs L), .sh (.int ((many * c.1 : Nat) : Int)), .sh (.int (pre.length : Int)), .sh (.int (c.1 : Int))]) ?_ ?_
        · exact sAug_of (d1 := .int (many : Int)) (d2 := .int (c.1 : Int)) (S1 := S) rfl rfl im
        · exact sIf_f (S1 := S) (tNo_of (tru_bl (eCall_of (S1 := S) (aCons_of (S1 := S) rfl (aCons_of (eBin_of (S1 := S) (S2 := S) rfl rfl ca) rfl)) ac))) rfl
      rw [sh]
      have f1 := forF_step (g := gTp 2 (gsCons (gNm 5) (gsCons (gNm 6) gsNil))) (b := alB) (x := .tup [.int (pre.length : Int), .int (c.1 : Int)]) (xs := ((suf.map (·.1)).map fun (n : Nat) => D.int (n : Int)).mapIdx fun i y => D.tup [.int ((pre.length + 1 + i : Nat) : Int), y]) (ρ := [a, .sh (szD (szL L)), .sh (ruLs L), .sh (chLs L), .sh (.int (many : Int)), z5, z6]) (ρ1 := [a, .sh (szD (szL L)), .sh (ruLs L), .sh (chLs L), .sh (.int (many : Int)), .sh (.int (pre.length : Int)), .sh (.int (c.1 : Int))]) rfl st
      rw [List.length_append, List.length_singleton] at ih
      exact f1.trans ih
    | rule r =>
      rw [ec] at t ca ra
      rw [show (Vr.rule r).isLot = false from rfl] at t
      rw [show chOf (Vr.rule r) = .non from rfl] at ca
      rw [show ruOf (Vr.rule r) = ruD r from rfl] at ra
      obtain ⟨w1, w2⟩ := h.rule pre.length r hv (by rw [hc, ec])
      have hk' : k + (suf.filter fun c => c.2.isLot).length ≤ 3 := by
        rw [List.filter_cons_of_neg (by rw [ec]; exact Bool.false_ne_true)] at hk; exact hk
      obtain ⟨m', z5', z6', q, ih⟩ := al_loop h S a suf (pre ++ [c]) many k (.sh (.int (pre.length : Int))) (.sh (.int (c.1 : Int))) (by rw [e, List.append_assoc]; rfl) hm hk'
      refine ⟨m', z5', z6', q, ?_⟩
      have ir := is_rule_s hs (by unfold szL; rw [List.length_map]; exact hv) w1 w2 S
      have st : alB [a, .sh (szD (szL L)), .sh (ruLs L), .sh (chLs L), .sh (.int (many : Int)), .sh (.int (pre.length : Int)), .sh (.int (c.1 : Int))] S = some (.nx [a, .sh (szD (szL L)), .sh (ruLs L), .sh (chLs L), .sh (.int (many : Int)), .sh (.int (pre.length : Int)), .sh (.int (c.1 : Int))] S) := by
        unfold alB
        refine sIf_f t ?_
        exact sIf_f (S1 := S) (tOr_f (S1 := S) (tBl_of (eBin_of (S1 := S) (S2 := S) (d1 := .non) (d2 := .non) (eBin_of (S1 := S) (S2 := S) rfl rfl ca) rfl rfl)) (tNo_of (tru_bl (eCall_of (S1 := S) (aCons_of (S1 := S) rfl (aCons_of (S1 := S) rfl (aCons_of (eBin_of (S1 := S) (S2 := S) rfl rfl ra) rfl))) ir)))) rfl
      rw [sh]
      have f1 := forF_step (g := gTp 2 (gsCons (gNm 5) (gsCons (gNm 6) gsNil))) (b := alB) (x := .tup [.int (pre.length : Int), .int (c.1 : Int)]) (xs := ((suf.map (·.1)).map fun (n : Nat) => D.int (n : Int)).mapIdx fun i y => D.tup [.int ((pre.length + 1 + i : Nat) : Int), y]) (ρ := [a, .sh (szD (szL L)), .sh (ruLs L), .sh (chLs L), .sh (.int (many : Int)), z5, z6]) (ρ1 := [a, .sh (szD (szL L)), .sh (ruLs L), .sh (chLs L), .sh (.int (many : Int)), .sh (.int (pre.length : Int)), .sh (.int (c.1 : Int))]) rfl st
      rw [List.length_append, List.length_singleton] at ih
      exact f1.trans ih
theorem are_lots_s (h : LotsOk L) (S : Sto) : F_are_lots [lotsD L] S = some (.bl true, S) := by
  have hs := h.szOk
  have hl : (szL L).length = L.length := by unfold szL; rw [List.length_map]
  have h2 := h.sz.2.1
  obtain ⟨m, z5, z6, hm, l⟩ := al_loop h S (.sh (lotsD L)) L [] 1 0 .un .un rfl (by decide) (by have := h.few; rw [free_len] at this; omega)
  have asz := are_sizes_s (s := szL L) (by omega) (by omega) (fun n hn => ⟨by have := (hs.2 n hn).1; omega, (hs.2 n hn).2⟩) S
  have le : (((L.map (·.1)).map fun (n : Nat) => D.int (n : Int)).mapIdx fun i y => D.tup [.int ((([] : Lots).length + i : Nat) : Int), y]) = enumD ((szL L).map fun (n : Nat) => D.int (n : Int)) := by
    unfold enumD szL
    simp only [List.length_nil, Nat.zero_add]
  rw [le] at l
  have g1 : gLen [ruLs L] = some (.int (L.length : Int)) := by simp only [gLen, ruLs, List.length_map]
  have g2 : gLen [chLs L] = some (.int (L.length : Int)) := by simp only [gLen, chLs, List.length_map]
  unfold F_are_lots b_are_lots
  refine fnD_rt (S' := S) ?_ rfl
  refine sSeq_of (S1 := S) (ρ' := [.sh (lotsD L), .un, .un, .un, .un, .un, .un]) (sIf_f (S1 := S) (tOr_f (tNo_of (tru_bl (isi_of (S1 := S) (d := lotsD L) rfl (isi_tup _)))) (tOr_f (S1 := S) (tBl_of (eBin_of (S1 := S) (S2 := S) (d1 := .int 3) (d2 := .int 3) rfl rfl (ne_same 3))) (tNo_of (tru_bl (eCall_of (S1 := S) (aCons_of (S1 := S) (eBin_of (S1 := S) (S2 := S) (d1 := lotsD L) (d2 := .int 0) rfl rfl (at0 _ _)) rfl) asz))))) rfl) ?_
  refine sSeq_of (S1 := S) (ρ' := [.sh (lotsD L), .sh (szD (szL L)), .sh (ruLs L), .sh (chLs L), .un, .un, .un]) (sAsg_of (d := lotsD L) (S1 := S) rfl rfl) ?_
  refine sSeq_of (S1 := S) (ρ' := [.sh (lotsD L), .sh (szD (szL L)), .sh (ruLs L), .sh (chLs L), .un, .un, .un]) (sIf_f (S1 := S) (tOr_f (tNo_of (tru_bl (isi_of (S1 := S) (d := ruLs L) rfl (isi_tup _)))) (tOr_f (tNo_of (tru_bl (isi_of (S1 := S) (d := chLs L) rfl (isi_tup _)))) (tNo_of (tBl_of (chain_of (S1 := S) (S2 := S) (S3 := S) (eCB_of (ds := [ruLs L]) (S1 := S) rfl g1) (eCB_of (ds := [chLs L]) (S1 := S) rfl g2) (eq_same _) (eCB_of (ds := [szD (szL L)]) (S1 := S) rfl len_szL) (eq_same _)))))) rfl) ?_
  refine sSeq_of (S1 := S) (ρ' := [.sh (lotsD L), .sh (szD (szL L)), .sh (ruLs L), .sh (chLs L), .sh (.int 1), .un, .un]) rfl ?_
  refine sSeq_of (sFor_of (S1 := S) (xs := enumD ((szL L).map fun (n : Nat) => D.int (n : Int))) rfl l) ?_
  refine sRet_of ?_
  exact eBin_of (S1 := S) (S2 := S) (d1 := .int (m : Int)) (d2 := .int 128) rfl rfl (le_of _ _ (by omega))
theorem not_lots_s (S : Sto) : F_are_lots [.tup [szD (szL L), ruLs L]] S = some (.bl false, S) := by
  unfold F_are_lots b_are_lots
  refine fnD_rt (S' := S) ?_ rfl
  refine sSeq_rt ?_
  refine sIf_t (S1 := S) (tOr_f (tNo_of (tru_bl (isi_of (S1 := S) (d := .tup [szD (szL L), ruLs L]) rfl (isi_tup _)))) (tOr_t (S1 := S) (tBl_of (eBin_of (S1 := S) (S2 := S) (d1 := .int 2) (d2 := .int 3) rfl rfl ?_)))) (sRet_of rfl)
  rw [ne_int]
  rfl
end
end W17

set_option Elab.async false
set_option linter.all false
set_option maxRecDepth 100000
namespace W17
open DL
open L2 (atI atI_nat ixN)
/-- a comprehension whose condition draws -/
theorem compF_ft {α : Type} {g : Tg} {tt : Tx} {te : Ex} {ρ : Rho} (enc R : α → D) (h : ∀ x m S, m ≤ 40000 → Good m S → ∃ ρ2 b S', g (enc x) ρ = some ρ2 ∧ tt ρ2 S = some (b, S') ∧ te ρ2 S' = some (R x, S') ∧ Good (m + 1) S') :
    ∀ (xs : List α) (m : Nat) (S : Sto), Good m S → m + xs.length ≤ 40000 → ∃ (ys : List α) (S' : Sto), compF g tt te ρ (xs.map enc) S = some (ys.map R, S') ∧ Good (m + xs.length) S' ∧ ys.Sublist xs
  | [], m, S, hS, _ => ⟨[], S, rfl, hS, .slnil⟩
  | x :: xs, m, S, hS, hm => by
    rw [List.length_cons] at hm
    obtain ⟨ρ2, b, S1, e1, e2, e3, g1⟩ := h x m S (by omega) hS
    obtain ⟨ys, S2, e4, g2, sl⟩ := compF_ft enc R h xs (m + 1) S1 g1 (by omega)
    have gg : Good (m + (x :: xs).length) S2 := by rw [List.length_cons, show m + (xs.length + 1) = m + 1 + xs.length by omega]; exact g2
    cases b with
    | true =>
      refine ⟨x :: ys, S2, ?_, gg, sl.cons_cons x⟩
      rw [List.map_cons]
      unfold compF
      rw [e1, Option.bind_some, e2, Option.bind_some, if_pos rfl, e3, Option.bind_some, e4]
      rfl
    | false =>
      refine ⟨ys, S2, ?_, gg, sl.cons x⟩
      rw [List.map_cons]
      unfold compF
      rw [e1, Option.bind_some, e2, Option.bind_some, if_neg Bool.false_ne_true, e4]
theorem sPar_of {i j : Nat} {fs : Ars} {ρ : Rho} {S S1 : Sto} {x y : D} (h : fs ρ S = some ([x, y], S1)) : sPar i j fs ρ S = some (.nx ((ρ.set i (.sh x)).set j (.sh y)) S1) := by
  unfold sPar
  rw [h, Option.bind_some]
theorem intsOf_row (r : List Int) : intsOf (r.map D.int) = some r := intsOf_map r
theorem maxL_ok {s : List Nat} {r : List Int} (hr : RowOk s r) (h : 0 < r.length) : ∃ m, maxL r = some m ∧ 0 ≤ m := by
  cases r with
  | nil => simp at h
  | cons x r =>
    refine ⟨_, rfl, ?_⟩
    obtain ⟨h1, _⟩ := maxL_spec (ns := x :: r) rfl
    obtain ⟨j, hj, e⟩ := List.mem_iff_getElem.mp h1
    have := (hr j hj).1
    rw [List.getD_eq_getElem?_getD, List.getElem?_eq_getElem hj, Option.getD_some, e] at this
    exact this
theorem tAn_f {t1 t2 : Tx} {ρ : Rho} {S S1 : Sto} (h1 : t1 ρ S = some (false, S1)) : tAn t1 t2 ρ S = some (false, S1) := by
  unfold tAn
  rw [h1, Option.bind_some, if_neg Bool.false_ne_true]
theorem tAn_t {t1 t2 : Tx} {ρ : Rho} {S S1 : Sto} {o : Option (Bool × Sto)} (h1 : t1 ρ S = some (true, S1)) (h2 : t2 ρ S1 = o) : tAn t1 t2 ρ S = o := by
  unfold tAn
  rw [h1, Option.bind_some, if_pos rfl]
  exact h2
theorem law_rule_s {s : List Nat} {v m : Nat} {S : Sto} (hs : SzOk s) (hv : v < s.length) (hg : Good m S) (hm : m ≤ 20000) : ∃ (r : Ru) (S' : Sto), F__law_rule [.ref 0, szD s, .int (v : Int)] S = some (ruD r, S') ∧ RuOk s v r ∧ r.1.Pairwise (· < ·) ∧ Good (m + 1100) S' := by
  have hv4 : v < 4 := by have := hs.1; omega
  have c1 := compF_ft (g := gNm 6) (tt := tBl (eBin D.eq (eCall F__law_take (aCons (eVar 0) (aCons (eC (.int 2)) aNil))) (eC (.int 0)))) (te := eVar 6) (ρ := [.sh (.ref 0), .sh (szD s), .sh (.int (v : Int)), .un, .un, .un, .un, .un]) (fun (a : Nat) => D.int (a : Int)) (fun (a : Nat) => D.int (a : Int)) fun a m S hm hS => by
    obtain ⟨r, S', t, hr, g⟩ := take_s 2 hS (by omega) (by decide) (by decide)
    exact ⟨[.sh (.ref 0), .sh (szD s), .sh (.int (v : Int)), .un, .un, .un, .sh (.int (a : Int)), .un], _, S', rfl, tBl_of (eBin_of (d2 := .int 0) (S2 := S') (eCall_of (S1 := S) rfl t) rfl (eq_int _ _)), rfl, g⟩
  obtain ⟨ps, S1, e1, g1, sl⟩ := c1 (List.range v) m S hg (by rw [List.length_range]; omega)
  rw [List.length_range] at g1
  have hps : ∀ a ∈ ps, a < v := fun a ha => List.mem_range.mp (sl.subset ha)
  have hpw : ps.Pairwise (· < ·) := List.Pairwise.sublist sl List.pairwise_lt_range
  have hpl : ps.length ≤ v := by have := sl.length_le; rwa [List.length_range] at this
  have st1 : sAsg (eCB gTuple (aCons (eLc (iRng (aCons (bVar 2) aNil)) (gNm 6) (tBl (eBin D.eq (eCall F__law_take (aCons (eVar 0) (aCons (eC (.int 2)) aNil))) (eC (.int 0)))) (eVar 6) [6]) aNil)) (gNm 3) [.sh (.ref 0), .sh (szD s), .sh (.int (v : Int)), .un, .un, .un, .un, .un] S = some (.nx [.sh (.ref 0), .sh (szD s), .sh (.int (v : Int)), .sh (varsD ps), .un, .un, .un, .un] S1) := by
    have rg : iRng (aCons (bVar 2) aNil) [.sh (.ref 0), .sh (szD s), .sh (.int (v : Int)), .un, .un, .un, .un, .un] S = some ((List.range v).map fun (i : Nat) => D.int (i : Int), S) := iRng_of (ds := [.int (v : Int)]) (S1 := S) rfl (rangeOf_nat (show v ≤ 100000 by omega))
    exact sAsg_of (d := varsD ps) (eCB_of (aCons_of (eLc_of (vs := [6]) rg e1) rfl) rfl) rfl
  obtain ⟨kind, S2, t2, hk, g2⟩ := take_s 4 g1 (by omega) (by decide) (by decide)
  have sm : Small [[]] (ps.map fun a => s.getD a 0) := by
    refine ⟨fun n hn => ?_, ?_, fun q hq => by rw [List.mem_singleton.mp hq, List.length_nil, List.length_map]; omega⟩
    · obtain ⟨a, _, rfl⟩ := List.mem_map.mp hn
      exact hs.at a
    · have : 3 ^ (ps.map fun a => s.getD a 0).length ≤ 3 ^ 4 := Nat.pow_le_pow_right (by decide) (by rw [List.length_map]; omega)
      simp only [List.length_cons, List.length_nil]
      omega
  have ro := law_values_s (.lst (ps.map fun a => D.int ((s.getD a 0 : Nat) : Int))) (ps.map fun a => s.getD a 0) S2 (by rw [List.map_map]; rfl) sm
  generalize hrows : rowsM [[]] (ps.map fun a => s.getD a 0) = rows at *
  have hcount : rows.length = prodN (ps.map fun a => s.getD a 0) := by rw [← hrows, rowsM_count]; simp
  have hrl : rows.length ≤ 1000 := by rw [← hrows]; exact rowsM_len sm
  have hrow : ∀ r ∈ rows, r.length = ps.length ∧ RowOk (ps.map fun a => s.getD a 0) r := fun r hr => by
    rw [← hrows] at hr
    obtain ⟨h1, h2⟩ := rows_row hr
    exact ⟨by rw [h1, List.length_map], h2⟩
  have c5 := compF_all (g := gNm 6) (te := eBin D.ix (bVar 1) (bVar 6)) (ρ := [.sh (.ref 0), .sh (szD s), .sh (.int (v : Int)), .sh (varsD ps), .un, .un, .un, .un]) (S := S2) (fun (a : Nat) => D.int (a : Int)) (fun a => D.int ((s.getD a 0 : Nat) : Int)) ps fun a ha => ⟨[.sh (.ref 0), .sh (szD s), .sh (.int (v : Int)), .sh (varsD ps), .un, .un, .sh (.int (a : Int)), .un], rfl, eBin_of (S1 := S2) (S2 := S2) rfl rfl (szD_at (by have := hps a ha; omega))⟩
  have l5 := eLc_of (vs := [6]) (it := iSeq (bVar 3)) (ρ := [.sh (.ref 0), .sh (szD s), .sh (.int (v : Int)), .sh (varsD ps), .un, .un, .un, .un]) (S := S2) rfl c5
  have st2 : sPar 4 5 (aCons (eCall F__law_take (aCons (eVar 0) (aCons (eC (.int 4)) aNil))) (aCons (eCall F__law_values (aCons (eLc (iSeq (bVar 3)) (gNm 6) tYs (eBin D.ix (bVar 1) (bVar 6)) [6]) aNil)) aNil)) [.sh (.ref 0), .sh (szD s), .sh (.int (v : Int)), .sh (varsD ps), .un, .un, .un, .un] S1 = some (.nx [.sh (.ref 0), .sh (szD s), .sh (.int (v : Int)), .sh (varsD ps), .sh (.int (kind : Int)), .sh (.lst (rows.map rowD)), .un, .un] S2) :=
    sPar_of (aCons_of (eCall_of (S1 := S1) rfl t2) (aCons_of (eCall_of (aCons_of l5 rfl) ro) rfl))
  have sv : 2 ≤ s.getD v 0 ∧ s.getD v 0 ≤ 3 := by
    rw [List.getD_eq_getElem?_getD, List.getElem?_eq_getElem hv]
    exact hs.2 _ (List.getElem_mem hv)
  have szv : ∀ {ρ : Rho} {S : Sto}, ρ[1]? = some (.sh (szD s)) → ρ[2]? = some (.sh (.int (v : Int))) → eBin D.ix (bVar 1) (bVar 2) ρ S = some (.int ((s.getD v 0 : Nat) : Int), S) := fun {ρ S} q1 q2 => eBin_of (S1 := S) (S2 := S) (d1 := szD s) (d2 := .int (v : Int)) (by unfold bVar; rw [q1]; rfl) (by unfold bVar; rw [q2]; rfl) (szD_at hv)
  have fin : ∀ (tb : List Int) (S' : Sto), tb.length = rows.length → (∀ x ∈ tb, 0 ≤ x ∧ x < (s.getD v 0 : Nat)) → RuOk s v (ps, tb) := fun tb S' h1 h2 => ⟨hps, h1.trans hcount, h2, by show ps.length ≤ 4; omega⟩
  have tq : ∀ i : Int, tBl (eBin D.eq (bVar 4) (eC (.int i))) [.sh (.ref 0), .sh (szD s), .sh (.int (v : Int)), .sh (varsD ps), .sh (.int (kind : Int)), .sh (.lst (rows.map rowD)), .un, .un] S2 = some (decide ((kind : Int) = i), S2) := fun i => tBl_of (eBin_of (S1 := S2) (S2 := S2) (d1 := .int (kind : Int)) (d2 := .int i) rfl rfl (eq_int _ _))
  have tp : tTru (bVar 3) [.sh (.ref 0), .sh (szD s), .sh (.int (v : Int)), .sh (varsD ps), .sh (.int (kind : Int)), .sh (.lst (rows.map rowD)), .un, .un] S2 = some (!ps.isEmpty, S2) := tTru_of (d := varsD ps) rfl (by unfold varsD; show some (!(ps.map _).isEmpty) = _; rw [List.isEmpty_map])
  have tk : ∀ i : Int, tAn (tBl (eBin D.eq (bVar 4) (eC (.int i)))) (tTru (bVar 3)) [.sh (.ref 0), .sh (szD s), .sh (.int (v : Int)), .sh (varsD ps), .sh (.int (kind : Int)), .sh (.lst (rows.map rowD)), .un, .un] S2 = some (decide ((kind : Int) = i) && !ps.isEmpty, S2) := fun i => by
    by_cases c : (kind : Int) = i
    · rw [decide_eq_true c]
      exact tAn_t (by rw [tq i, decide_eq_true c]) tp
    · rw [decide_eq_false c]
      exact tAn_f (by rw [tq i, decide_eq_false c])
  have ret : ∀ {te : Ex} {tb : List Int} {S3 : Sto}, compF (gNm 7) tYs te [.sh (.ref 0), .sh (szD s), .sh (.int (v : Int)), .sh (varsD ps), .sh (.int (kind : Int)), .sh (.lst (rows.map rowD)), .un, .un] (rows.map rowD) S2 = some (tb.map D.int, S3) → sRet (eTup (aCons (eVar 3) (aCons (eCB gTuple (aCons (eLc (iSeq (bVar 5)) (gNm 7) tYs te [7]) aNil)) aNil))) [.sh (.ref 0), .sh (szD s), .sh (.int (v : Int)), .sh (varsD ps), .sh (.int (kind : Int)), .sh (.lst (rows.map rowD)), .un, .un] S2 = some (.rt (ruD (ps, tb)) S3) := fun {te tb S3} c => by
    have l := eLc_of (vs := [7]) (it := iSeq (bVar 5)) (ρ := [.sh (.ref 0), .sh (szD s), .sh (.int (v : Int)), .sh (varsD ps), .sh (.int (kind : Int)), .sh (.lst (rows.map rowD)), .un, .un]) (S := S2) rfl c
    exact sRet_of (pair_s (S1 := S2) rfl (eCB_of (aCons_of l rfl) rfl))
  have len1 : ∀ {k : Nat} {S' : Sto}, Good k S' → S'.length = S.length := fun g => by rw [g.len, hg.len]
  by_cases k0 : (decide ((kind : Int) = 0) && !ps.isEmpty) = true
  · have hne : 0 < ps.length := by
      rw [Bool.and_eq_true] at k0
      cases ps with
      | nil => simp at k0
      | cons a b => simp
    have c := compF_all (g := gNm 7) (te := eCB gMin2 (aCons (eCB gMaxA (aCons (bVar 7) aNil)) (aCons (eBin D.sub (eBin D.ix (bVar 1) (bVar 2)) (eC (.int 1))) aNil))) (ρ := [.sh (.ref 0), .sh (szD s), .sh (.int (v : Int)), .sh (varsD ps), .sh (.int (kind : Int)), .sh (.lst (rows.map rowD)), .un, .un]) (S := S2) rowD (fun r => D.int (if ((s.getD v 0 : Nat) : Int) - 1 < (maxL r).getD 0 then ((s.getD v 0 : Nat) : Int) - 1 else (maxL r).getD 0)) rows fun r hr => by
      obtain ⟨mx, e, _⟩ := maxL_ok (hrow r hr).2 (by rw [(hrow r hr).1]; exact hne)
      refine ⟨[.sh (.ref 0), .sh (szD s), .sh (.int (v : Int)), .sh (varsD ps), .sh (.int (kind : Int)), .sh (.lst (rows.map rowD)), .un, .sh (rowD r)], rfl, ?_⟩
      have gm : gMaxA [rowD r] = some (.int mx) := by
        show (intsOf (r.map D.int)).bind _ = _
        rw [intsOf_row, Option.bind_some, e]; rfl
      rw [e, Option.getD_some]
      exact eCB_of (ds := [.int mx, .int (((s.getD v 0 : Nat) : Int) - 1)]) (S1 := S2) (aCons_of (S1 := S2) (eCB_of (ds := [rowD r]) (S1 := S2) rfl gm) (aCons_of (S1 := S2) (eBin_of (S1 := S2) (S2 := S2) (szv rfl rfl) rfl (i_sub _ _)) rfl)) rfl
    have e2 : (rows.map fun r => D.int (if ((s.getD v 0 : Nat) : Int) - 1 < (maxL r).getD 0 then ((s.getD v 0 : Nat) : Int) - 1 else (maxL r).getD 0)) = (rows.map fun r => (if ((s.getD v 0 : Nat) : Int) - 1 < (maxL r).getD 0 then ((s.getD v 0 : Nat) : Int) - 1 else (maxL r).getD 0)).map D.int := by rw [List.map_map]; rfl
    rw [e2] at c
    have ok : ∀ x ∈ (rows.map fun r => (if ((s.getD v 0 : Nat) : Int) - 1 < (maxL r).getD 0 then ((s.getD v 0 : Nat) : Int) - 1 else (maxL r).getD 0)), 0 ≤ x ∧ x < (s.getD v 0 : Nat) := fun x hx => by
      obtain ⟨r, hr, rfl⟩ := List.mem_map.mp hx
      obtain ⟨mx, e, h0⟩ := maxL_ok (hrow r hr).2 (by rw [(hrow r hr).1]; exact hne)
      rw [e, Option.getD_some]
      split <;> omega
    refine ⟨(ps, _), S2, ?_, fin _ S2 (by rw [List.length_map]) ok, hpw, g2.mono (by omega)⟩
    unfold F__law_rule b__law_rule
    refine fnD_rt ?_ (len1 g2)
    refine sSeq_of st1 ?_
    refine sSeq_of st2 ?_
    refine sSeq_rt ?_
    have t0 := tk 0
    rw [k0] at t0
    exact sIf_t t0 (ret c)
  · have t0 := tk 0
    rw [Bool.eq_false_iff.mpr k0] at t0
    by_cases k1 : (decide ((kind : Int) = 1) && !ps.isEmpty) = true
    · have c := compF_all (g := gNm 7) (te := eBin D.mod (eCB gSumA (aCons (bVar 7) aNil)) (eBin D.ix (bVar 1) (bVar 2))) (ρ := [.sh (.ref 0), .sh (szD s), .sh (.int (v : Int)), .sh (varsD ps), .sh (.int (kind : Int)), .sh (.lst (rows.map rowD)), .un, .un]) (S := S2) rowD (fun r => D.int (r.sum % ((s.getD v 0 : Nat) : Int))) rows fun r hr => by
        refine ⟨[.sh (.ref 0), .sh (szD s), .sh (.int (v : Int)), .sh (varsD ps), .sh (.int (kind : Int)), .sh (.lst (rows.map rowD)), .un, .sh (rowD r)], rfl, ?_⟩
        have gm : gSumA [rowD r] = some (.int r.sum) := by
          show (intsOf (r.map D.int)).map _ = _
          rw [intsOf_row]; rfl
        exact eBin_of (S1 := S2) (S2 := S2) (eCB_of (ds := [rowD r]) (S1 := S2) rfl gm) (szv rfl rfl) (i_mod (by omega))
      have e2 : (rows.map fun r => D.int (r.sum % ((s.getD v 0 : Nat) : Int))) = (rows.map fun r => (r.sum % ((s.getD v 0 : Nat) : Int))).map D.int := by rw [List.map_map]; rfl
      rw [e2] at c
      have ok : ∀ x ∈ (rows.map fun r => (r.sum % ((s.getD v 0 : Nat) : Int))), 0 ≤ x ∧ x < (s.getD v 0 : Nat) := fun x hx => by
        obtain ⟨r, hr, rfl⟩ := List.mem_map.mp hx
        exact ⟨Int.emod_nonneg _ (by omega), Int.emod_lt_of_pos _ (by omega)⟩
      refine ⟨(ps, _), S2, ?_, fin _ S2 (by rw [List.length_map]) ok, hpw, g2.mono (by omega)⟩
      unfold F__law_rule b__law_rule
      refine fnD_rt ?_ (len1 g2)
      refine sSeq_of st1 ?_
      refine sSeq_of st2 ?_
      refine sSeq_of (sIf_f t0 rfl) ?_
      refine sSeq_rt ?_
      have t1 := tk 1
      rw [k1] at t1
      exact sIf_t t1 (ret c)
    · have c3 := compF_st (g := gNm 7) (te := eCall F__law_take (aCons (eVar 0) (aCons (eBin D.ix (bVar 1) (bVar 2)) aNil))) (ρ := [.sh (.ref 0), .sh (szD s), .sh (.int (v : Int)), .sh (varsD ps), .sh (.int (kind : Int)), .sh (.lst (rows.map rowD)), .un, .un]) rowD D.int (fun x => 0 ≤ x ∧ x < (s.getD v 0 : Nat)) fun r m S hm hS => by
        obtain ⟨x, S', t, hx, g⟩ := take_s ((s.getD v 0 : Nat) : Int) hS (by omega) (by omega) (by omega)
        exact ⟨[.sh (.ref 0), .sh (szD s), .sh (.int (v : Int)), .sh (varsD ps), .sh (.int (kind : Int)), .sh (.lst (rows.map rowD)), .un, .sh (rowD r)], (x : Int), S', rfl, eCall_of (S1 := S) (aCons_of (S1 := S) rfl (aCons_of (szv rfl rfl) rfl)) t, g, by omega, hx⟩
      obtain ⟨tb, S3, e3, g3, hl3, ok3⟩ := c3 rows (m + v + 1) S2 g2 (by omega)
      refine ⟨(ps, tb), S3, ?_, fin tb S3 hl3 ok3, hpw, g3.mono (by omega)⟩
      have t1 := tk 1
      rw [Bool.eq_false_iff.mpr k1] at t1
      unfold F__law_rule b__law_rule
      refine fnD_rt ?_ (len1 g3)
      refine sSeq_of st1 ?_
      refine sSeq_of st2 ?_
      refine sSeq_of (sIf_f t0 rfl) ?_
      refine sSeq_of (sIf_f t1 rfl) ?_
      exact ret e3
end W17

set_option Elab.async false
set_option linter.all false
set_option maxRecDepth 100000
namespace DL
open PySem (NestedKey)
/-! dicts by numbers, as cells -/
def ksI (l : Ev) : List D := l.map fun p => D.int (p.1 : Int)
def dsI (l : Ev) : List D := l.map fun p => D.int p.2
theorem num_inj {a b : Nat} : (some (NestedKey.num (a : Int)) = some (NestedKey.num (b : Int))) ↔ a = b := by
  constructor
  · intro h; have := NestedKey.num.inj (Option.some.inj h); omega
  · intro h; rw [h]
theorem find_int (k : Nat) : ∀ l : Ev, dnFind (ksI l) (dsI l) (.num (k : Int)) = (dget l k).map D.int
  | [] => rfl
  | p :: l => by
    have ih := find_int k l
    rw [dget_cons]
    unfold dnFind ksI dsI at *
    rw [List.map_cons, List.map_cons, List.zip_cons_cons]
    by_cases c : p.1 = k
    · rw [List.find?_cons_of_pos (by simp [D.nk, c]), if_pos c]; rfl
    · rw [List.find?_cons_of_neg (by simp only [D.nk]; exact fun z => c (num_inj.mp (of_decide_eq_true z))), if_neg c]
      exact ih
theorem rep_int (k : Nat) (x : Int) : ∀ l : Ev, dnRep (.num (k : Int)) (.int x) (ksI l) (dsI l) = dsI (l.map fun kv => if kv.1 = k then (kv.1, x) else kv)
  | [] => rfl
  | p :: l => by
    have ih := rep_int k x l
    unfold ksI dsI at *
    rw [List.map_cons, List.map_cons, List.map_cons, List.map_cons, dnRep, ih]
    by_cases c : p.1 = k
    · rw [if_pos (show (D.int (p.1 : Int)).nk = some (NestedKey.num (k : Int)) from num_inj.mpr c), if_pos c]
    · rw [if_neg (show ¬ (D.int (p.1 : Int)).nk = some (NestedKey.num (k : Int)) from fun z => c (num_inj.mp z)), if_neg c]
theorem putK_int (k : Nat) (x : Int) (l : Ev) : dnPutK (ksI l) (dsI l) (.int (k : Int)) (.num (k : Int)) = ksI (dset l k x) := by
  unfold dnPutK
  rw [find_int, Option.isSome_map]
  have := congrArg (List.map fun a : Nat => D.int (a : Int)) (dset_keys l k x)
  rw [List.map_map] at this
  unfold ksI
  rw [show ((dset l k x).map fun p => D.int (p.1 : Int)) = (dset l k x).map ((fun a : Nat => D.int (a : Int)) ∘ fun p => p.1) from rfl, this]
  split <;> simp [List.map_map]
theorem putV_int (k : Nat) (x : Int) (l : Ev) : dnPutV (ksI l) (dsI l) (.num (k : Int)) (.int x) = dsI (dset l k x) := by
  unfold dnPutV dset
  rw [find_int, Option.isSome_map]
  split
  · exact rep_int k x l
  · unfold dsI; rw [List.map_append]; rfl
theorem dset_mem {l : Ev} {k : Nat} {x : Int} {p : Nat × Int} (h : p ∈ dset l k x) : p = (k, x) ∨ p ∈ l := by
  unfold dset at h
  split at h
  · obtain ⟨q, hq, rfl⟩ := List.mem_map.mp h
    by_cases c : q.1 = k
    · rw [if_pos c, c]; exact .inl rfl
    · rw [if_neg c]; exact .inr hq
  · rcases List.mem_append.mp h with h | h
    · exact .inr h
    · exact .inl (List.mem_singleton.mp h)
theorem dset_len (l : Ev) (k : Nat) (x : Int) : (dset l k x).length ≤ l.length + 1 := by
  unfold dset
  split <;> simp
/-! sorted -/
def sortE (l : Ev) : Ev := l.mergeSort fun p q => D.le' (pD p) (pD q)
theorem sortE_mem {l : Ev} {p : Nat × Int} : p ∈ sortE l ↔ p ∈ l := (List.mergeSort_perm _ _).mem_iff
theorem canSort_ev (l : Ev) : canSort (l.map pD) = true := by
  unfold canSort
  simp only [List.all_map, Bool.and_eq_true, Bool.or_eq_true, List.all_eq_true, Function.comp]
  refine ⟨⟨fun x _ => rfl, fun x _ y _ => ?_⟩, .inl fun x _ => rfl⟩
  rfl
theorem sorted_ev (l : Ev) : gSorted [.lst (l.map pD)] = some (.lst ((sortE l).map pD)) := by
  unfold gSorted sortE
  simp only [canSort_ev, if_true]
  rw [List.map_mergeSort (s := D.le') (fun a _ b _ => rfl)]
end DL
namespace W17
open DL
open L2 (atI atI_nat ixN)
def dcell (l : Ev) : Sl := .ow (.dn false (ksI l) (dsI l))
def ddB : Stm := (sSeq (sAsg (eCall F__law_take (aCons (eVar 0) (aCons (eCB gLen (aCons (bVar 1) aNil)) aNil))) (gNm 6))
    (sIf (tBl (eBin D.notInA (bVar 6) (bVar 3))) (sDnPut 4 (eCall F__law_take (aCons (eVar 0) (aCons (eBin D.ix (bVar 1) (bVar 6)) aNil))) (eVar 6)) sNx))
theorem iput_of {i k : Nat} {x : Int} {l : Ev} {f fi : Ex} {ρ : Rho} {S S1 S2 : Sto} (h0 : ρ[i]? = some (dcell l)) (h1 : f ρ S = some (.int x, S1)) (h2 : fi ρ S1 = some (.int (k : Int), S2)) (hl : l.length ≤ 100000) : sDnPut i f fi ρ S = some (.nx (ρ.set i (dcell (dset l k x))) S2) := by
  have z : (ksI l).length < PySem.sizeLine := Nat.lt_of_lt_of_le (Nat.lt_succ_of_le (by unfold ksI; rw [List.length_map]; exact hl)) (by decide : 100000 + 1 ≤ PySem.sizeLine)
  unfold sDnPut
  rw [h1, Option.bind_some, h0]
  show (fi ρ S1).bind _ = _
  rw [h2, Option.bind_some]
  show ((some (PySem.NestedKey.num (k : Int))).bind fun k => _) = _
  rw [Option.bind_some, if_pos z, putK_int k x, putV_int]
  rfl
theorem dd_loop {s : List Nat} (hs : SzOk s) (h0 : 0 < s.length) (z2 : Sl) : ∀ (ts : List D) (l : Ev) (m : Nat) (S : Sto) (z5 z6 : Sl), Good m S → m + 2 * ts.length ≤ 40000 → DeedOk s l → (∀ p ∈ l, p.1 < s.length) → l.length + ts.length ≤ 1000 →
    ∃ (l' : Ev) (S' : Sto) (z5' z6' : Sl), forF (gNm 5) ddB ts [.sh (.ref 0), .sh (szD s), z2, .sh (.lst []), dcell l, z5, z6] S = some (.nx [.sh (.ref 0), .sh (szD s), z2, .sh (.lst []), dcell l', z5', z6'] S') ∧ Good (m + 2 * ts.length) S' ∧ DeedOk s l' ∧ (∀ p ∈ l', p.1 < s.length) ∧ l'.length ≤ l.length + ts.length
  | [], l, m, S, z5, z6, hg, _, hd, hb, _ => ⟨l, S, z5, z6, rfl, hg, hd, hb, Nat.le_refl _⟩
  | t :: ts, l, m, S, z5, z6, hg, hm, hd, hb, hl => by
    rw [List.length_cons] at hm hl
    obtain ⟨v, S1, t1, hv, g1⟩ := take_s (s.length : Int) hg (by omega) (by omega) (by have := hs.1; omega)
    have hv' : v < s.length := by omega
    have sv : 2 ≤ s.getD v 0 ∧ s.getD v 0 ≤ 3 := by
      rw [List.getD_eq_getElem?_getD, List.getElem?_eq_getElem hv']
      exact hs.2 _ (List.getElem_mem hv')
    obtain ⟨x, S2, t2, hx, g2⟩ := take_s ((s.getD v 0 : Nat) : Int) g1 (by omega) (by omega) (by omega)
    have hd2 : DeedOk s (dset l v (x : Int)) := fun p hp => by
      rcases dset_mem hp with e | hp
      · rw [e]; exact ⟨by show (0 : Int) ≤ (x : Int); omega, hx⟩
      · exact hd p hp
    have hb2 : ∀ p ∈ dset l v (x : Int), p.1 < s.length := fun p hp => by
      rcases dset_mem hp with e | hp
      · rw [e]; exact hv'
      · exact hb p hp
    have dl := dset_len l v (x : Int)
    obtain ⟨l', S', z5', z6', e1, e2, e3, e4, e5⟩ := dd_loop hs h0 z2 ts (dset l v (x : Int)) (m + 1 + 1) S2 (.sh t) (.sh (.int (v : Int))) g2 (by omega) hd2 hb2 (by omega)
    refine ⟨l', S', z5', z6', ?_, by rw [List.length_cons, show m + 2 * (ts.length + 1) = m + 1 + 1 + 2 * ts.length by omega]; exact e2, e3, e4, by rw [List.length_cons]; omega⟩
    have hl1 : gLen [szD s] = some (.int (s.length : Int)) := by simp only [gLen, szD, List.length_map]
    have st1 : sAsg (eCall F__law_take (aCons (eVar 0) (aCons (eCB gLen (aCons (bVar 1) aNil)) aNil))) (gNm 6) [.sh (.ref 0), .sh (szD s), z2, .sh (.lst []), dcell l, .sh t, z6] S = some (.nx [.sh (.ref 0), .sh (szD s), z2, .sh (.lst []), dcell l, .sh t, .sh (.int (v : Int))] S1) := sAsg_of (eCall_of (S1 := S) (aCons_of (S1 := S) rfl (aCons_of (eCB_of (ds := [szD s]) (S1 := S) rfl hl1) rfl)) t1) rfl
    have tn : tBl (eBin D.notInA (bVar 6) (bVar 3)) [.sh (.ref 0), .sh (szD s), z2, .sh (.lst []), dcell l, .sh t, .sh (.int (v : Int))] S1 = some (true, S1) := tBl_of (eBin_of (S1 := S1) (S2 := S1) (d1 := .int (v : Int)) (d2 := .lst []) rfl rfl rfl)
    have pt := iput_of (i := 4) (k := v) (x := (x : Int)) (l := l) (ρ := [.sh (.ref 0), .sh (szD s), z2, .sh (.lst []), dcell l, .sh t, .sh (.int (v : Int))]) (S := S1) (S1 := S2) (S2 := S2) (f := eCall F__law_take (aCons (eVar 0) (aCons (eBin D.ix (bVar 1) (bVar 6)) aNil))) (fi := eVar 6) rfl (eCall_of (S1 := S1) (aCons_of (S1 := S1) rfl (aCons_of (eBin_of (S1 := S1) (S2 := S1) rfl rfl (szD_at hv')) rfl)) t2) rfl (by omega)
    have st : ddB [.sh (.ref 0), .sh (szD s), z2, .sh (.lst []), dcell l, .sh t, z6] S = some (.nx [.sh (.ref 0), .sh (szD s), z2, .sh (.lst []), dcell (dset l v (x : Int)), .sh t, .sh (.int (v : Int))] S2) := by
      unfold ddB
      refine sSeq_of st1 ?_
      exact sIf_t tn pt
    have f1 := forF_step (g := gNm 5) (b := ddB) (x := t) (xs := ts) (ρ := [.sh (.ref 0), .sh (szD s), z2, .sh (.lst []), dcell l, z5, z6]) (ρ1 := [.sh (.ref 0), .sh (szD s), z2, .sh (.lst []), dcell l, .sh t, z6]) rfl st
    exact f1.trans e1
theorem law_deed_s {s : List Nat} {m : Nat} {S : Sto} (hs : SzOk s) (h0 : 0 < s.length) (hg : Good m S) (hm : m ≤ 20000) : ∃ (e : Ev) (S' : Sto), F__law_deed [.ref 0, szD s, .int 2, .lst []] S = some (evD e, S') ∧ DeedOk s e ∧ (∀ p ∈ e, p.1 < s.length) ∧ Good (m + 10) S' ∧ e.length ≤ 10 := by
  obtain ⟨k, S1, t1, hk, g1⟩ := take_s 3 hg (by omega) (by decide) (by decide)
  obtain ⟨l, S2, z5, z6, e1, g2, hd, hb, hl⟩ := dd_loop hs h0 (.sh (.int 2)) ((List.range k).map fun (i : Nat) => D.int (i : Int)) [] (m + 1) S1 .un .un g1 (by rw [List.length_map, List.length_range]; omega) (fun p hp => nomatch hp) (fun p hp => nomatch hp) (by rw [List.length_map, List.length_range, List.length_nil]; omega)
  rw [List.length_map, List.length_range] at g2 hl
  rw [List.length_nil] at hl
  have rg : iRng (aCons (eCall F__law_take (aCons (eVar 0) (aCons (eBin D.add (bVar 2) (eC (.int 1))) aNil))) aNil) [.sh (.ref 0), .sh (szD s), .sh (.int 2), .sh (.lst []), dcell [], .un, .un] S = some ((List.range k).map fun (i : Nat) => D.int (i : Int), S1) := iRng_of (ds := [.int (k : Int)]) (S1 := S1) (aCons_of (eCall_of (ds := [.ref 0, .int 3]) (S1 := S) rfl t1) rfl) (rangeOf_nat (show k ≤ 100000 by omega))
  have iD : iDn 4 [.sh (.ref 0), .sh (szD s), .sh (.int 2), .sh (.lst []), dcell l, z5, z6] S2 = some (ksI l, S2) := by
    show (if (ksI l).length ≤ PySem.sizeLine then some (ksI l, S2) else none) = _
    rw [if_pos (szle (by unfold ksI; rw [List.length_map]; omega))]
  have key : ∀ p ∈ l, ∃ x, dget l p.1 = some x := fun p hp => by
    cases e : dget l p.1 with
    | some x => exact ⟨x, rfl⟩
    | none => exact absurd rfl (dget_none.mp e p hp)
  have cE : ∃ e : Ev, compF (gNm 6) tYs (eTup (aCons (eVar 6) (aCons (eDnIx 4 (eVar 6)) aNil))) [.sh (.ref 0), .sh (szD s), .sh (.int 2), .sh (.lst []), dcell l, z5, .un] (ksI l) S2 = some (e.map pD, S2) ∧ e = l.map fun p => (p.1, (dget l p.1).getD 0) := by
    refine ⟨_, ?_, rfl⟩
    have c := compF_all (g := gNm 6) (te := eTup (aCons (eVar 6) (aCons (eDnIx 4 (eVar 6)) aNil))) (ρ := [.sh (.ref 0), .sh (szD s), .sh (.int 2), .sh (.lst []), dcell l, z5, .un]) (S := S2) (fun p : Nat × Int => D.int (p.1 : Int)) (fun p => pD (p.1, (dget l p.1).getD 0)) l fun p hp => by
      obtain ⟨x, hx⟩ := key p hp
      refine ⟨[.sh (.ref 0), .sh (szD s), .sh (.int 2), .sh (.lst []), dcell l, z5, .sh (.int (p.1 : Int))], rfl, ?_⟩
      have ix : eDnIx 4 (eVar 6) [.sh (.ref 0), .sh (szD s), .sh (.int 2), .sh (.lst []), dcell l, z5, .sh (.int (p.1 : Int))] S2 = some (.int x, S2) := by
        show ((some (PySem.NestedKey.num (p.1 : Int))).bind fun k => (dnFind (ksI l) (dsI l) k).map fun d => (d, S2)) = _
        rw [Option.bind_some, find_int, hx]
        rfl
      rw [hx]
      exact pair_s (S1 := S2) rfl ix
    have e2 : (l.map fun p => pD (p.1, (dget l p.1).getD 0)) = (l.map fun p => (p.1, (dget l p.1).getD 0)).map pD := by rw [List.map_map]; rfl
    rw [e2] at c
    exact c
  obtain ⟨e, ce, ee⟩ := cE
  have em : ∀ q ∈ e, q ∈ l := fun q hq => by
    rw [ee] at hq
    obtain ⟨p, hp, rfl⟩ := List.mem_map.mp hq
    obtain ⟨x, hx⟩ := key p hp
    rw [hx]
    exact dget_mem hx
  have el : e.length = l.length := by rw [ee, List.length_map]
  have hsl : (sortE e).length = e.length := List.length_mergeSort _
  have lc := eLc_of (vs := [6]) (it := iDn 4) (ρ := [.sh (.ref 0), .sh (szD s), .sh (.int 2), .sh (.lst []), dcell l, z5, z6]) (S := S2) iD ce
  refine ⟨sortE e, S2, ?_, fun p hp => hd p (em p (sortE_mem.mp hp)), fun p hp => hb p (em p (sortE_mem.mp hp)), g2.mono (by omega), by omega⟩
  unfold F__law_deed b__law_deed
  refine fnD_rt ?_ (by rw [g2.len, hg.len])
  refine sSeq_of (S1 := S) (ρ' := [.sh (.ref 0), .sh (szD s), .sh (.int 2), .sh (.lst []), dcell [], .un, .un]) rfl ?_
  refine sSeq_of (sFor_of rg e1) ?_
  refine sRet_of ?_
  exact eCB_of (aCons_of (eCB_of (aCons_of lc rfl) (sorted_ev e)) rfl) rfl
end W17

set_option Elab.async false
set_option linter.all false
set_option maxRecDepth 100000
namespace W17
open DL
open L2 (atI atI_nat ixN)
/-- a cell of the lots in order -/
structure CellIs (s : List Nat) (v : Nat) (c : Nat × Vr) : Prop where
  sz : c.1 = s.getD v 0
  lot : ∀ ws, c.2 = .lot ws → ws.length = s.getD v 0 ∧ (∀ x ∈ ws, 0 ≤ x) ∧ 0 < ws.sum ∧ ws.sum < 8
  rule : ∀ r, c.2 = .rule r → RuOk s v r ∧ r.1.Pairwise (· < ·)
structure Pre (s : List Nat) (pre : Lots) : Prop where
  cell : ∀ j c, pre[j]? = some c → CellIs s j c
  few : (pre.filter fun c => c.2.isLot).length ≤ 3
theorem Pre.snoc {s : List Nat} {pre : Lots} {c : Nat × Vr} (h : Pre s pre) (hc : CellIs s pre.length c) (hf : ((pre ++ [c]).filter fun c => c.2.isLot).length ≤ 3) : Pre s (pre ++ [c]) := by
  refine ⟨fun j d e => ?_, hf⟩
  by_cases q : j < pre.length
  · rw [List.getElem?_append_left q] at e
    exact h.cell j d e
  · have hj := (List.getElem?_eq_some_iff.mp e).1
    rw [List.length_append, List.length_singleton] at hj
    have : j = pre.length := by omega
    subst this
    rw [List.getElem?_append_right (Nat.le_refl _), Nat.sub_self] at e
    cases e
    exact hc
theorem Pre.lots {s : List Nat} {L : Lots} (h : Pre s L) (hl : L.length = s.length) (hs : SzOk s) (h2 : 2 ≤ s.length) : szL L = s ∧ LotsOk L := by
  have e : szL L = s := by
    refine List.ext_getElem? fun j => ?_
    unfold szL
    rw [List.getElem?_map]
    by_cases q : j < L.length
    · have c := h.cell j L[j] (List.getElem?_eq_getElem q)
      rw [List.getElem?_eq_getElem q, Option.map_some, c.sz, List.getD_eq_getElem?_getD, List.getElem?_eq_getElem (by omega : j < s.length)]
      rfl
    · rw [List.getElem?_eq_none (by omega), List.getElem?_eq_none (by omega)]; rfl
  have va : ∀ v, v < L.length → ∃ c, L[v]? = some c ∧ vrAt L v = c.2 := fun v hv => ⟨L[v], List.getElem?_eq_getElem hv, by
    unfold vrAt
    rw [List.getD_eq_getElem?_getD, List.getElem?_eq_getElem hv]; rfl⟩
  refine ⟨e, ⟨by rw [hl]; exact hs.1, by omega, by rw [e]; exact hs.2⟩, fun v ws hv ew => ?_, fun v r hv er => ?_, by rw [free_len]; exact h.few⟩
  · obtain ⟨c, h1, h2⟩ := va v hv
    rw [e]
    exact (h.cell v c h1).lot ws (h2.symm.trans ew)
  · obtain ⟨c, h1, h2⟩ := va v hv
    rw [e]
    exact (h.cell v c h1).rule r (h2.symm.trans er)
theorem sum_set0 (x : Int) (ws : List Int) (b : Int) : ((x :: ws).set 0 (x + b)).sum = (x :: ws).sum + b := by
  rw [List.set_cons_zero, List.sum_cons, List.sum_cons]; omega
theorem sum_nn : ∀ {ws : List Int}, (∀ x ∈ ws, 0 ≤ x ∧ x ≤ 2) → 0 ≤ ws.sum ∧ ws.sum ≤ 2 * ws.length
  | [], _ => ⟨Int.le_refl _, Int.le_refl _⟩
  | x :: ws, h => by
    have := h x (.head _)
    have := sum_nn (ws := ws) fun y hy => h y (.tail _ hy)
    rw [List.sum_cons, List.length_cons]
    push_cast
    omega
theorem isN_cnt (pre : Lots) : (pre.map fun c => D.int (if c.2.isLot = true then 1 else 0)) = (pre.map fun c => if c.2.isLot = true then (1 : Int) else 0).map D.int := by rw [List.map_map]; rfl
theorem cnt_sum : ∀ pre : Lots, (pre.map fun c => if c.2.isLot = true then (1 : Int) else 0).sum = ((pre.filter fun c => c.2.isLot).length : Int)
  | [] => rfl
  | c :: pre => by
    rw [List.map_cons, List.sum_cons, cnt_sum pre]
    by_cases q : c.2.isLot = true
    · rw [if_pos q, List.filter_cons_of_pos (p := fun c : Nat × Vr => c.2.isLot) q, List.length_cons]; push_cast; omega
    · rw [if_neg q, List.filter_cons_of_neg (p := fun c : Nat × Vr => c.2.isLot) q]; omega
def loB : Stm := (sIf (DL.tOr (tBl (eBin D.eq (bVar 4) (eC (.int 0)))) (tAn (tBl (eBin D.eq (eCall F__law_take (aCons (eVar 0) (aCons (eC (.int 3)) aNil))) (eC (.int 0)))) (tBl (eBin D.lt (eCB gSumA (aCons (eLc (iSeq (bVar 2)) (gNm 6) tYs (eCB gInt (aCons (eBin D.isN (bVar 6) (eC .non)) aNil)) [6]) aNil)) (eC (.int 3)))))) (sSeq (sOwn (eLc (iRng (aCons (eBin D.ix (bVar 1) (bVar 4)) aNil)) (gNm 7) tYs (eBin D.ix (eLst (aCons (eC (.int 1)) (aCons (eC (.int 0)) (aCons (eC (.int 2)) (aCons (eC (.int 1)) aNil))))) (eCall F__law_take (aCons (eVar 0) (aCons (eC (.int 4)) aNil)))) [7]) 5)
    (sSeq (sSetIx 5 (eBin D.add (eBin D.ix (bVar 5) (eC (.int 0))) (eCB gInt (aCons (eBin D.eq (eCB gSumA (aCons (bVar 5) aNil)) (eC (.int 0))) aNil))) (eC (.int 0)))
    (sSeq (sMut gAppend 2 (aCons (eC .non) aNil))
    (sMut gAppend 3 (aCons (eCB gTuple (aCons (eLc (iSeq (bVar 5)) (gNm 7) tYs (eCall F__law_fraction (aCons (eVar 7) (aCons (eCB gSumA (aCons (bVar 5) aNil)) aNil))) [7]) aNil)) aNil))))) (sSeq (sMut gAppend 2 (aCons (eCall F__law_rule (aCons (eVar 0) (aCons (eVar 1) (aCons (eVar 4) aNil)))) aNil))
    (sMut gAppend 3 (aCons (eC .non) aNil))))
def ruL (pre : Lots) : Sl := .ow (.lst (pre.map fun c => ruOf c.2))
def chL (pre : Lots) : Sl := .ow (.lst (pre.map fun c => chOf c.2))
/-- the condition: some state, and a word that a place is left -/
theorem lo_cond {s : List Nat} {pre : Lots} {m : Nat} {S : Sto} (hg : Good m S) (hm : m ≤ 30000) (hp : Pre s pre) (hl : pre.length ≤ 4) (z5 z6 z7 : Sl) : ∃ (b : Bool) (S' : Sto), DL.tOr (tBl (eBin D.eq (bVar 4) (eC (.int 0)))) (tAn (tBl (eBin D.eq (eCall F__law_take (aCons (eVar 0) (aCons (eC (.int 3)) aNil))) (eC (.int 0)))) (tBl (eBin D.lt (eCB gSumA (aCons (eLc (iSeq (bVar 2)) (gNm 6) tYs (eCB gInt (aCons (eBin D.isN (bVar 6) (eC .non)) aNil)) [6]) aNil)) (eC (.int 3))))) [.sh (.ref 0), .sh (szD s), ruL pre, chL pre, .sh (.int (pre.length : Int)), z5, z6, z7] S = some (b, S') ∧ Good (m + 1) S' ∧ (b = true → (pre.filter fun c => c.2.isLot).length < 3) := by
  have t0 : tBl (eBin D.eq (bVar 4) (eC (.int 0))) [.sh (.ref 0), .sh (szD s), ruL pre, chL pre, .sh (.int (pre.length : Int)), z5, z6, z7] S = some (decide ((pre.length : Int) = 0), S) := tBl_of (eBin_of (S1 := S) (S2 := S) (d1 := .int (pre.length : Int)) (d2 := .int 0) rfl rfl (eq_int _ _))
  by_cases c : (pre.length : Int) = 0
  · rw [decide_eq_true c] at t0
    refine ⟨true, S, tOr_t t0, hg.mono (by omega), fun _ => ?_⟩
    have : pre = [] := List.length_eq_zero_iff.mp (by omega)
    subst this
    decide
  · rw [decide_eq_false c] at t0
    obtain ⟨r, S1, t1, hr, g1⟩ := take_s 3 hg (by omega) (by decide) (by decide)
    have t2 : tBl (eBin D.eq (eCall F__law_take (aCons (eVar 0) (aCons (eC (.int 3)) aNil))) (eC (.int 0))) [.sh (.ref 0), .sh (szD s), ruL pre, chL pre, .sh (.int (pre.length : Int)), z5, z6, z7] S = some (decide ((r : Int) = 0), S1) := tBl_of (eBin_of (d2 := .int 0) (S2 := S1) (eCall_of (S1 := S) rfl t1) rfl (eq_int _ _))
    by_cases c2 : (r : Int) = 0
    · rw [decide_eq_true c2] at t2
      have cc := compF_all (g := gNm 6) (te := eCB gInt (aCons (eBin D.isN (bVar 6) (eC .non)) aNil)) (ρ := [.sh (.ref 0), .sh (szD s), ruL pre, chL pre, .sh (.int (pre.length : Int)), z5, .un, z7]) (S := S1) (fun c : Nat × Vr => ruOf c.2) (fun c => D.int (if c.2.isLot = true then 1 else 0)) pre fun c hc =>
        ⟨[.sh (.ref 0), .sh (szD s), ruL pre, chL pre, .sh (.int (pre.length : Int)), z5, .sh (ruOf c.2), z7], rfl, eCB_of (ds := [.bl c.2.isLot]) (S1 := S1) (aCons_of (eBin_of (S1 := S1) (S2 := S1) (d2 := .non) rfl rfl (isN_ru _)) rfl) rfl⟩
      rw [isN_cnt] at cc
      have lc := eLc_of (vs := [6]) (it := iSeq (bVar 2)) (ρ := [.sh (.ref 0), .sh (szD s), ruL pre, chL pre, .sh (.int (pre.length : Int)), z5, z6, z7]) (S := S1) rfl cc
      have sm : gSumA [.lst ((pre.map fun c => if c.2.isLot = true then (1 : Int) else 0).map D.int)] = some (.int ((pre.filter fun c => c.2.isLot).length : Int)) := by
        show (intsOf _).map _ = _
        rw [intsOf_map, Option.map_some, cnt_sum]
      have t3 : tBl (eBin D.lt (eCB gSumA (aCons (eLc (iSeq (bVar 2)) (gNm 6) tYs (eCB gInt (aCons (eBin D.isN (bVar 6) (eC .non)) aNil)) [6]) aNil)) (eC (.int 3))) [.sh (.ref 0), .sh (szD s), ruL pre, chL pre, .sh (.int (pre.length : Int)), z5, z6, z7] S1 = some (decide (((pre.filter fun c => c.2.isLot).length : Int) < 3), S1) := tBl_of (eBin_of (d2 := .int 3) (S2 := S1) (eCB_of (aCons_of lc rfl) sm) rfl (i_lt _ _))
      exact ⟨_, S1, tOr_f t0 (tAn_t t2 t3), g1, fun h => by have := of_decide_eq_true h; omega⟩
    · rw [decide_eq_false c2] at t2
      exact ⟨false, S1, tOr_f t0 (tAn_f t2), g1, fun h => by cases h⟩
theorem wsel : ∀ r : Nat, r < 4 → ∃ x : Int, D.ix (.lst [.int 1, .int 0, .int 2, .int 1]) (.int (r : Int)) = some (.int x) ∧ 0 ≤ x ∧ x ≤ 2
  | 0, _ => ⟨1, at0 _ _, by decide, by decide⟩
  | 1, _ => ⟨0, at1 _ _ _, by decide, by decide⟩
  | 2, _ => ⟨2, at2 _ _ _ _, by decide, by decide⟩
  | 3, _ => ⟨1, at3 _ _ _ _ _, by decide, by decide⟩
  | r + 4, h => absurd h (by omega)
theorem lo_step {s : List Nat} (hs : SzOk s) {pre : Lots} {m : Nat} {S : Sto} (hg : Good m S) (hm : m ≤ 15000) (hp : Pre s pre) (hv : pre.length < s.length) (z5 z6 z7 : Sl) :
    ∃ (c : Nat × Vr) (S' : Sto) (z5' : Sl), loB [.sh (.ref 0), .sh (szD s), ruL pre, chL pre, .sh (.int (pre.length : Int)), z5, z6, z7] S = some (.nx [.sh (.ref 0), .sh (szD s), ruL (pre ++ [c]), chL (pre ++ [c]), .sh (.int (pre.length : Int)), z5', z6, z7] S') ∧ Good (m + 1200) S' ∧ Pre s (pre ++ [c]) := by
  have hl4 : pre.length ≤ 4 := by have := hs.1; omega
  have sv : 2 ≤ s.getD pre.length 0 ∧ s.getD pre.length 0 ≤ 3 := by
    rw [List.getD_eq_getElem?_getD, List.getElem?_eq_getElem hv]
    exact hs.2 _ (List.getElem_mem hv)
  obtain ⟨b, S1, tc, g1, hb⟩ := lo_cond hg (by omega) hp hl4 z5 z6 z7
  have snd : ∀ (c : Nat × Vr), (pre ++ [c]).map (fun c => ruOf c.2) = (pre.map fun c => ruOf c.2) ++ [ruOf c.2] ∧ (pre ++ [c]).map (fun c => chOf c.2) = (pre.map fun c => chOf c.2) ++ [chOf c.2] := fun c => ⟨by rw [List.map_append]; rfl, by rw [List.map_append]; rfl⟩
  have hlen1 : (pre.map fun c => ruOf c.2).length ≤ 100000 := by rw [List.length_map]; omega
  have hlen2 : (pre.map fun c => chOf c.2).length ≤ 100000 := by rw [List.length_map]; omega
  cases b with
  | true =>
    have c7 := compF_st (g := gNm 7) (te := eBin D.ix (eLst (aCons (eC (.int 1)) (aCons (eC (.int 0)) (aCons (eC (.int 2)) (aCons (eC (.int 1)) aNil))))) (eCall F__law_take (aCons (eVar 0) (aCons (eC (.int 4)) aNil)))) (ρ := [.sh (.ref 0), .sh (szD s), ruL pre, chL pre, .sh (.int (pre.length : Int)), z5, z6, .un]) (fun (i : Nat) => D.int (i : Int)) D.int (fun x => 0 ≤ x ∧ x ≤ 2) fun i m S hm hS => by
      obtain ⟨r, S', t, hr, g⟩ := take_s 4 hS (by omega) (by decide) (by decide)
      obtain ⟨x, e, h1, h2⟩ := wsel r (by omega)
      have el : eLst (aCons (eC (.int 1)) (aCons (eC (.int 0)) (aCons (eC (.int 2)) (aCons (eC (.int 1)) aNil)))) [.sh (.ref 0), .sh (szD s), ruL pre, chL pre, .sh (.int (pre.length : Int)), z5, z6, .sh (.int (i : Int))] S = some (.lst [.int 1, .int 0, .int 2, .int 1], S) := by
        unfold eLst
        rw [show aCons (eC (.int 1)) (aCons (eC (.int 0)) (aCons (eC (.int 2)) (aCons (eC (.int 1)) aNil))) [.sh (.ref 0), .sh (szD s), ruL pre, chL pre, .sh (.int (pre.length : Int)), z5, z6, .sh (.int (i : Int))] S = some ([.int 1, .int 0, .int 2, .int 1], S) from rfl, Option.bind_some, if_pos (by show 4 ≤ PySem.sizeLine; decide)]
      exact ⟨_, x, S', rfl, eBin_of el (eCall_of (S1 := S) rfl t) e, g, h1, h2⟩
    obtain ⟨ws0, S2, e7, g2, hl7, ok7⟩ := c7 (List.range (s.getD pre.length 0)) (m + 1) S1 g1 (by rw [List.length_range]; omega)
    rw [List.length_range] at g2 hl7
    obtain ⟨x0, wt, rfl⟩ : ∃ x r, ws0 = x :: r := by
      cases ws0 with
      | nil => rw [List.length_nil] at hl7; omega
      | cons x r => exact ⟨x, r, rfl⟩
    obtain ⟨n1, n2⟩ := sum_nn ok7
    have x0ok := ok7 x0 (.head _)
    rw [hl7] at n2
    have rg : iRng (aCons (eBin D.ix (bVar 1) (bVar 4)) aNil) [.sh (.ref 0), .sh (szD s), ruL pre, chL pre, .sh (.int (pre.length : Int)), z5, z6, z7] S1 = some ((List.range (s.getD pre.length 0)).map fun (i : Nat) => D.int (i : Int), S1) := iRng_of (ds := [.int ((s.getD pre.length 0 : Nat) : Int)]) (S1 := S1) (aCons_of (eBin_of (S1 := S1) (S2 := S1) rfl rfl (szD_at hv)) rfl) (rangeOf_nat (show s.getD pre.length 0 ≤ 100000 by omega))
    have st1 : sOwn (eLc (iRng (aCons (eBin D.ix (bVar 1) (bVar 4)) aNil)) (gNm 7) tYs (eBin D.ix (eLst (aCons (eC (.int 1)) (aCons (eC (.int 0)) (aCons (eC (.int 2)) (aCons (eC (.int 1)) aNil))))) (eCall F__law_take (aCons (eVar 0) (aCons (eC (.int 4)) aNil)))) [7]) 5 [.sh (.ref 0), .sh (szD s), ruL pre, chL pre, .sh (.int (pre.length : Int)), z5, z6, z7] S1 = some (.nx [.sh (.ref 0), .sh (szD s), ruL pre, chL pre, .sh (.int (pre.length : Int)), .ow (.lst ((x0 :: wt).map D.int)), z6, z7] S2) := by
      unfold sOwn
      rw [eLc_of (vs := [7]) rg e7]
      rfl
    have sm : ∀ ws : List Int, gSumA [.lst (ws.map D.int)] = some (.int ws.sum) := fun ws => by
      show (intsOf _).map _ = _
      rw [intsOf_map]; rfl
    have eb : ∀ {ρ : Rho}, ρ[5]? = some (.ow (.lst ((x0 :: wt).map D.int))) → eBin D.add (eBin D.ix (bVar 5) (eC (.int 0))) (eCB gInt (aCons (eBin D.eq (eCB gSumA (aCons (bVar 5) aNil)) (eC (.int 0))) aNil)) ρ S2 = some (.int (x0 + if decide ((x0 :: wt).sum = 0) = true then 1 else 0), S2) := fun {ρ} q => by
      have b5 : bVar 5 ρ S2 = some (.lst ((x0 :: wt).map D.int), S2) := by unfold bVar; rw [q]; rfl
      exact eBin_of (S1 := S2) (S2 := S2) (d1 := .int x0) (eBin_of (S1 := S2) (S2 := S2) (d2 := .int 0) b5 rfl (at0 _ _)) (eCB_of (ds := [.bl (decide ((x0 :: wt).sum = 0))]) (S1 := S2) (aCons_of (eBin_of (S1 := S2) (S2 := S2) (d2 := .int 0) (eCB_of (aCons_of b5 rfl) (sm _)) rfl (eq_int _ _)) rfl) rfl) (i_add _ _)
    generalize hbb : (if decide ((x0 :: wt).sum = 0) = true then (1 : Int) else 0) = bb at eb
    have st2 : sSetIx 5 (eBin D.add (eBin D.ix (bVar 5) (eC (.int 0))) (eCB gInt (aCons (eBin D.eq (eCB gSumA (aCons (bVar 5) aNil)) (eC (.int 0))) aNil))) (eC (.int 0)) [.sh (.ref 0), .sh (szD s), ruL pre, chL pre, .sh (.int (pre.length : Int)), .ow (.lst ((x0 :: wt).map D.int)), z6, z7] S2 = some (.nx [.sh (.ref 0), .sh (szD s), ruL pre, chL pre, .sh (.int (pre.length : Int)), .ow (.lst (((x0 + bb) :: wt).map D.int)), z6, z7] S2) :=
      sSetIx_of (j := 0) (xs := (x0 :: wt).map D.int) (S1 := S2) (S2 := S2) (eb rfl) rfl rfl (by rw [List.length_map]; exact Nat.succ_pos _)
    have hsum : ((x0 + bb) :: wt).sum = (x0 :: wt).sum + bb := by rw [List.sum_cons, List.sum_cons]; omega
    have hpos : 0 ≤ bb ∧ 0 < ((x0 + bb) :: wt).sum ∧ ((x0 + bb) :: wt).sum < 8 := by
      rw [hsum]
      by_cases q : (x0 :: wt).sum = 0
      · rw [decide_eq_true q] at hbb
        have hbb : (1 : Int) = bb := hbb
        omega
      · rw [decide_eq_false q] at hbb
        have hbb : (0 : Int) = bb := hbb
        have : (2 * (s.getD pre.length 0 : Nat) : Int) ≤ 6 := by omega
        omega
    have hwn : ∀ x ∈ (x0 + bb) :: wt, 0 ≤ x := fun x hx => by
      rcases List.mem_cons.mp hx with e | hx
      · rw [e]; omega
      · exact (ok7 x (.tail _ hx)).1
    have hwl : ((x0 + bb) :: wt).length = s.getD pre.length 0 := by rw [← hl7]; rfl
    generalize hW : (x0 + bb) :: wt = ws at *
    have ci : CellIs s pre.length (s.getD pre.length 0, .lot ws) := ⟨rfl, (fun ws' e => by
      have e' := Vr.lot.inj e
      rw [← e']
      exact ⟨hwl, hwn, hpos.2.1, hpos.2.2⟩), (fun r e => nomatch e)⟩
    refine ⟨(s.getD pre.length 0, .lot ws), S2, .ow (.lst (ws.map D.int)), ?_, g2.mono (by omega), hp.snoc ci (by
      rw [List.filter_append, List.length_append]
      have := hb rfl
      rw [List.filter_cons_of_pos rfl]
      simp only [List.filter_nil, List.length_cons, List.length_nil]
      omega)⟩
    have hle : ∀ x ∈ ws, x.natAbs < 2 ^ 3 := fun x hx => by
      obtain ⟨j, hj, e⟩ := List.mem_iff_getElem.mp hx
      have g := getD_le_sum (ws := ws) (j := j) hwn
      rw [List.getD_eq_getElem?_getD, List.getElem?_eq_getElem hj, Option.getD_some, e] at g
      omega
    have c8 := compF_all (g := gNm 7) (te := eCall F__law_fraction (aCons (eVar 7) (aCons (eCB gSumA (aCons (bVar 5) aNil)) aNil))) (ρ := [.sh (.ref 0), .sh (szD s), ruL (pre ++ [(s.getD pre.length 0, .lot ws)]), chL pre, .sh (.int (pre.length : Int)), .ow (.lst (ws.map D.int)), z6, .un]) (S := S2) D.int (fun x => frD (nf x ws.sum)) ws fun x hx =>
      ⟨[.sh (.ref 0), .sh (szD s), ruL (pre ++ [(s.getD pre.length 0, .lot ws)]), chL pre, .sh (.int (pre.length : Int)), .ow (.lst (ws.map D.int)), z6, .sh (.int x)], rfl, eCall_of (ds := [.int x, .int ws.sum]) (S1 := S2) (aCons_of (S1 := S2) rfl (aCons_of (eCB_of (ds := [.lst (ws.map D.int)]) (S1 := S2) rfl (sm ws)) rfl)) (law_fraction_s x ws.sum S2 (hwn x hx) hpos.2.1 (bd_mono (j := 3) (by omega) (by decide)))⟩
    have l8 := eLc_of (vs := [7]) (it := iSeq (bVar 5)) (ρ := [.sh (.ref 0), .sh (szD s), ruL (pre ++ [(s.getD pre.length 0, .lot ws)]), chL pre, .sh (.int (pre.length : Int)), .ow (.lst (ws.map D.int)), z6, z7]) (S := S2) rfl c8
    have e1 : ruL (pre ++ [(s.getD pre.length 0, .lot ws)]) = .ow (.lst ((pre.map fun c => ruOf c.2) ++ [.non])) := by unfold ruL; rw [(snd _).1]; rfl
    have e2 : chL (pre ++ [(s.getD pre.length 0, .lot ws)]) = .ow (.lst ((pre.map fun c => chOf c.2) ++ [chanceD ws])) := by unfold chL; rw [(snd _).2]; rfl
    have st3 : sMut gAppend 2 (aCons (eC .non) aNil) [.sh (.ref 0), .sh (szD s), ruL pre, chL pre, .sh (.int (pre.length : Int)), .ow (.lst (ws.map D.int)), z6, z7] S2 = some (.nx [.sh (.ref 0), .sh (szD s), ruL (pre ++ [(s.getD pre.length 0, .lot ws)]), chL pre, .sh (.int (pre.length : Int)), .ow (.lst (ws.map D.int)), z6, z7] S2) := by
      rw [e1]
      exact sMut_of (c := .lst (pre.map fun c => ruOf c.2)) (ds := [.non]) (S1 := S2) rfl rfl (app_d hlen1)
    unfold loB
    refine sIf_t tc ?_
    refine sSeq_of st1 ?_
    refine sSeq_of st2 ?_
    refine sSeq_of st3 ?_
    rw [e2]
    exact sMut_of (c := .lst (pre.map fun c => chOf c.2)) (S1 := S2) rfl (aCons_of (eCB_of (aCons_of l8 rfl) rfl) rfl) (app_d hlen2)
  | false =>
    obtain ⟨r, S2, tr, h1, h2, g2⟩ := law_rule_s hs hv g1 (by omega)
    have ci : CellIs s pre.length (s.getD pre.length 0, .rule r) := ⟨rfl, (fun ws e => nomatch e), (fun r' e => by
      have e' := Vr.rule.inj e
      rw [← e']
      exact ⟨h1, h2⟩)⟩
    refine ⟨(s.getD pre.length 0, .rule r), S2, z5, ?_, g2.mono (by omega), hp.snoc ci (by
      rw [List.filter_append, List.length_append, List.filter_cons_of_neg (by exact Bool.false_ne_true)]
      have := hp.few
      simp only [List.filter_nil, List.length_nil]
      omega)⟩
    have e1 : ruL (pre ++ [(s.getD pre.length 0, .rule r)]) = .ow (.lst ((pre.map fun c => ruOf c.2) ++ [ruD r])) := by unfold ruL; rw [(snd _).1]; rfl
    have e2 : chL (pre ++ [(s.getD pre.length 0, .rule r)]) = .ow (.lst ((pre.map fun c => chOf c.2) ++ [.non])) := by unfold chL; rw [(snd _).2]; rfl
    have st3 : sMut gAppend 2 (aCons (eCall F__law_rule (aCons (eVar 0) (aCons (eVar 1) (aCons (eVar 4) aNil)))) aNil) [.sh (.ref 0), .sh (szD s), ruL pre, chL pre, .sh (.int (pre.length : Int)), z5, z6, z7] S1 = some (.nx [.sh (.ref 0), .sh (szD s), ruL (pre ++ [(s.getD pre.length 0, .rule r)]), chL pre, .sh (.int (pre.length : Int)), z5, z6, z7] S2) := by
      rw [e1]
      exact sMut_of (c := .lst (pre.map fun c => ruOf c.2)) (S1 := S2) rfl (aCons_of (eCall_of (S1 := S1) rfl tr) rfl) (app_d hlen1)
    unfold loB
    refine sIf_f tc ?_
    refine sSeq_of st3 ?_
    rw [e2]
    exact sMut_of (c := .lst (pre.map fun c => chOf c.2)) (S1 := S2) rfl rfl (app_d hlen2)
theorem lo_loop {s : List Nat} (hs : SzOk s) : ∀ (k : Nat) (pre : Lots) (m : Nat) (S : Sto) (z4 z5 z6 z7 : Sl), pre.length + k = s.length → Good m S → m + 1200 * k ≤ 15000 → Pre s pre →
    ∃ (L : Lots) (S' : Sto) (z4' z5' z6' z7' : Sl), forF (gNm 4) loB ((List.range' pre.length k).map fun (i : Nat) => D.int (i : Int)) [.sh (.ref 0), .sh (szD s), ruL pre, chL pre, z4, z5, z6, z7] S = some (.nx [.sh (.ref 0), .sh (szD s), ruL L, chL L, z4', z5', z6', z7'] S') ∧ Good (m + 1200 * k) S' ∧ Pre s L ∧ L.length = s.length
  | 0, pre, m, S, z4, z5, z6, z7, hk, hg, _, hp => ⟨pre, S, z4, z5, z6, z7, rfl, hg, hp, hk⟩
  | k + 1, pre, m, S, z4, z5, z6, z7, hk, hg, hm, hp => by
    obtain ⟨c, S1, y5, st, g1, p1⟩ := lo_step hs hg (by omega) hp (by omega) z5 z6 z7
    obtain ⟨L, S', z4', z5', z6', z7', ih, g2, p2, l2⟩ := lo_loop hs k (pre ++ [c]) (m + 1200) S1 (.sh (.int (pre.length : Int))) y5 z6 z7 (by rw [List.length_append, List.length_singleton]; omega) g1 (by omega) p1
    refine ⟨L, S', z4', z5', z6', z7', ?_, by rw [show m + 1200 * (k + 1) = m + 1200 + 1200 * k by omega]; exact g2, p2, l2⟩
    have f1 := forF_step (g := gNm 4) (b := loB) (x := .int (pre.length : Int)) (xs := (List.range' (pre.length + 1) k).map fun (i : Nat) => D.int (i : Int)) (ρ := [.sh (.ref 0), .sh (szD s), ruL pre, chL pre, z4, z5, z6, z7]) (ρ1 := [.sh (.ref 0), .sh (szD s), ruL pre, chL pre, .sh (.int (pre.length : Int)), z5, z6, z7]) rfl st
    rw [List.range'_succ, List.map_cons]
    rw [List.length_append, List.length_singleton] at ih
    exact f1.trans ih
theorem law_lots_s {m : Nat} {S : Sto} (h : Good m S) (hm : m ≤ 1000) : ∃ (L : Lots) (S' : Sto), F__law_lots [.ref 0] S = some (lotsD L, S') ∧ LotsOk L ∧ Good 8000 S' := by
  obtain ⟨r, S1, t1, hr, g1⟩ := take_s 3 h (by omega) (by decide) (by decide)
  have c1 := compF_st (g := gNm 4) (te := eBin D.add (eC (.int 2)) (eCB gInt (aCons (eBin D.eq (eCall F__law_take (aCons (eVar 0) (aCons (eC (.int 4)) aNil))) (eC (.int 0))) aNil))) (ρ := [.sh (.ref 0), .un, .un, .un, .un, .un, .un, .un]) (fun (i : Nat) => D.int (i : Int)) (fun (n : Nat) => D.int (n : Int)) (fun n => 2 ≤ n ∧ n ≤ 3) fun x m S hm hS => by
    obtain ⟨r, S', t, hr, g⟩ := take_s 4 hS (by omega) (by decide) (by decide)
    have e : eBin D.eq (eCall F__law_take (aCons (eVar 0) (aCons (eC (.int 4)) aNil))) (eC (.int 0)) [.sh (.ref 0), .un, .un, .un, .sh (.int (x : Int)), .un, .un, .un] S = some (.bl (decide ((r : Int) = 0)), S') := eBin_of (d2 := .int 0) (S2 := S') (eCall_of (S1 := S) rfl t) rfl (eq_int _ _)
    refine ⟨_, if r = 0 then 3 else 2, S', rfl, eBin_of (d1 := .int 2) (d2 := .int (if decide ((r : Int) = 0) = true then 1 else 0)) (S1 := S) (S2 := S') rfl (eCB_of (aCons_of e rfl) rfl) ?_, g, by split <;> omega⟩
    rw [i_add]
    by_cases c : r = 0
    · subst c; rfl
    · have : decide ((r : Int) = 0) = false := decide_eq_false (by omega)
      rw [this, if_neg c]; rfl
  obtain ⟨s, S2, e1, g2, hl, hs⟩ := c1 (List.range (2 + r)) (m + 1) S1 g1 (by simp; omega)
  rw [List.length_range] at hl g2
  have hso : SzOk s := ⟨by omega, hs⟩
  have st1 : sAsg (eCB gTuple (aCons (eLc (iRng (aCons (eBin D.add (eC (.int 2)) (eCall F__law_take (aCons (eVar 0) (aCons (eC (.int 3)) aNil)))) aNil)) (gNm 4) tYs (eBin D.add (eC (.int 2)) (eCB gInt (aCons (eBin D.eq (eCall F__law_take (aCons (eVar 0) (aCons (eC (.int 4)) aNil))) (eC (.int 0))) aNil))) [4]) aNil)) (gNm 1) [.sh (.ref 0), .un, .un, .un, .un, .un, .un, .un] S = some (.nx [.sh (.ref 0), .sh (szD s), .un, .un, .un, .un, .un, .un] S2) :=
    sAsg_of (eCB_of (ds := [.lst (s.map fun (n : Nat) => D.int (n : Int))]) (S1 := S2) (aCons_of (eLc_of (xs := (List.range (2 + r)).map fun (i : Nat) => D.int (i : Int)) (S1 := S1) (iRng_of (ds := [.int ((2 + r : Nat) : Int)]) (S1 := S1) (aCons_of (eBin_of (d1 := .int 2) (d2 := .int (r : Int)) (S1 := S) (S2 := S1) rfl (eCall_of (S1 := S) rfl t1) (by rw [i_add]; congr 2)) rfl) (rangeOf_nat (by omega))) e1) rfl) rfl) rfl
  obtain ⟨L, S3, z4, z5, z6, z7, l, g3, pl, hL⟩ := lo_loop hso s.length [] (m + 1 + (2 + r)) S2 .un .un .un .un (by simp) g2 (by omega) ⟨fun j c e => by simp at e, by decide⟩
  obtain ⟨es, ok⟩ := pl.lots hL hso (by omega)
  refine ⟨L, S3, ?_, ok, g3.mono (by omega)⟩
  have hsl : gLen [szD s] = some (.int (s.length : Int)) := by simp only [gLen, szD, List.length_map]
  have rg : iRng (aCons (eCB gLen (aCons (bVar 1) aNil)) aNil) [.sh (.ref 0), .sh (szD s), ruL [], chL [], .un, .un, .un, .un] S2 = some ((List.range s.length).map fun (i : Nat) => D.int (i : Int), S2) := iRng_of (ds := [.int (s.length : Int)]) (S1 := S2) (aCons_of (eCB_of (ds := [szD s]) (S1 := S2) rfl hsl) rfl) (rangeOf_nat (show s.length ≤ 100000 by omega))
  rw [List.range_eq_range'] at rg
  unfold F__law_lots b__law_lots
  refine fnD_rt ?_ (by rw [g3.len, h.len])
  refine sSeq_of st1 ?_
  refine sSeq_of (S1 := S2) (ρ' := [.sh (.ref 0), .sh (szD s), ruL [], chL [], .un, .un, .un, .un]) rfl ?_
  refine sSeq_of (sFor_of rg l) ?_
  refine sFz_of rfl ?_
  refine sFz_of rfl ?_
  refine sRet_of ?_
  have e3 : lotsD L = .tup [szD s, ruLs L, chLs L] := by unfold lotsD; rw [es]
  rw [e3]
  exact eTup_of (ds := [szD s, ruLs L, chLs L]) (S1 := S3) rfl (by show 3 ≤ PySem.sizeLine; decide)
end W17

set_option Elab.async false
set_option linter.all false
set_option maxRecDepth 100000
namespace DL
open PySem (PyData)
/-- data that repr shows, of weight at most w, of depth at most n -/
structure Shw (d : D) (w n : Nat) : Prop where
  fit : ∀ m, n ≤ m → d.fit m = true
  sh : d.toP.showable = true
  nd : d.toP.hasDict = false
  lv : d.toP.leavesShort 13 = true
  wt : d.toP.weight ≤ w
theorem Shw.mono {d : D} {w w' n n' : Nat} (h : Shw d w n) (hw : w ≤ w') (hn : n ≤ n') : Shw d w' n' := ⟨fun m hm => h.fit m (by omega), h.sh, h.nd, h.lv, Nat.le_trans h.wt hw⟩
theorem shw_non : Shw .non 0 1 := ⟨fun m hm => by simp [D.fit], by simp [D.toP, PyData.showable], by simp [D.toP, PyData.hasDict], by simp [D.toP, PyData.leavesShort], by simp [D.toP, PyData.weight]⟩
theorem shw_int {i : Int} {k : Nat} (hk : k ≤ 30) (h0 : 0 < k) (h : i.natAbs < 2 ^ k) : Shw (.int i) k 1 := by
  have hl : i.natAbs.log2 < k := log_lt h0 h
  have h30 : i.natAbs < 2 ^ 30 := bd_mono h hk
  refine ⟨fun m hm => by simp [D.fit], ?_, by simp [D.toP, PyData.hasDict], ?_, ?_⟩
  · simp only [D.toP, PyData.showable, decide_eq_true_eq]; omega
  · simp only [D.toP, PyData.leavesShort, decide_eq_true_eq]
    exact PyData.shown_int_le (by omega)
  · simp only [D.toP, PyData.weight]
    split <;> omega
theorem shwAll {w n : Nat} : ∀ {xs : List D}, (∀ x ∈ xs, Shw x w n) → (∀ m, n ≤ m → D.fits xs m = true) ∧ PyData.showableAll (D.toPs xs) = true ∧ PyData.hasDictAll (D.toPs xs) = false ∧ PyData.leavesShortAll 13 (D.toPs xs) = true ∧ PyData.weightAll (D.toPs xs) ≤ xs.length * (w + 1)
  | [], _ => ⟨fun m _ => by simp [D.fits], by simp [D.toPs, PyData.showableAll], by simp [D.toPs, PyData.hasDictAll], by simp [D.toPs, PyData.leavesShortAll], by simp [D.toPs, PyData.weightAll]⟩
  | x :: xs, h => by
    have h0 := h x (.head _)
    obtain ⟨h1, h2, h3, h4, h5⟩ := shwAll (xs := xs) fun y hy => h y (.tail _ hy)
    refine ⟨fun m hm => ?_, ?_, ?_, ?_, ?_⟩
    · simp only [D.fits, h0.fit m hm, h1 m hm, Bool.and_self]
    · simp only [D.toPs, PyData.showableAll, h0.sh, h2, Bool.and_self]
    · simp only [D.toPs, PyData.hasDictAll, h0.nd, h3, Bool.or_self]
    · simp only [D.toPs, PyData.leavesShortAll, h0.lv, h4, Bool.and_self]
    · simp only [D.toPs, PyData.weightAll]
      have := h0.wt
      rw [List.length_cons, Nat.succ_mul]
      omega
theorem shw_tup {w n : Nat} {xs : List D} (h : ∀ x ∈ xs, Shw x w n) : Shw (.tup xs) (xs.length * (w + 1)) (n + 1) := by
  obtain ⟨h1, h2, h3, h4, h5⟩ := shwAll h
  refine ⟨fun m hm => ?_, by simpa [D.toP, PyData.showable] using h2, by simpa [D.toP, PyData.hasDict] using h3, by simpa [D.toP, PyData.leavesShort] using h4, by simpa [D.toP, PyData.weight] using h5⟩
  obtain ⟨k, rfl⟩ : ∃ k, m = k + 1 := ⟨m - 1, by omega⟩
  simp only [D.fit]
  exact h1 k (by omega)
theorem shw_lst {w n : Nat} {xs : List D} (h : ∀ x ∈ xs, Shw x w n) : Shw (.lst xs) (xs.length * (w + 1)) (n + 1) := by
  obtain ⟨h1, h2, h3, h4, h5⟩ := shwAll h
  refine ⟨fun m hm => ?_, by simpa [D.toP, PyData.showable] using h2, by simpa [D.toP, PyData.hasDict] using h3, by simpa [D.toP, PyData.leavesShort] using h4, by simpa [D.toP, PyData.weight] using h5⟩
  obtain ⟨k, rfl⟩ : ∃ k, m = k + 1 := ⟨m - 1, by omega⟩
  simp only [D.fit]
  exact h1 k (by omega)
theorem shw_tupN {w n k : Nat} {xs : List D} (h : ∀ x ∈ xs, Shw x w n) (hk : xs.length ≤ k) : Shw (.tup xs) (k * (w + 1)) (n + 1) := (shw_tup h).mono (Nat.mul_le_mul_right _ hk) (Nat.le_refl _)
theorem shw_row {r : List Int} {b k : Nat} (hb : b ≤ 30) (h0 : 0 < b) (h : ∀ x ∈ r, x.natAbs < 2 ^ b) (hk : r.length ≤ k) : Shw (rowD r) (k * (b + 1)) 2 := shw_tupN (fun x hx => by
  obtain ⟨i, hi, rfl⟩ := List.mem_map.mp hx
  exact shw_int hb h0 (h i hi)) (by rw [List.length_map]; exact hk)
theorem shw_fr {p : Int × Int} {b : Nat} (hb : b ≤ 30) (h0 : 0 < b) (h : Fb b p) : Shw (frD p) (2 * (b + 1)) 2 := shw_row (r := [p.1, p.2]) hb h0 (fun x hx => by
  rcases List.mem_cons.mp hx with e | hx
  · rw [e]; exact h.n
  · rw [List.mem_singleton.mp hx]; exact h.d) (Nat.le_refl _)
theorem repr_of {d : D} {w n : Nat} (h : Shw d w n) (hn : n ≤ 60) (hw : w ≤ 2 ^ 20) : gRepr [d] = some (.str d.toP.shown) := by
  have hs : d.toP.shown.length ≤ PySem.sizeLine := PyData.shown_fits (B := 13) (by decide) (by decide) h.lv (Nat.le_trans h.wt hw)
  have c : (d.fit 60 && d.toP.showable && !d.toP.hasDict && decide (d.toP.shown.length ≤ PySem.sizeLine)) = true := by
    rw [h.fit 60 hn, h.sh, h.nd, decide_eq_true hs]; rfl
  show (if _ then _ else _) = _
  rw [if_pos c]
theorem eq_str (x : PySem.Str) : D.eq (.str x) (.str x) = some (.bl true) := by
  have e : ((D.str x).fit 60 && (D.str x).fit 60) = true := by simp [D.fit]
  unfold D.eq
  rw [if_pos e]
  simp [D.eqv, D.toP, PyData.eqv]
end DL
namespace W17
open DL
open L2 (atI atI_nat ixN)
theorem alike_s {d : D} {w n : Nat} (h : Shw d w n) (hn : n ≤ 60) (hw : w ≤ 2 ^ 20) (S : Sto) : F__law_alike [d, d] S = some (.bl true, S) := by
  have r := repr_of h hn hw
  unfold F__law_alike b__law_alike
  exact fnD_rt (S' := S) (sRet_of (eBin_of (S1 := S) (S2 := S) (eCB_of (ds := [d]) (S1 := S) rfl r) (eCB_of (ds := [d]) (S1 := S) rfl r) (eq_str _))) rfl
theorem prodN_le : ∀ {s : List Nat}, (∀ n ∈ s, n ≤ 3) → prodN s ≤ 3 ^ s.length
  | [], _ => Nat.le_refl _
  | n :: s, h => by
    have := prodN_le (s := s) fun m hm => h m (.tail _ hm)
    show n * prodN s ≤ 3 ^ (s.length + 1)
    rw [Nat.pow_succ, Nat.mul_comm n]
    exact Nat.mul_le_mul this (h n (.head _))
section
variable {L : Lots}
theorem drawn_27 (h : LotsOk L) : (drawnM L).length ≤ 27 := by
  refine Nat.le_trans (List.length_filterMap_le _ _) ?_
  rw [rowsM_count, List.length_singleton, Nat.one_mul]
  have hl : (fszL L).length ≤ 3 := by unfold fszL; rw [List.length_map]; exact h.few
  exact Nat.le_trans (prodN_le h.small.1) (Nat.pow_le_pow_right (by decide) hl)
theorem shw_sz {s : List Nat} (hs : SzOk s) : Shw (szD s) (4 * 3) 2 := shw_tupN (fun x hx => by
  obtain ⟨n, hn, rfl⟩ := List.mem_map.mp hx
  exact shw_int (k := 2) (by decide) (by decide) (by have := (hs.2 n hn).2; omega)) (by rw [List.length_map]; exact hs.1)
theorem shw_ru {s : List Nat} {v : Nat} {r : Ru} (hs : SzOk s) (hv : v < 4) (h : RuOk s v r) : Shw (ruD r) (2 * (81 * 3 + 1)) 3 := by
  have h1 : Shw (varsD r.1) (81 * 3) 2 := (shw_tupN (w := 2) (n := 1) (k := 4) (fun x hx => by
    obtain ⟨a, ha, rfl⟩ := List.mem_map.mp hx
    exact shw_int (k := 2) (by decide) (by decide) (by have := h.par a ha; omega)) (by rw [List.length_map]; exact h.few)).mono (by decide) (Nat.le_refl _)
  have h2 : Shw (rowD r.2) (81 * 3) 2 := shw_row (b := 2) (by decide) (by decide) (fun x hx => by have := h.val x hx; have := hs.at v; omega) (by
    rw [h.len]
    refine Nat.le_trans (prodN_le fun n hn => ?_) ?_
    · obtain ⟨a, _, rfl⟩ := List.mem_map.mp hn
      exact hs.at a
    · rw [List.length_map]
      exact Nat.pow_le_pow_right (by decide) h.few)
  exact shw_tupN (k := 2) (fun x hx => by
    rcases List.mem_cons.mp hx with e | hx
    · rw [e]; exact h1
    · rw [List.mem_singleton.mp hx]; exact h2) (Nat.le_refl _)
theorem own_get {s : List Nat} : ∀ {rs : List Ru} {v : Nat}, OwnOk s v rs → v + rs.length ≤ 4 → ∀ r ∈ rs, ∃ u, u < 4 ∧ RuOk s u r
  | [], _, _, _, r, hr => nomatch hr
  | q :: rs, v, h, hl, r, hr => by
    rw [List.length_cons] at hl
    rcases List.mem_cons.mp hr with e | hr
    · rw [e]; exact ⟨v, by omega, h.1⟩
    · exact own_get h.2 (by omega) r hr
theorem shw_drawn (h : LotsOk L) : Shw (.tup ((drawnM L).map (drD L))) (27 * (2 * (2 * (4 * (2 * (81 * 3 + 1) + 1) + 1) + 1) + 1)) 7 := by
  have hs : SzOk (szL L) := h.szOk
  obtain ⟨hW, hW2⟩ := h.WL
  refine shw_tupN (n := 6) (fun x hx => ?_) (by rw [List.length_map]; exact drawn_27 h)
  obtain ⟨p, hp, rfl⟩ := List.mem_map.mp hx
  obtain ⟨o1, o2, o3, o4⟩ := h.drawn p hp
  have h1 : Shw (.tup (p.1.map ruD)) (4 * (2 * (81 * 3 + 1) + 1)) 4 := shw_tupN (fun y hy => by
    obtain ⟨r, hr, rfl⟩ := List.mem_map.mp hy
    obtain ⟨u, hu, ok⟩ := own_get o1 (by rw [o2]; have := hs.1; omega) r hr
    exact shw_ru hs hu ok) (by rw [List.length_map, o2]; exact hs.1)
  have h2 : Shw (fD (szL L) p.1) (2 * (4 * (2 * (81 * 3 + 1) + 1) + 1)) 5 := shw_tupN (k := 2) (fun y hy => by
    rcases List.mem_cons.mp hy with e | hy
    · rw [e]; exact (shw_sz hs).mono (by decide) (by decide)
    · rw [List.mem_singleton.mp hy]; exact h1) (Nat.le_refl _)
  exact shw_tupN (k := 2) (fun y hy => by
    rcases List.mem_cons.mp hy with e | hy
    · rw [e]; exact h2
    · rw [List.mem_singleton.mp hy]; exact (shw_fr (b := 10) (by decide) (by decide) (frb hW hW2 o4 (Nat.le_refl _))).mono (by decide) (by decide)) (Nat.le_refl _)
theorem lW_bd (h : LotsOk L) (deed : Ev) (q : List Int → Bool) : 0 ≤ sumK q (lW L deed) ∧ (sumK q (lW L deed)).natAbs < 2 ^ 21 := by
  obtain ⟨h1, h2⟩ := sumK_bd q (lW_ok h deed)
  refine ⟨h1, Nat.lt_of_le_of_lt h2 ?_⟩
  have : (lW L deed).length * 2 ^ 10 ≤ 1000 * 2 ^ 10 := Nat.mul_le_mul_right _ (lW_len h deed)
  omega
theorem shw_world (h : LotsOk L) (deed : Ev) : Shw (wDa L deed) (2 * (1000 * (2 * 22 + 1) + 1)) 4 := by
  have hs : SzOk (szL L) := h.szOk
  obtain ⟨hW, hW2⟩ := h.WL
  have h1 : Shw (.tup ((rowsM [[]] (szL L)).map fun r => frD (nf (sumK (fun j => decide (j = r)) (lW L deed)) (WL L)))) (1000 * (2 * 22 + 1)) 3 := shw_tupN (fun y hy => by
    obtain ⟨r, hr, rfl⟩ := List.mem_map.mp hy
    exact shw_fr (b := 21) (by decide) (by decide) (frb hW hW2 (lW_bd h deed _).2 (by decide))) (by rw [List.length_map]; exact rowsM_len h.smallS)
  exact shw_tupN (k := 2) (fun y hy => by
    rcases List.mem_cons.mp hy with e | hy
    · rw [e]; exact (shw_sz hs).mono (by decide) (by decide)
    · rw [List.mem_singleton.mp hy]; exact h1) (Nat.le_refl _)
theorem row_small (h : LotsOk L) {deed : Ev} (hd : DeedS L deed) {p : List Ru × Int} (hp : p ∈ drawnM L) : ∀ x ∈ runF (szL L) deed p.1 [], x.natAbs < 2 ^ 2 := fun x hx => by
  obtain ⟨o1, o2, _, _⟩ := h.drawn p hp
  have ok := (runF_ok hd (rs := p.1) (row := []) o1 (.nil _)).1
  obtain ⟨j, hj, e⟩ := List.mem_iff_getElem.mp hx
  have := ok j hj
  rw [List.getD_eq_getElem?_getD, List.getElem?_eq_getElem hj, Option.getD_some, e] at this
  have := h.at_le j
  omega
theorem shw_twins (h : LotsOk L) {deed : Ev} (hd : DeedS L deed) : Shw (.tup ((twDa L deed).map (triD (WL L)))) (1000 * (3 * (2 * 22 + 1) + 1)) 4 := by
  obtain ⟨hW, hW2⟩ := h.WL
  refine shw_tupN (n := 3) (fun x hx => ?_) (by rw [List.length_map]; exact tw_len h deed)
  obtain ⟨p, hp, rfl⟩ := List.mem_map.mp hx
  obtain ⟨q, hq, e⟩ := tab_key ((sortT_perm _).mem_iff.mp hp)
  have rl := tw_rows h hd p hp
  have l4 := h.sz.1
  unfold lP at hq
  obtain ⟨f, hf, rfl⟩ := List.mem_map.mp hq
  have e1 : runF (szL L) [] f.1 [] = p.1.1 := congrArg Prod.fst e
  have e2 : runF (szL L) deed f.1 [] = p.1.2 := congrArg Prod.snd e
  have r1 := row_small h (deed0 L) hf
  have r2 := row_small h hd hf
  rw [e1] at r1
  rw [e2] at r2
  have s1 : Shw (rowD p.1.1) (2 * 22) 2 := (shw_row (b := 2) (k := 4) (by decide) (by decide) r1 (by rw [rl.1]; exact l4)).mono (by decide) (Nat.le_refl _)
  have s2 : Shw (rowD p.1.2) (2 * 22) 2 := (shw_row (b := 2) (k := 4) (by decide) (by decide) r2 (by rw [rl.2]; exact l4)).mono (by decide) (Nat.le_refl _)
  have s3 : Shw (frD (nf p.2 (WL L))) (2 * 22) 2 := shw_fr (b := 21) (by decide) (by decide) (frb hW hW2 (tw_ok h deed p hp).2 (by decide))
  exact shw_tupN (k := 3) (fun y hy => by
    rcases List.mem_cons.mp hy with e | hy
    · rw [e]; exact s1
    · rcases List.mem_cons.mp hy with e | hy
      · rw [e]; exact s2
      · rw [List.mem_singleton.mp hy]; exact s3) (Nat.le_refl _)
theorem shw_wo (h : LotsOk L) (seen deed event : Ev) : Shw (woD L seen deed event) (2 * 22) 2 := by
  unfold woD
  obtain ⟨b1, b2⟩ := lP_bd h deed (qB seen)
  obtain ⟨a1, a2⟩ := lP_bd h deed (qA seen event)
  split
  · exact shw_non.mono (by decide) (by decide)
  · exact shw_fr (b := 21) (by decide) (by decide) (nf_fb a2 (by omega) b2)
theorem bo_bd (h : LotsOk L) (x y : Nat) : 0 ≤ boS L x y ∧ (boS L x y).natAbs < 2 ^ 21 := by
  have key : ∀ l : List (List Ru × Int), (∀ p ∈ l, 0 ≤ p.2 ∧ p.2.natAbs < 2 ^ 10) → 0 ≤ (l.map fun q : List Ru × Int => q.2).sum ∧ ((l.map fun q : List Ru × Int => q.2).sum).natAbs ≤ l.length * 2 ^ 10 := by
    intro l
    induction l with
    | nil => intro _; exact ⟨Int.le_refl _, Nat.zero_le _⟩
    | cons p l ih =>
      intro hp
      have h0 := hp p (.head _)
      obtain ⟨h1, h2⟩ := ih fun q hq => hp q (.tail _ hq)
      rw [List.map_cons, List.sum_cons, List.length_cons, Nat.succ_mul]
      omega
  obtain ⟨h1, h2⟩ := key ((drawnM L).filter fun p => boB L x y p.1) fun p hp => by
    obtain ⟨_, _, a1, a2⟩ := h.drawn p (List.mem_filter.mp hp).1
    exact ⟨Int.le_of_lt a1, a2⟩
  refine ⟨h1, Nat.lt_of_le_of_lt h2 ?_⟩
  have hl : ((drawnM L).filter fun p => boB L x y p.1).length ≤ 1000 := Nat.le_trans (List.length_filter_le _ _) (drawn_len h)
  have : ((drawnM L).filter fun p => boB L x y p.1).length * 2 ^ 10 ≤ 1000 * 2 ^ 10 := Nat.mul_le_mul_right _ hl
  omega
theorem shw_two (h : LotsOk L) (x y : Nat) : Shw (twoD L x y) (3 * (2 * 22 + 1)) 3 := by
  obtain ⟨hW, hW2⟩ := h.WL
  refine shw_lst (n := 2) (w := 2 * 22) fun d hd => ?_
  rcases List.mem_cons.mp hd with e | hd
  · rw [e]; exact shw_wo h _ _ _
  · rcases List.mem_cons.mp hd with e | hd
    · rw [e]; exact shw_wo h _ _ _
    · rw [List.mem_singleton.mp hd]
      exact shw_fr (b := 21) (by decide) (by decide) (frb hW hW2 (bo_bd h x y).2 (by decide))
end
end W17

set_option Elab.async false
set_option linter.all false
set_option maxRecDepth 100000
namespace DL
theorem sumK_map' {κ μ : Type} (q : κ → Bool) (g : μ → κ) : ∀ l : List (μ × Int), sumK q (l.map fun p => (g p.1, p.2)) = sumK (fun o => q (g o)) l
  | [] => rfl
  | p :: l => by
    rw [List.map_cons]
    show (if q (g p.1) = true then p.2 else 0) + sumK q _ = (if q (g p.1) = true then p.2 else 0) + _
    rw [sumK_map' q g l]
theorem sumK_add {κ : Type} (q1 q2 q3 : κ → Bool) : ∀ l : List (κ × Int), (∀ p ∈ l, (if q1 p.1 = true then p.2 else 0) + (if q2 p.1 = true then p.2 else 0) = if q3 p.1 = true then p.2 else 0) → sumK q1 l + sumK q2 l = sumK q3 l
  | [], _ => rfl
  | p :: l, h => by
    have h0 := h p (.head _)
    have ih := sumK_add q1 q2 q3 l fun r hr => h r (.tail _ hr)
    show ((if q1 p.1 = true then p.2 else 0) + sumK q1 l) + ((if q2 p.1 = true then p.2 else 0) + sumK q2 l) = (if q3 p.1 = true then p.2 else 0) + sumK q3 l
    omega
theorem sumK_congr {κ : Type} (q1 q2 : κ → Bool) : ∀ l : List (κ × Int), (∀ p ∈ l, q1 p.1 = q2 p.1) → sumK q1 l = sumK q2 l
  | [], _ => rfl
  | p :: l, h => by
    show (if q1 p.1 = true then p.2 else 0) + sumK q1 l = (if q2 p.1 = true then p.2 else 0) + sumK q2 l
    rw [h p (.head _), sumK_congr q1 q2 l fun r hr => h r (.tail _ hr)]
theorem sumK_filter' {κ : Type} (q : κ → Bool) : ∀ l : List (κ × Int), ((l.filter fun p => q p.1).map (·.2)).sum = sumK q l
  | [] => rfl
  | p :: l => by
    show _ = (if q p.1 = true then p.2 else 0) + sumK q l
    rw [← sumK_filter' q l]
    by_cases c : q p.1 = true
    · rw [List.filter_cons_of_pos (p := fun p : κ × Int => q p.1) c, if_pos c, List.map_cons, List.sum_cons]
    · rw [List.filter_cons_of_neg (p := fun p : κ × Int => q p.1) c, if_neg c, Int.zero_add]
theorem fits2 {r : List Int} {x y : Nat} {i j : Int} (hx : x < r.length) (hy : y < r.length) : fitsB r [(x, i), (y, j)] = (decide (r.getD x 0 = i) && decide (r.getD y 0 = j)) := by
  unfold fitsB
  simp only [List.all_cons, List.all_nil, Bool.and_true]
  rw [List.getD_eq_getElem?_getD, List.getD_eq_getElem?_getD, List.getElem?_eq_getElem hx, List.getElem?_eq_getElem hy]
  simp
theorem fits1 {r : List Int} {x : Nat} {i : Int} (hx : x < r.length) : fitsB r [(x, i)] = decide (r.getD x 0 = i) := by
  unfold fitsB
  simp only [List.all_cons, List.all_nil, Bool.and_true]
  rw [List.getD_eq_getElem?_getD, List.getElem?_eq_getElem hx]
  simp
end DL
namespace W17
open DL
section
variable {L : Lots}
/-- seen and done: the weights -/
def BB (L : Lots) (x y : Nat) (i : Int) (deed : Ev) : Int := sumK (qB [(x, i), (y, i)]) (lP L deed)
def AA (L : Lots) (x y : Nat) (i j : Int) : Int := sumK (qA [(x, i), (y, i)] [(y, j)]) (lP L [(x, j)])
theorem rx_ok (h : LotsOk L) {x y : Nat} (q : XY L x y) {p : List Ru × Int} (hp : p ∈ drawnM L) : 0 ≤ (runF (szL L) [] p.1 []).getD x 0 ∧ (runF (szL L) [] p.1 []).getD x 0 < 2 := by
  obtain ⟨o1, o2, _, _⟩ := h.drawn p hp
  have ok := (runF_ok (deed0 L) (rs := p.1) (row := []) o1 (.nil _)).1
  have := ok x (by rw [run_len h (deed0 L) hp]; exact q.lx)
  rw [q.x] at this
  exact this
theorem same_run (h : LotsOk L) {x y : Nat} (q : XY L x y) {p : List Ru × Int} (hp : p ∈ drawnM L) {i : Int} (hi : (runF (szL L) [] p.1 []).getD x 0 = i) : runF (szL L) [(x, i)] p.1 [] = runF (szL L) [] p.1 [] := by
  obtain ⟨o1, o2, _, _⟩ := h.drawn p hp
  refine run_same (.inr hi) (.inr ?_)
  rw [o2, List.length_nil, Nat.zero_add]
  unfold szL
  rw [List.length_map]
  exact q.lx
theorem sumA (L : Lots) (x y : Nat) (i j : Int) : AA L x y i j = sumK (fun o => qA [(x, i), (y, i)] [(y, j)] (runF (szL L) [] o [], runF (szL L) [(x, j)] o [])) (drawnM L) := by
  unfold AA lP
  exact sumK_map' (qA [(x, i), (y, i)] [(y, j)]) (fun o => (runF (szL L) [] o [], runF (szL L) [(x, j)] o [])) (drawnM L)
theorem sumB (L : Lots) (x y : Nat) (i : Int) (deed : Ev) : BB L x y i deed = sumK (fun o => fitsB (runF (szL L) [] o []) [(x, i), (y, i)]) (drawnM L) := by
  unfold BB lP
  exact sumK_map' (qB [(x, i), (y, i)]) (fun o => (runF (szL L) [] o [], runF (szL L) deed o [])) (drawnM L)
theorem parts_sum (h : LotsOk L) {x y : Nat} (q : XY L x y) : AA L x y 1 0 + AA L x y 0 1 = boS L x y := by
  rw [sumA, sumA]
  unfold boS
  rw [sumK_filter' (boB L x y)]
  refine sumK_add _ _ _ _ fun p hp => ?_
  have lr := run_len h (deed0 L) hp
  have l0 := run_len h (deed1 q.x (i := 0) (by decide)) hp
  have l1 := run_len h (deed1 q.x (i := 1) (by decide)) hp
  have rx := rx_ok h q hp
  unfold qA boB
  rw [fits2 (by rw [lr]; exact q.lx) (by rw [lr]; exact q.ly), fits2 (by rw [lr]; exact q.lx) (by rw [lr]; exact q.ly), fits1 (by rw [l0]; exact q.ly), fits1 (by rw [l1]; exact q.ly)]
  by_cases c : (runF (szL L) [] p.1 []).getD x 0 = 1
  · have e := same_run h q hp c
    rw [e, c]
    generalize (runF (szL L) [(x, 0)] p.1 []).getD y 0 = u
    generalize (runF (szL L) [] p.1 []).getD y 0 = v
    by_cases c0 : u = 0 <;> by_cases c1 : v = 1 <;> simp [c0, c1]
  · have c' : (runF (szL L) [] p.1 []).getD x 0 = 0 := by omega
    have e := same_run h q hp c'
    rw [e, c']
    generalize (runF (szL L) [(x, 1)] p.1 []).getD y 0 = u
    generalize (runF (szL L) [] p.1 []).getD y 0 = v
    by_cases c0 : u = 1 <;> by_cases c1 : v = 0 <;> simp [c0, c1]
theorem aa_bd (h : LotsOk L) (x y : Nat) (i j : Int) : 0 ≤ AA L x y i j ∧ (AA L x y i j).natAbs < 2 ^ 21 := lP_bd h _ _
theorem bb_bd (h : LotsOk L) (x y : Nat) (i : Int) (deed : Ev) : 0 ≤ BB L x y i deed ∧ (BB L x y i deed).natAbs < 2 ^ 21 := lP_bd h _ _
theorem aa_le (h : LotsOk L) (x y : Nat) (i j : Int) : AA L x y i j ≤ BB L x y i [(x, j)] := sumK_le _ _ (fun k hk => by
  unfold qA at hk
  rw [Bool.and_eq_true] at hk
  exact hk.2) fun p hp => (lP_ok h _ p hp).1
/-- a part of the last sum -/
theorem part_s (h : LotsOk L) {x y : Nat} {i j : Int} (S : Sto) : (woD L [(x, i), (y, i)] [(x, j)] [(y, j)] = .non ∧ AA L x y i j = 0) ∨ ∃ p : Int × Int, woD L [(x, i), (y, i)] [(x, j)] [(y, j)] = frD p ∧ F__law_times [frD p, frD (nf (BB L x y i []) (WL L))] S = some (frD (nf (AA L x y i j) (WL L)), S) := by
  obtain ⟨hW, hW2⟩ := h.WL
  have eB : BB L x y i [(x, j)] = BB L x y i [] := by rw [sumB, sumB]
  obtain ⟨a1, a2⟩ := aa_bd h x y i j
  obtain ⟨b1, b2⟩ := bb_bd h x y i [(x, j)]
  have hle := aa_le h x y i j
  by_cases c : BB L x y i [(x, j)] = 0
  · left
    refine ⟨?_, by omega⟩
    unfold woD
    exact if_pos c
  · right
    refine ⟨nf (AA L x y i j) (BB L x y i [(x, j)]), ?_, ?_⟩
    · unfold woD
      exact if_neg c
    · have hB : 0 < BB L x y i [(x, j)] := by omega
      rw [← eB]
      have ts := law_times_s S (nf_fb a2 hB b2) (frb hW hW2 b2 (by decide)) (nf_nn hB a1) (nf_nn hW b1) (by decide)
      have e : tmF (nf (AA L x y i j) (BB L x y i [(x, j)])) (nf (BB L x y i [(x, j)]) (WL L)) = nf (AA L x y i j) (WL L) := by
        rw [tm_nf _ _ hB hW, Int.mul_comm (BB L x y i [(x, j)]) (WL L)]
        exact nf_scale _ _ hB
      rw [e] at ts
      exact ts
theorem last_s (h : LotsOk L) {x y : Nat} (q : XY L x y) (S : Sto) : F__law_plus [frD (nf (AA L x y 1 0) (WL L)), frD (nf (AA L x y 0 1) (WL L))] S = some (frD (nf (boS L x y) (WL L)), S) := by
  obtain ⟨hW, hW2⟩ := h.WL
  obtain ⟨a1, a2⟩ := aa_bd h x y 1 0
  obtain ⟨b1, b2⟩ := aa_bd h x y 0 1
  have ps := law_plus_s S (frb hW hW2 a2 (by decide)) (frb hW hW2 b2 (by decide)) (nf_nn hW a1) (nf_nn hW b1) (by decide)
  rw [plF_same _ _ hW, parts_sum h q] at ps
  exact ps
/-! the law's own dict -/
def lwPB : Stm := (sDnPut 7 (eCall F__law_plus (aCons (eDnGet2 7 (eTup (aCons (eVar 8) (aCons (eVar 9) aNil))) (eTup (aCons (eC (.int 0)) (aCons (eC (.int 1)) aNil)))) (aCons (eVar 10) aNil))) (eTup (aCons (eVar 8) (aCons (eVar 9) aNil))))
abbrev dcellP (L : Lots) (l : List (PK × Int)) : Sl := .ow (.dn true (ksD prD (tabK l)) (dsD (WL L) (tabK l)))
theorem lp_loop (h : LotsOk L) (deed : Ev) (S : Sto) (a b c d e f g k1 k2 k3 k4 k5 k6 k7 k8 k9 k10 k11 : Sl) : ∀ (suf pre : List (PK × Int)) (z8 z9 z10 : Sl), lP L deed = pre ++ suf →
    ∃ z8' z9' z10', forF (gTp 3 (gsCons (gNm 8) (gsCons (gNm 9) (gsCons (gNm 10) gsNil)))) lwPB (suf.map (triD (WL L))) [a, b, c, d, e, f, g, dcellP L pre, z8, z9, z10, k1, k2, k3, k4, k5, k6, k7, k8, k9, k10, k11] S = some (.nx [a, b, c, d, e, f, g, dcellP L (lP L deed), z8', z9', z10', k1, k2, k3, k4, k5, k6, k7, k8, k9, k10, k11] S)
  | [], pre, z8, z9, z10, he => by
    rw [List.append_nil] at he
    rw [he]
    exact ⟨z8, z9, z10, rfl⟩
  | p :: suf, pre, z8, z9, z10, he => by
    obtain ⟨hW, hW2⟩ := h.WL
    have hok := lP_ok h deed
    have hp : p ∈ lP L deed := by rw [he]; simp
    have o4 := hok p hp
    have hl : ∀ q ∈ pre, 0 ≤ q.2 ∧ q.2.natAbs < 2 ^ 10 := fun q hq => hok q (by rw [he]; exact List.mem_append_left _ hq)
    have hz : pre.length ≤ 1000 := by
      have := lP_len h deed
      rw [he, List.length_append] at this
      omega
    obtain ⟨b1, b2⟩ := add_of encP hW hW2 (k := p.1) (w := p.2) hl hz o4
    obtain ⟨z8', z9', z10', ih⟩ := lp_loop h deed S a b c d e f g k1 k2 k3 k4 k5 k6 k7 k8 k9 k10 k11 suf (pre ++ [p]) (.sh (rowD p.1.1)) (.sh (rowD p.1.2)) (.sh (frD (nf p.2 (WL L)))) (by rw [he, List.append_assoc]; rfl)
    refine ⟨z8', z9', z10', ?_⟩
    have ps := law_plus_s S (frb hW hW2 b2 (by decide)) (frb hW hW2 o4.2 (Nat.le_refl _)) (nf_nn hW b1) (nf_nn hW o4.1) (by decide)
    rw [plF_same _ _ hW] at ps
    have kp : eTup (aCons (eVar 8) (aCons (eVar 9) aNil)) [a, b, c, d, e, f, g, dcellP L pre, .sh (rowD p.1.1), .sh (rowD p.1.2), .sh (frD (nf p.2 (WL L))), k1, k2, k3, k4, k5, k6, k7, k8, k9, k10, k11] S = some (prD p.1, S) := pair_s (S1 := S) (S2 := S) rfl rfl
    have zp : eTup (aCons (eC (.int 0)) (aCons (eC (.int 1)) aNil)) [a, b, c, d, e, f, g, dcellP L pre, .sh (rowD p.1.1), .sh (rowD p.1.2), .sh (frD (nf p.2 (WL L))), k1, k2, k3, k4, k5, k6, k7, k8, k9, k10, k11] S = some (frD (0, 1), S) := pair_s (S1 := S) (S2 := S) rfl rfl
    have gg := get2_of (i := 7) encP hW (l := tabK pre) (k := p.1) (ρ := [a, b, c, d, e, f, g, dcellP L pre, .sh (rowD p.1.1), .sh (rowD p.1.2), .sh (frD (nf p.2 (WL L))), k1, k2, k3, k4, k5, k6, k7, k8, k9, k10, k11]) rfl kp zp
    have pt := put_of (i := 7) encP (W := WL L) (l := tabK pre) (k := p.1) (x := (dget (tabK pre) p.1).getD 0 + p.2) (ρ := [a, b, c, d, e, f, g, dcellP L pre, .sh (rowD p.1.1), .sh (rowD p.1.2), .sh (frD (nf p.2 (WL L))), k1, k2, k3, k4, k5, k6, k7, k8, k9, k10, k11]) (f := eCall F__law_plus (aCons (eDnGet2 7 (eTup (aCons (eVar 8) (aCons (eVar 9) aNil))) (eTup (aCons (eC (.int 0)) (aCons (eC (.int 1)) aNil)))) (aCons (eVar 10) aNil))) rfl (eCall_of (aCons_of gg (aCons_of (S1 := S) rfl rfl)) ps) kp (by have := tab_len pre; omega)
    have f1 := forF_step (g := gTp 3 (gsCons (gNm 8) (gsCons (gNm 9) (gsCons (gNm 10) gsNil)))) (b := lwPB) (x := triD (WL L) p) (xs := suf.map (triD (WL L))) (ρ := [a, b, c, d, e, f, g, dcellP L pre, z8, z9, z10, k1, k2, k3, k4, k5, k6, k7, k8, k9, k10, k11]) (ρ1 := [a, b, c, d, e, f, g, dcellP L pre, .sh (rowD p.1.1), .sh (rowD p.1.2), .sh (frD (nf p.2 (WL L))), k1, k2, k3, k4, k5, k6, k7, k8, k9, k10, k11]) rfl pt
    have ed : dcellP L (pre ++ [p]) = .ow (.dn true (ksD prD (dset (tabK pre) p.1 ((dget (tabK pre) p.1).getD 0 + p.2))) (dsD (WL L) (dset (tabK pre) p.1 ((dget (tabK pre) p.1).getD 0 + p.2)))) := by
      unfold dcellP
      rw [tab_snoc]
      rfl
    rw [ed] at ih
    exact f1.trans ih
theorem seen_world_s (h : LotsOk L) (S : Sto) : F_seen_world [lotsD L] S = some (wDa L [], S) := by
  have w := done_world_s h (deed0 L) S
  unfold F_seen_world b_seen_world
  exact fnD_rt (S' := S) (sRet_of (eCall_of (ds := [lotsD L, evD []]) (S1 := S) (aCons_of (S1 := S) rfl (aCons_of (S1 := S) (eTup_of (ds := []) rfl (Nat.zero_le _)) rfl)) w)) rfl
end
end W17

set_option Elab.async false
set_option linter.all false
set_option maxRecDepth 100000
namespace W17
open DL
open L2 (atI atI_nat ixN)
def natsD (l : List Nat) : D := .lst (l.map fun (v : Nat) => D.int (v : Int))
theorem sPub_of {i : Nat} {g : Stm} {ρ : Rho} {S : Sto} {c : Cell} {o : Option Out} (h0 : ρ[i]? = some (.ow c)) (h : g (ρ.set i (.sh (.ref S.length))) (S ++ [c]) = o) : sPub i g ρ S = o := by
  unfold sPub
  rw [h0]
  exact h
theorem eLst_nil {ρ : Rho} {S : Sto} : eLst aNil ρ S = some (.lst [], S) := by
  show (if (0 : Nat) ≤ PySem.sizeLine then some (D.lst [], S) else none) = _
  rw [if_pos (Nat.zero_le _)]
theorem eLst_of {fs : Ars} {ρ : Rho} {S S1 : Sto} {ds : List D} (h1 : fs ρ S = some (ds, S1)) (h2 : ds.length ≤ PySem.sizeLine) : eLst fs ρ S = some (.lst ds, S1) := by
  unfold eLst
  rw [h1, Option.bind_some, if_pos h2]
theorem slice2 (a b c : D) : D.slice (.tup [a, b, c]) none (some 2) = some (.tup [a, b]) := by
  have e : HT.sIx [a, b, c].length [a, b, c].length (some 2) = min 2 [a, b, c].length := HT.sIx_nat [a, b, c].length [a, b, c].length 2
  show some (D.tup (cutD [a, b, c] none (some 2))) = _
  unfold cutD
  rw [e]
  rfl
theorem alike_not {f g : Ex} {ρ : Rho} {S S1 S2 : Sto} {d : D} {w n : Nat} (h1 : f ρ S = some (d, S1)) (h2 : g ρ S1 = some (d, S2)) (h : Shw d w n) (hn : n ≤ 60) (hw : w ≤ 2 ^ 20) : tNo (tTru (eCall F__law_alike (aCons f (aCons g aNil)))) ρ S = some (false, S2) :=
  tNo_of (tru_bl (eCall_of (aCons_of h1 (aCons_of h2 rfl)) (alike_s h hn hw S2)))
theorem cond_f {c : Tx} {a : Stm} {ρ : Rho} {S S1 : Sto} (h : c ρ S = some (false, S1)) : sIf c a sNx ρ S = some (.nx ρ S1) := sIf_f h rfl
section
variable {L : Lots} {ns : List Int}
def q2 : Stm := (sAsg (eCall F__law_lots (aCons (eVar 1) aNil)) (gNm 2))
theorem q2_s {S S1 : Sto} (h : F__law_lots [.ref 0] S = some (lotsD L, S1)) : q2 [.sh (.scr ns), .sh (.ref 0), .un, .un, .un, .un, .un, .un, .un, .un, .un, .un, .un, .un, .un, .un, .un, .un, .un, .un, .un, .un] S = some (.nx [.sh (.scr ns), .sh (.ref 0), .sh (lotsD L), .un, .un, .un, .un, .un, .un, .un, .un, .un, .un, .un, .un, .un, .un, .un, .un, .un, .un, .un] S1) := by
  exact sAsg_of (eCall_of (S1 := S) rfl h) rfl
def q3 : Stm := (sAsg (eBin D.ix (bVar 2) (eC (.int 0))) (gNm 3))
theorem q3_s (S : Sto) : q3 [.sh (.scr ns), .sh (.ref 0), .sh (lotsD L), .un, .un, .un, .un, .un, .un, .un, .un, .un, .un, .un, .un, .un, .un, .un, .un, .un, .un, .un] S = some (.nx [.sh (.scr ns), .sh (.ref 0), .sh (lotsD L), .sh (szD (szL L)), .un, .un, .un, .un, .un, .un, .un, .un, .un, .un, .un, .un, .un, .un, .un, .un, .un, .un] S) := by
  exact sAsg_of (eBin_of (S1 := S) (S2 := S) (d1 := lotsD L) (d2 := .int 0) rfl rfl (at0 _ _)) rfl
def q4 : Stm := (sIf (DL.tOr (tBl (eBin D.notB (eCall F_are_lots (aCons (eVar 2) aNil)) (eC (.bl true)))) (tBl (eBin D.notB (eCall F_are_lots (aCons (eSl D.slice (bVar 2) pNo (pIs (eC (.int 2)))) aNil)) (eC (.bl false))))) (sRet (eC (.bl false))) sNx)
theorem q4_s (h : LotsOk L) (S : Sto) : q4 [.sh (.scr ns), .sh (.ref 0), .sh (lotsD L), .sh (szD (szL L)), .un, .un, .un, .un, .un, .un, .un, .un, .un, .un, .un, .un, .un, .un, .un, .un, .un, .un] S = some (.nx [.sh (.scr ns), .sh (.ref 0), .sh (lotsD L), .sh (szD (szL L)), .un, .un, .un, .un, .un, .un, .un, .un, .un, .un, .un, .un, .un, .un, .un, .un, .un, .un] S) := by
  have sl : eSl D.slice (bVar 2) pNo (pIs (eC (.int 2))) [.sh (.scr ns), .sh (.ref 0), .sh (lotsD L), .sh (szD (szL L)), .un, .un, .un, .un, .un, .un, .un, .un, .un, .un, .un, .un, .un, .un, .un, .un, .un, .un] S = some (.tup [szD (szL L), ruLs L], S) := by
    show ((D.slice (lotsD L) none (some 2)).map fun z => (z, S)) = _
    unfold lotsD
    rw [slice2]
    rfl
  exact cond_f (tOr_f (tBl_of (eBin_of (S1 := S) (S2 := S) (d1 := .bl true) (d2 := .bl true) (eCall_of (S1 := S) rfl (are_lots_s h S)) rfl rfl)) (tBl_of (eBin_of (S1 := S) (S2 := S) (d1 := .bl false) (d2 := .bl false) (eCall_of (aCons_of sl rfl) (not_lots_s S)) rfl rfl)))
def q5 : Stm := (sIf (tNo (tTru (eCall F__law_alike (aCons (eCall F_drawn (aCons (eVar 2) aNil)) (aCons (eCB gTuple (aCons (eCall F__law_drawn (aCons (eVar 2) aNil)) aNil)) aNil))))) (sRet (eC (.bl false))) sNx)
theorem q5_s (h : LotsOk L) (S : Sto) : q5 [.sh (.scr ns), .sh (.ref 0), .sh (lotsD L), .sh (szD (szL L)), .un, .un, .un, .un, .un, .un, .un, .un, .un, .un, .un, .un, .un, .un, .un, .un, .un, .un] S = some (.nx [.sh (.scr ns), .sh (.ref 0), .sh (lotsD L), .sh (szD (szL L)), .un, .un, .un, .un, .un, .un, .un, .un, .un, .un, .un, .un, .un, .un, .un, .un, .un, .un] S) := by
  exact cond_f (alike_not (eCall_of (S1 := S) rfl (drawn_s h S)) (eCB_of (aCons_of (eCall_of (S1 := S) rfl (law_drawn_s h S)) rfl) rfl) (shw_drawn h) (by decide) (by decide))
def q6 : Stm := (sPar 4 5 (aCons (eCall F__law_deed (aCons (eVar 1) (aCons (eVar 3) (aCons (eC (.int 2)) (aCons (eLst aNil) aNil))))) (aCons (eCall F__law_deed (aCons (eVar 1) (aCons (eVar 3) (aCons (eC (.int 2)) (aCons (eLst aNil) aNil))))) aNil)))
theorem q6_s {S S1 S2 : Sto} {dd ev : Ev} (h1 : F__law_deed [.ref 0, szD (szL L), .int 2, .lst []] S = some (evD dd, S1)) (h2 : F__law_deed [.ref 0, szD (szL L), .int 2, .lst []] S1 = some (evD ev, S2)) : q6 [.sh (.scr ns), .sh (.ref 0), .sh (lotsD L), .sh (szD (szL L)), .un, .un, .un, .un, .un, .un, .un, .un, .un, .un, .un, .un, .un, .un, .un, .un, .un, .un] S = some (.nx [.sh (.scr ns), .sh (.ref 0), .sh (lotsD L), .sh (szD (szL L)), .sh (evD dd), .sh (evD ev), .un, .un, .un, .un, .un, .un, .un, .un, .un, .un, .un, .un, .un, .un, .un, .un] S2) := by
  exact sPar_of (aCons_of (eCall_of (aCons_of (S1 := S) rfl (aCons_of (S1 := S) rfl (aCons_of (S1 := S) rfl (aCons_of eLst_nil rfl)))) h1) (aCons_of (eCall_of (aCons_of (S1 := S1) rfl (aCons_of (S1 := S1) rfl (aCons_of (S1 := S1) rfl (aCons_of eLst_nil rfl)))) h2) rfl))
def q7 : Stm := (sAsg (eCall F__law_deed (aCons (eVar 1) (aCons (eVar 3) (aCons (eC (.int 2)) (aCons (eLst aNil) aNil))))) (gNm 6))
theorem q7_s {S S1 : Sto} {dd ev se : Ev} (h1 : F__law_deed [.ref 0, szD (szL L), .int 2, .lst []] S = some (evD se, S1)) : q7 [.sh (.scr ns), .sh (.ref 0), .sh (lotsD L), .sh (szD (szL L)), .sh (evD dd), .sh (evD ev), .un, .un, .un, .un, .un, .un, .un, .un, .un, .un, .un, .un, .un, .un, .un, .un] S = some (.nx [.sh (.scr ns), .sh (.ref 0), .sh (lotsD L), .sh (szD (szL L)), .sh (evD dd), .sh (evD ev), .sh (evD se), .un, .un, .un, .un, .un, .un, .un, .un, .un, .un, .un, .un, .un, .un, .un] S1) := by
  exact sAsg_of (eCall_of (aCons_of (S1 := S) rfl (aCons_of (S1 := S) rfl (aCons_of (S1 := S) rfl (aCons_of eLst_nil rfl)))) h1) rfl
def q8 : Stm := (sIf (DL.tOr (tNo (tTru (eCall F__law_alike (aCons (eCall F_seen_world (aCons (eVar 2) aNil)) (aCons (eCall F__law_world (aCons (eVar 2) (aCons (eTup aNil) aNil))) aNil))))) (tNo (tTru (eCall F__law_alike (aCons (eCall F_done_world (aCons (eVar 2) (aCons (eVar 4) aNil))) (aCons (eCall F__law_world (aCons (eVar 2) (aCons (eVar 4) aNil))) aNil)))))) (sRet (eC (.bl false))) sNx)
theorem q8_s (h : LotsOk L) {dd ev se : Ev} (hd : DeedS L dd) (S : Sto) : q8 [.sh (.scr ns), .sh (.ref 0), .sh (lotsD L), .sh (szD (szL L)), .sh (evD dd), .sh (evD ev), .sh (evD se), .un, .un, .un, .un, .un, .un, .un, .un, .un, .un, .un, .un, .un, .un, .un] S = some (.nx [.sh (.scr ns), .sh (.ref 0), .sh (lotsD L), .sh (szD (szL L)), .sh (evD dd), .sh (evD ev), .sh (evD se), .un, .un, .un, .un, .un, .un, .un, .un, .un, .un, .un, .un, .un, .un, .un] S) := by
  have w0 : eCall F__law_world (aCons (eVar 2) (aCons (eTup aNil) aNil)) [.sh (.scr ns), .sh (.ref 0), .sh (lotsD L), .sh (szD (szL L)), .sh (evD dd), .sh (evD ev), .sh (evD se), .un, .un, .un, .un, .un, .un, .un, .un, .un, .un, .un, .un, .un, .un, .un] S = some (wDa L [], S) := eCall_of (ds := [lotsD L, evD []]) (S1 := S) (aCons_of (S1 := S) rfl (aCons_of (S1 := S) (eTup_of (ds := []) rfl (Nat.zero_le _)) rfl)) (law_world_s h (deed0 L) S)
  exact cond_f (tOr_f (alike_not (eCall_of (S1 := S) rfl (seen_world_s h S)) w0 (shw_world h []) (by decide) (by decide)) (alike_not (eCall_of (S1 := S) rfl (done_world_s h hd S)) (eCall_of (S1 := S) rfl (law_world_s h hd S)) (shw_world h dd) (by decide) (by decide)))
def q9 : Stm := (sDn true 7)
theorem q9_s {dd ev se : Ev} (S : Sto) : q9 [.sh (.scr ns), .sh (.ref 0), .sh (lotsD L), .sh (szD (szL L)), .sh (evD dd), .sh (evD ev), .sh (evD se), .un, .un, .un, .un, .un, .un, .un, .un, .un, .un, .un, .un, .un, .un, .un] S = some (.nx [.sh (.scr ns), .sh (.ref 0), .sh (lotsD L), .sh (szD (szL L)), .sh (evD dd), .sh (evD ev), .sh (evD se), dcellP L [], .un, .un, .un, .un, .un, .un, .un, .un, .un, .un, .un, .un, .un, .un] S) := by
  rfl
def q10 : Stm := (sFor (iSeq (eCall F__law_pairs (aCons (eVar 2) (aCons (eVar 4) aNil)))) (gTp 3 (gsCons (gNm 8) (gsCons (gNm 9) (gsCons (gNm 10) gsNil))))
    (sDnPut 7 (eCall F__law_plus (aCons (eDnGet2 7 (eTup (aCons (eVar 8) (aCons (eVar 9) aNil))) (eTup (aCons (eC (.int 0)) (aCons (eC (.int 1)) aNil)))) (aCons (eVar 10) aNil))) (eTup (aCons (eVar 8) (aCons (eVar 9) aNil)))))
theorem q10_s (h : LotsOk L) {dd ev se : Ev} (hd : DeedS L dd) (S : Sto) : ∃ z8 z9 z10, q10 [.sh (.scr ns), .sh (.ref 0), .sh (lotsD L), .sh (szD (szL L)), .sh (evD dd), .sh (evD ev), .sh (evD se), dcellP L [], .un, .un, .un, .un, .un, .un, .un, .un, .un, .un, .un, .un, .un, .un] S = some (.nx [.sh (.scr ns), .sh (.ref 0), .sh (lotsD L), .sh (szD (szL L)), .sh (evD dd), .sh (evD ev), .sh (evD se), dcellP L (lP L dd), z8, z9, z10, .un, .un, .un, .un, .un, .un, .un, .un, .un, .un, .un] S) := by
  obtain ⟨z8, z9, z10, l⟩ := lp_loop h dd S (.sh (.scr ns)) (.sh (.ref 0)) (.sh (lotsD L)) (.sh (szD (szL L))) (.sh (evD dd)) (.sh (evD ev)) (.sh (evD se)) .un .un .un .un .un .un .un .un .un .un .un (lP L dd) [] .un .un .un rfl
  refine ⟨z8, z9, z10, ?_⟩
  exact sFor_of (S1 := S) (iSeq_of (S1 := S) (eCall_of (S1 := S) rfl (law_pairs_s h hd S)) rfl) l
def q11 : Stm := (sIf (tNo (tTru (eCall F__law_alike (aCons (eCall F_twins (aCons (eVar 2) (aCons (eVar 4) aNil))) (aCons (eCB gTuple (aCons (eCB gSorted (aCons (eLc (iDn 7) (gNm 20) tYs (eBin D.add (bVar 20) (eTup (aCons (eDnIx 7 (eVar 20)) aNil))) [20]) aNil)) aNil)) aNil))))) (sRet (eC (.bl false))) sNx)
theorem q11_s (h : LotsOk L) {dd ev se : Ev} {z8 z9 z10 : Sl} (hd : DeedS L dd) (S : Sto) : q11 [.sh (.scr ns), .sh (.ref 0), .sh (lotsD L), .sh (szD (szL L)), .sh (evD dd), .sh (evD ev), .sh (evD se), dcellP L (lP L dd), z8, z9, z10, .un, .un, .un, .un, .un, .un, .un, .un, .un, .un, .un] S = some (.nx [.sh (.scr ns), .sh (.ref 0), .sh (lotsD L), .sh (szD (szL L)), .sh (evD dd), .sh (evD ev), .sh (evD se), dcellP L (lP L dd), z8, z9, z10, .un, .un, .un, .un, .un, .un, .un, .un, .un, .un, .un] S) := by
  have tl := tab_len (lP L dd)
  have ll := lP_len h dd
  have iD : iDn 7 [.sh (.scr ns), .sh (.ref 0), .sh (lotsD L), .sh (szD (szL L)), .sh (evD dd), .sh (evD ev), .sh (evD se), dcellP L (lP L dd), z8, z9, z10, .un, .un, .un, .un, .un, .un, .un, .un, .un, .un, .un] S = some (ksD prD (tabK (lP L dd)), S) := by
    show (if (ksD prD (tabK (lP L dd))).length ≤ PySem.sizeLine then some (ksD prD (tabK (lP L dd)), S) else none) = _
    rw [if_pos (szle (by unfold ksD; rw [List.length_map]; omega))]
  have c := compF_all (g := gNm 20) (te := eBin D.add (bVar 20) (eTup (aCons (eDnIx 7 (eVar 20)) aNil))) (ρ := [.sh (.scr ns), .sh (.ref 0), .sh (lotsD L), .sh (szD (szL L)), .sh (evD dd), .sh (evD ev), .sh (evD se), dcellP L (lP L dd), z8, z9, z10, .un, .un, .un, .un, .un, .un, .un, .un, .un, .un, .un]) (S := S) (fun p : PK × Int => prD p.1) (triD (WL L)) (tabK (lP L dd)) fun p hp =>
    ⟨[.sh (.scr ns), .sh (.ref 0), .sh (lotsD L), .sh (szD (szL L)), .sh (evD dd), .sh (evD ev), .sh (evD se), dcellP L (lP L dd), z8, z9, z10, .un, .un, .un, .un, .un, .un, .un, .un, .un, .sh (prD p.1), .un], rfl, eBin_of (S1 := S) (S2 := S) rfl (tup1 (ix_of encP (W := WL L) (l := tabK (lP L dd)) (k := p.1) (S1 := S) rfl rfl (dget_nodup (tab_nodup _) hp))) (add3 _ _)⟩
  have lc := eLc_of (vs := [20]) (ρ := [.sh (.scr ns), .sh (.ref 0), .sh (lotsD L), .sh (szD (szL L)), .sh (evD dd), .sh (evD ev), .sh (evD se), dcellP L (lP L dd), z8, z9, z10, .un, .un, .un, .un, .un, .un, .un, .un, .un, .un, .un]) iD c
  have gs : gSorted [.lst ((tabK (lP L dd)).map (triD (WL L)))] = some (.lst ((twDa L dd).map (triD (WL L)))) := by
    show (if canSort ((tabK (lP L dd)).map (triD (WL L))) = true then some (D.lst (((tabK (lP L dd)).map (triD (WL L))).mergeSort D.le')) else none) = _
    rw [if_pos (canSort_triD _ _), sort_triD (WL L) (tab_nodup _)]
    rfl
  exact cond_f (alike_not (eCall_of (S1 := S) rfl (twins_s h hd S)) (eCB_of (aCons_of (eCB_of (aCons_of lc rfl) gs) rfl) rfl) (shw_twins h hd) (by decide) (by decide))
def q12 : Stm := (sIf (tNo (tTru (eCall F__law_alike (aCons (eCall F_would (aCons (eVar 2) (aCons (eVar 6) (aCons (eVar 4) (aCons (eVar 5) aNil))))) (aCons (eCall F__law_would (aCons (eVar 2) (aCons (eVar 6) (aCons (eVar 4) (aCons (eVar 5) aNil))))) aNil))))) (sRet (eC (.bl false))) sNx)
theorem q12_s (h : LotsOk L) {dd ev se : Ev} {z8 z9 z10 : Sl} (hd : DeedS L dd) (he : EvS L ev) (hs : EvS L se) (S : Sto) : q12 [.sh (.scr ns), .sh (.ref 0), .sh (lotsD L), .sh (szD (szL L)), .sh (evD dd), .sh (evD ev), .sh (evD se), dcellP L (lP L dd), z8, z9, z10, .un, .un, .un, .un, .un, .un, .un, .un, .un, .un, .un] S = some (.nx [.sh (.scr ns), .sh (.ref 0), .sh (lotsD L), .sh (szD (szL L)), .sh (evD dd), .sh (evD ev), .sh (evD se), dcellP L (lP L dd), z8, z9, z10, .un, .un, .un, .un, .un, .un, .un, .un, .un, .un, .un] S) := by
  exact cond_f (alike_not (eCall_of (S1 := S) rfl (would_s h hd hs he S)) (eCall_of (S1 := S) rfl (law_would_s h hd hs he S)) (shw_wo h _ _ _) (by decide) (by decide))
def twoM (L : Lots) : List Nat := (List.range (szL L).length).filter fun v => decide ((szL L).getD v 0 = 2)
def q13 : Stm := (sAsg (eLc (iRng (aCons (eCB gLen (aCons (bVar 3) aNil)) aNil)) (gNm 21) (tBl (eBin D.eq (eBin D.ix (bVar 3) (bVar 21)) (eC (.int 2)))) (eVar 21) [21]) (gNm 11))
theorem q13_s (h : LotsOk L) {dd ev se : Ev} {z8 z9 z10 : Sl} (S : Sto) : q13 [.sh (.scr ns), .sh (.ref 0), .sh (lotsD L), .sh (szD (szL L)), .sh (evD dd), .sh (evD ev), .sh (evD se), dcellP L (lP L dd), z8, z9, z10, .un, .un, .un, .un, .un, .un, .un, .un, .un, .un, .un] S = some (.nx [.sh (.scr ns), .sh (.ref 0), .sh (lotsD L), .sh (szD (szL L)), .sh (evD dd), .sh (evD ev), .sh (evD se), dcellP L (lP L dd), z8, z9, z10, .sh (natsD (twoM L)), .un, .un, .un, .un, .un, .un, .un, .un, .un, .un] S) := by
  have hl : (szL L).length ≤ 100000 := by have := h.szOk.1; omega
  have gl : gLen [szD (szL L)] = some (.int ((szL L).length : Int)) := by simp only [gLen, szD, List.length_map]
  have rg : iRng (aCons (eCB gLen (aCons (bVar 3) aNil)) aNil) [.sh (.scr ns), .sh (.ref 0), .sh (lotsD L), .sh (szD (szL L)), .sh (evD dd), .sh (evD ev), .sh (evD se), dcellP L (lP L dd), z8, z9, z10, .un, .un, .un, .un, .un, .un, .un, .un, .un, .un, .un] S = some ((List.range (szL L).length).map fun (i : Nat) => D.int (i : Int), S) := iRng_of (ds := [.int ((szL L).length : Int)]) (S1 := S) (aCons_of (eCB_of (ds := [szD (szL L)]) (S1 := S) rfl gl) rfl) (rangeOf_nat hl)
  have c := compF_map (g := gNm 21) (tt := tBl (eBin D.eq (eBin D.ix (bVar 3) (bVar 21)) (eC (.int 2)))) (te := eVar 21) (ρ := [.sh (.scr ns), .sh (.ref 0), .sh (lotsD L), .sh (szD (szL L)), .sh (evD dd), .sh (evD ev), .sh (evD se), dcellP L (lP L dd), z8, z9, z10, .un, .un, .un, .un, .un, .un, .un, .un, .un, .un, .un]) (S := S) (fun (v : Nat) => D.int (v : Int)) (fun v => decide ((szL L).getD v 0 = 2)) (fun (v : Nat) => D.int (v : Int)) (List.range (szL L).length) fun v hv => by
    refine ⟨[.sh (.scr ns), .sh (.ref 0), .sh (lotsD L), .sh (szD (szL L)), .sh (evD dd), .sh (evD ev), .sh (evD se), dcellP L (lP L dd), z8, z9, z10, .un, .un, .un, .un, .un, .un, .un, .un, .un, .un, .sh (.int (v : Int))], rfl, ?_, fun _ => rfl⟩
    have e : D.eq (.int (((szL L).getD v 0 : Nat) : Int)) (.int 2) = some (.bl (decide ((szL L).getD v 0 = 2))) := by
      have e0 : ∀ n : Nat, decide ((n : Int) = 2) = decide (n = 2) := fun n => decide_eq_decide.mpr (by omega)
      rw [eq_int, e0]
    exact tBl_of (eBin_of (S1 := S) (S2 := S) (d2 := .int 2) (eBin_of (S1 := S) (S2 := S) rfl rfl (szD_at (List.mem_range.mp hv))) rfl e)
  exact sAsg_of (eLc_of (vs := [21]) (ρ := [.sh (.scr ns), .sh (.ref 0), .sh (lotsD L), .sh (szD (szL L)), .sh (evD dd), .sh (evD ev), .sh (evD se), dcellP L (lP L dd), z8, z9, z10, .un, .un, .un, .un, .un, .un, .un, .un, .un, .un, .un]) rg c) rfl
def q14 : Stm := (sIf (tBl (eBin D.lt (eCB gLen (aCons (bVar 11) aNil)) (eC (.int 2)))) (sRet (eC (.bl true))) sNx)
theorem two_len {l : List Nat} : gLen [natsD l] = some (.int (l.length : Int)) := by simp only [gLen, natsD, List.length_map]
theorem q14_c {dd ev se : Ev} {z8 z9 z10 : Sl} (S : Sto) : tBl (eBin D.lt (eCB gLen (aCons (bVar 11) aNil)) (eC (.int 2))) [.sh (.scr ns), .sh (.ref 0), .sh (lotsD L), .sh (szD (szL L)), .sh (evD dd), .sh (evD ev), .sh (evD se), dcellP L (lP L dd), z8, z9, z10, .sh (natsD (twoM L)), .un, .un, .un, .un, .un, .un, .un, .un, .un, .un] S = some (decide (((twoM L).length : Int) < 2), S) := tBl_of (eBin_of (d2 := .int 2) (S1 := S) (S2 := S) (eCB_of (ds := [natsD (twoM L)]) (S1 := S) rfl two_len) rfl (i_lt _ _))
def q15 : Stm := (sAsg (eCall F__law_take (aCons (eVar 1) (aCons (eBin D.sub (eCB gLen (aCons (bVar 11) aNil)) (eC (.int 1))) aNil))) (gNm 12))
theorem q15_s {dd ev se : Ev} {z8 z9 z10 : Sl} {S S1 : Sto} {x0 : Nat} (h : F__law_take [.ref 0, .int (((twoM L).length : Int) - 1)] S = some (.int (x0 : Int), S1)) : q15 [.sh (.scr ns), .sh (.ref 0), .sh (lotsD L), .sh (szD (szL L)), .sh (evD dd), .sh (evD ev), .sh (evD se), dcellP L (lP L dd), z8, z9, z10, .sh (natsD (twoM L)), .un, .un, .un, .un, .un, .un, .un, .un, .un, .un] S = some (.nx [.sh (.scr ns), .sh (.ref 0), .sh (lotsD L), .sh (szD (szL L)), .sh (evD dd), .sh (evD ev), .sh (evD se), dcellP L (lP L dd), z8, z9, z10, .sh (natsD (twoM L)), .sh (.int (x0 : Int)), .un, .un, .un, .un, .un, .un, .un, .un, .un] S1) := by
  exact sAsg_of (eCall_of (aCons_of (S1 := S) rfl (aCons_of (eBin_of (S1 := S) (S2 := S) (d2 := .int 1) (eCB_of (ds := [natsD (twoM L)]) (S1 := S) rfl two_len) rfl (i_sub _ _)) rfl)) h) rfl
def q16 : Stm := (sAsg (eBin D.add (eBin D.add (bVar 12) (eC (.int 1))) (eCall F__law_take (aCons (eVar 1) (aCons (eBin D.sub (eBin D.sub (eCB gLen (aCons (bVar 11) aNil)) (eC (.int 1))) (bVar 12)) aNil)))) (gNm 13))
theorem q16_s {dd ev se : Ev} {z8 z9 z10 : Sl} {S S1 : Sto} {x0 y0 : Nat} (h : F__law_take [.ref 0, .int (((twoM L).length : Int) - 1 - (x0 : Int))] S = some (.int (y0 : Int), S1)) : q16 [.sh (.scr ns), .sh (.ref 0), .sh (lotsD L), .sh (szD (szL L)), .sh (evD dd), .sh (evD ev), .sh (evD se), dcellP L (lP L dd), z8, z9, z10, .sh (natsD (twoM L)), .sh (.int (x0 : Int)), .un, .un, .un, .un, .un, .un, .un, .un, .un] S = some (.nx [.sh (.scr ns), .sh (.ref 0), .sh (lotsD L), .sh (szD (szL L)), .sh (evD dd), .sh (evD ev), .sh (evD se), dcellP L (lP L dd), z8, z9, z10, .sh (natsD (twoM L)), .sh (.int (x0 : Int)), .sh (.int ((x0 : Int) + 1 + (y0 : Int))), .un, .un, .un, .un, .un, .un, .un, .un] S1) := by
  exact sAsg_of (eBin_of (S1 := S) (S2 := S1) (d1 := .int ((x0 : Int) + 1)) (d2 := .int (y0 : Int)) (eBin_of (S1 := S) (S2 := S) (d1 := .int (x0 : Int)) (d2 := .int 1) rfl rfl (i_add _ _)) (eCall_of (aCons_of (S1 := S) rfl (aCons_of (eBin_of (S1 := S) (S2 := S) (d2 := .int (x0 : Int)) (eBin_of (S1 := S) (S2 := S) (d2 := .int 1) (eCB_of (ds := [natsD (twoM L)]) (S1 := S) rfl two_len) rfl (i_sub _ _)) rfl (i_sub _ _)) rfl)) h) (i_add _ _)) rfl
def q17 : Stm := (sAsg (eTup (aCons (eBin D.ix (bVar 11) (bVar 12)) (aCons (eBin D.ix (bVar 11) (bVar 13)) aNil))) (gTp 2 (gsCons (gNm 12) (gsCons (gNm 13) gsNil))))
theorem q17_s {dd ev se : Ev} {z8 z9 z10 : Sl} (S : Sto) {x0 y0 x y : Nat} (hx : D.ix (natsD (twoM L)) (.int (x0 : Int)) = some (.int (x : Int))) (hy : D.ix (natsD (twoM L)) (.int ((x0 : Int) + 1 + (y0 : Int))) = some (.int (y : Int))) : q17 [.sh (.scr ns), .sh (.ref 0), .sh (lotsD L), .sh (szD (szL L)), .sh (evD dd), .sh (evD ev), .sh (evD se), dcellP L (lP L dd), z8, z9, z10, .sh (natsD (twoM L)), .sh (.int (x0 : Int)), .sh (.int ((x0 : Int) + 1 + (y0 : Int))), .un, .un, .un, .un, .un, .un, .un, .un] S = some (.nx [.sh (.scr ns), .sh (.ref 0), .sh (lotsD L), .sh (szD (szL L)), .sh (evD dd), .sh (evD ev), .sh (evD se), dcellP L (lP L dd), z8, z9, z10, .sh (natsD (twoM L)), .sh (.int (x : Int)), .sh (.int (y : Int)), .un, .un, .un, .un, .un, .un, .un, .un] S) := by
  exact sAsg_of (pair_s (S1 := S) (S2 := S) (eBin_of (S1 := S) (S2 := S) rfl rfl hx) (eBin_of (S1 := S) (S2 := S) rfl rfl hy)) rfl
def q18 : Stm := (sAsg (eLst (aCons (eCall F_necessity (aCons (eVar 2) (aCons (eVar 12) (aCons (eVar 13) aNil)))) (aCons (eCall F_sufficiency (aCons (eVar 2) (aCons (eVar 12) (aCons (eVar 13) aNil)))) (aCons (eCall F_both (aCons (eVar 2) (aCons (eVar 12) (aCons (eVar 13) aNil)))) aNil)))) (gNm 14))
theorem q18_s (h : LotsOk L) {dd ev se : Ev} {z8 z9 z10 : Sl} {x y : Nat} (q : XY L x y) (S : Sto) : q18 [.sh (.scr ns), .sh (.ref 0), .sh (lotsD L), .sh (szD (szL L)), .sh (evD dd), .sh (evD ev), .sh (evD se), dcellP L (lP L dd), z8, z9, z10, .sh (natsD (twoM L)), .sh (.int (x : Int)), .sh (.int (y : Int)), .un, .un, .un, .un, .un, .un, .un, .un] S = some (.nx [.sh (.scr ns), .sh (.ref 0), .sh (lotsD L), .sh (szD (szL L)), .sh (evD dd), .sh (evD ev), .sh (evD se), dcellP L (lP L dd), z8, z9, z10, .sh (natsD (twoM L)), .sh (.int (x : Int)), .sh (.int (y : Int)), .sh (twoD L x y), .un, .un, .un, .un, .un, .un, .un] S) := by
  exact sAsg_of (eLst_of (ds := [_, _, _]) (aCons_of (eCall_of (S1 := S) rfl (necessity_s h q S)) (aCons_of (eCall_of (S1 := S) rfl (sufficiency_s h q S)) (aCons_of (eCall_of (S1 := S) rfl (both_s h q S)) rfl))) (by show 3 ≤ PySem.sizeLine; decide)) rfl
def q19 : Stm := (sAsg (eCall F__law_two (aCons (eVar 2) (aCons (eVar 12) (aCons (eVar 13) aNil)))) (gNm 15))
theorem q19_s (h : LotsOk L) {dd ev se : Ev} {z8 z9 z10 : Sl} {x y : Nat} (q : XY L x y) (S : Sto) : q19 [.sh (.scr ns), .sh (.ref 0), .sh (lotsD L), .sh (szD (szL L)), .sh (evD dd), .sh (evD ev), .sh (evD se), dcellP L (lP L dd), z8, z9, z10, .sh (natsD (twoM L)), .sh (.int (x : Int)), .sh (.int (y : Int)), .sh (twoD L x y), .un, .un, .un, .un, .un, .un, .un] S = some (.nx [.sh (.scr ns), .sh (.ref 0), .sh (lotsD L), .sh (szD (szL L)), .sh (evD dd), .sh (evD ev), .sh (evD se), dcellP L (lP L dd), z8, z9, z10, .sh (natsD (twoM L)), .sh (.int (x : Int)), .sh (.int (y : Int)), .sh (twoD L x y), .sh (twoD L x y), .un, .un, .un, .un, .un, .un] S) := by
  exact sAsg_of (eCall_of (S1 := S) rfl (law_two_s h q S)) rfl
def q20 : Stm := (sIf (tNo (tTru (eCall F__law_alike (aCons (eVar 14) (aCons (eVar 15) aNil))))) (sRet (eC (.bl false))) sNx)
theorem q20_s (h : LotsOk L) {dd ev se : Ev} {z8 z9 z10 : Sl} {x y : Nat} (q : XY L x y) (S : Sto) : q20 [.sh (.scr ns), .sh (.ref 0), .sh (lotsD L), .sh (szD (szL L)), .sh (evD dd), .sh (evD ev), .sh (evD se), dcellP L (lP L dd), z8, z9, z10, .sh (natsD (twoM L)), .sh (.int (x : Int)), .sh (.int (y : Int)), .sh (twoD L x y), .sh (twoD L x y), .un, .un, .un, .un, .un, .un] S = some (.nx [.sh (.scr ns), .sh (.ref 0), .sh (lotsD L), .sh (szD (szL L)), .sh (evD dd), .sh (evD ev), .sh (evD se), dcellP L (lP L dd), z8, z9, z10, .sh (natsD (twoM L)), .sh (.int (x : Int)), .sh (.int (y : Int)), .sh (twoD L x y), .sh (twoD L x y), .un, .un, .un, .un, .un, .un] S) := by
  exact cond_f (alike_not (S1 := S) (S2 := S) (d := twoD L x y) rfl rfl (shw_two h x y) (by decide) (by decide))
def q21 : Stm := (sAsg (eCall F__law_pairs (aCons (eVar 2) (aCons (eTup aNil) aNil))) (gNm 16))
theorem q21_s (h : LotsOk L) {dd ev se : Ev} {z8 z9 z10 : Sl} {x y : Nat} (q : XY L x y) (S : Sto) : q21 [.sh (.scr ns), .sh (.ref 0), .sh (lotsD L), .sh (szD (szL L)), .sh (evD dd), .sh (evD ev), .sh (evD se), dcellP L (lP L dd), z8, z9, z10, .sh (natsD (twoM L)), .sh (.int (x : Int)), .sh (.int (y : Int)), .sh (twoD L x y), .sh (twoD L x y), .un, .un, .un, .un, .un, .un] S = some (.nx [.sh (.scr ns), .sh (.ref 0), .sh (lotsD L), .sh (szD (szL L)), .sh (evD dd), .sh (evD ev), .sh (evD se), dcellP L (lP L dd), z8, z9, z10, .sh (natsD (twoM L)), .sh (.int (x : Int)), .sh (.int (y : Int)), .sh (twoD L x y), .sh (twoD L x y), .sh (.lst ((lP L []).map (triD (WL L)))), .un, .un, .un, .un, .un] S) := by
  exact sAsg_of (eCall_of (ds := [lotsD L, evD []]) (S1 := S) (aCons_of (S1 := S) rfl (aCons_of (S1 := S) (eTup_of (ds := []) rfl (Nat.zero_le _)) rfl)) (law_pairs_s h (deed0 L) S)) rfl
def q22 : Stm := (sAsg (eCall F__law_total (aCons (eLc (iSeq (bVar 16)) (gTp 3 (gsCons (gNm 8) (gsCons (gNm 9) (gsCons (gNm 10) gsNil)))) (tAn (tBl (eBin D.eq (eBin D.ix (bVar 8) (bVar 12)) (eC (.int 1)))) (tBl (eBin D.eq (eBin D.ix (bVar 8) (bVar 13)) (eC (.int 1))))) (eVar 10) [8, 9, 10]) aNil)) (gNm 17))
theorem q22_s (h : LotsOk L) {dd ev se : Ev} {z8 z9 z10 : Sl} {x y : Nat} (q : XY L x y) (S : Sto) : q22 [.sh (.scr ns), .sh (.ref 0), .sh (lotsD L), .sh (szD (szL L)), .sh (evD dd), .sh (evD ev), .sh (evD se), dcellP L (lP L dd), z8, z9, z10, .sh (natsD (twoM L)), .sh (.int (x : Int)), .sh (.int (y : Int)), .sh (twoD L x y), .sh (twoD L x y), .sh (.lst ((lP L []).map (triD (WL L)))), .un, .un, .un, .un, .un] S = some (.nx [.sh (.scr ns), .sh (.ref 0), .sh (lotsD L), .sh (szD (szL L)), .sh (evD dd), .sh (evD ev), .sh (evD se), dcellP L (lP L dd), z8, z9, z10, .sh (natsD (twoM L)), .sh (.int (x : Int)), .sh (.int (y : Int)), .sh (twoD L x y), .sh (twoD L x y), .sh (.lst ((lP L []).map (triD (WL L)))), .sh (frD (nf (BB L x y 1 []) (WL L))), .un, .un, .un, .un] S) := by
  obtain ⟨hW, hW2⟩ := h.WL
  have rows := lP_rows h (deed0 L)
  have c := compF_map (g := gTp 3 (gsCons (gNm 8) (gsCons (gNm 9) (gsCons (gNm 10) gsNil)))) (tt := tAn (tBl (eBin D.eq (eBin D.ix (bVar 8) (bVar 12)) (eC (.int 1)))) (tBl (eBin D.eq (eBin D.ix (bVar 8) (bVar 13)) (eC (.int 1))))) (te := eVar 10) (ρ := [.sh (.scr ns), .sh (.ref 0), .sh (lotsD L), .sh (szD (szL L)), .sh (evD dd), .sh (evD ev), .sh (evD se), dcellP L (lP L dd), .un, .un, .un, .sh (natsD (twoM L)), .sh (.int (x : Int)), .sh (.int (y : Int)), .sh (twoD L x y), .sh (twoD L x y), .sh (.lst ((lP L []).map (triD (WL L)))), .un, .un, .un, .un, .un]) (S := S) (triD (WL L)) (fun p => decide (p.1.1.getD x 0 = 1) && decide (p.1.1.getD y 0 = 1)) (fun p => frD (nf p.2 (WL L))) (lP L []) fun p hp =>
    ⟨[.sh (.scr ns), .sh (.ref 0), .sh (lotsD L), .sh (szD (szL L)), .sh (evD dd), .sh (evD ev), .sh (evD se), dcellP L (lP L dd), .sh (rowD p.1.1), .sh (rowD p.1.2), .sh (frD (nf p.2 (WL L))), .sh (natsD (twoM L)), .sh (.int (x : Int)), .sh (.int (y : Int)), .sh (twoD L x y), .sh (twoD L x y), .sh (.lst ((lP L []).map (triD (WL L)))), .un, .un, .un, .un, .un], rfl, tAn_of (tBl_of (eBin_of (S1 := S) (S2 := S) (d2 := .int 1) (eBin_of (S1 := S) (S2 := S) rfl rfl (rowD_at (by rw [(rows p hp).1]; exact q.lx))) rfl (eq_int _ _))) (tBl_of (eBin_of (S1 := S) (S2 := S) (d2 := .int 1) (eBin_of (S1 := S) (S2 := S) rfl rfl (rowD_at (by rw [(rows p hp).1]; exact q.ly))) rfl (eq_int _ _))), fun _ => rfl⟩
  have lc := eLc_of (vs := [8, 9, 10]) (it := iSeq (bVar 16)) (ρ := [.sh (.scr ns), .sh (.ref 0), .sh (lotsD L), .sh (szD (szL L)), .sh (evD dd), .sh (evD ev), .sh (evD se), dcellP L (lP L dd), z8, z9, z10, .sh (natsD (twoM L)), .sh (.int (x : Int)), .sh (.int (y : Int)), .sh (twoD L x y), .sh (twoD L x y), .sh (.lst ((lP L []).map (triD (WL L)))), .un, .un, .un, .un, .un]) (S := S) rfl c
  have hok : ∀ p ∈ lP L [], 0 ≤ p.2 ∧ p.2.natAbs < 2 ^ 21 := fun p hp => ⟨(lP_ok h [] p hp).1, bd_mono (lP_ok h [] p hp).2 (by decide)⟩
  have tt := (total_w hW hW2 (ws_of (List.filter_sublist (p := fun p : PK × Int => decide (p.1.1.getD x 0 = 1) && decide (p.1.1.getD y 0 = 1))) (lP_len h []) hok) (.lst (((lP L []).filter fun p => decide (p.1.1.getD x 0 = 1) && decide (p.1.1.getD y 0 = 1)).map fun p => frD (nf p.2 (WL L)))) (by rw [List.map_map]; rfl) S).1
  have es : (((lP L []).filter fun p => decide (p.1.1.getD x 0 = 1) && decide (p.1.1.getD y 0 = 1)).map (·.2)).sum = BB L x y 1 [] := by
    rw [sumK_filter' (fun k : PK => decide (k.1.getD x 0 = 1) && decide (k.1.getD y 0 = 1))]
    unfold BB
    refine sumK_congr _ _ _ fun p hp => ?_
    unfold qB
    rw [fits2 (by rw [(rows p hp).1]; exact q.lx) (by rw [(rows p hp).1]; exact q.ly)]
  rw [es] at tt
  exact sAsg_of (eCall_of (aCons_of lc rfl) tt) rfl
def q23 : Stm := (sAsg (eCall F__law_total (aCons (eLc (iSeq (bVar 16)) (gTp 3 (gsCons (gNm 8) (gsCons (gNm 9) (gsCons (gNm 10) gsNil)))) (tAn (tBl (eBin D.eq (eBin D.ix (bVar 8) (bVar 12)) (eC (.int 0)))) (tBl (eBin D.eq (eBin D.ix (bVar 8) (bVar 13)) (eC (.int 0))))) (eVar 10) [8, 9, 10]) aNil)) (gNm 18))
theorem q23_s (h : LotsOk L) {dd ev se : Ev} {z8 z9 z10 : Sl} {x y : Nat} (q : XY L x y) (S : Sto) : q23 [.sh (.scr ns), .sh (.ref 0), .sh (lotsD L), .sh (szD (szL L)), .sh (evD dd), .sh (evD ev), .sh (evD se), dcellP L (lP L dd), z8, z9, z10, .sh (natsD (twoM L)), .sh (.int (x : Int)), .sh (.int (y : Int)), .sh (twoD L x y), .sh (twoD L x y), .sh (.lst ((lP L []).map (triD (WL L)))), .sh (frD (nf (BB L x y 1 []) (WL L))), .un, .un, .un, .un] S = some (.nx [.sh (.scr ns), .sh (.ref 0), .sh (lotsD L), .sh (szD (szL L)), .sh (evD dd), .sh (evD ev), .sh (evD se), dcellP L (lP L dd), z8, z9, z10, .sh (natsD (twoM L)), .sh (.int (x : Int)), .sh (.int (y : Int)), .sh (twoD L x y), .sh (twoD L x y), .sh (.lst ((lP L []).map (triD (WL L)))), .sh (frD (nf (BB L x y 1 []) (WL L))), .sh (frD (nf (BB L x y 0 []) (WL L))), .un, .un, .un] S) := by
  obtain ⟨hW, hW2⟩ := h.WL
  have rows := lP_rows h (deed0 L)
  have c := compF_map (g := gTp 3 (gsCons (gNm 8) (gsCons (gNm 9) (gsCons (gNm 10) gsNil)))) (tt := tAn (tBl (eBin D.eq (eBin D.ix (bVar 8) (bVar 12)) (eC (.int 0)))) (tBl (eBin D.eq (eBin D.ix (bVar 8) (bVar 13)) (eC (.int 0))))) (te := eVar 10) (ρ := [.sh (.scr ns), .sh (.ref 0), .sh (lotsD L), .sh (szD (szL L)), .sh (evD dd), .sh (evD ev), .sh (evD se), dcellP L (lP L dd), .un, .un, .un, .sh (natsD (twoM L)), .sh (.int (x : Int)), .sh (.int (y : Int)), .sh (twoD L x y), .sh (twoD L x y), .sh (.lst ((lP L []).map (triD (WL L)))), .sh (frD (nf (BB L x y 1 []) (WL L))), .un, .un, .un, .un]) (S := S) (triD (WL L)) (fun p => decide (p.1.1.getD x 0 = 0) && decide (p.1.1.getD y 0 = 0)) (fun p => frD (nf p.2 (WL L))) (lP L []) fun p hp =>
    ⟨[.sh (.scr ns), .sh (.ref 0), .sh (lotsD L), .sh (szD (szL L)), .sh (evD dd), .sh (evD ev), .sh (evD se), dcellP L (lP L dd), .sh (rowD p.1.1), .sh (rowD p.1.2), .sh (frD (nf p.2 (WL L))), .sh (natsD (twoM L)), .sh (.int (x : Int)), .sh (.int (y : Int)), .sh (twoD L x y), .sh (twoD L x y), .sh (.lst ((lP L []).map (triD (WL L)))), .sh (frD (nf (BB L x y 1 []) (WL L))), .un, .un, .un, .un], rfl, tAn_of (tBl_of (eBin_of (S1 := S) (S2 := S) (d2 := .int 0) (eBin_of (S1 := S) (S2 := S) rfl rfl (rowD_at (by rw [(rows p hp).1]; exact q.lx))) rfl (eq_int _ _))) (tBl_of (eBin_of (S1 := S) (S2 := S) (d2 := .int 0) (eBin_of (S1 := S) (S2 := S) rfl rfl (rowD_at (by rw [(rows p hp).1]; exact q.ly))) rfl (eq_int _ _))), fun _ => rfl⟩
  have lc := eLc_of (vs := [8, 9, 10]) (it := iSeq (bVar 16)) (ρ := [.sh (.scr ns), .sh (.ref 0), .sh (lotsD L), .sh (szD (szL L)), .sh (evD dd), .sh (evD ev), .sh (evD se), dcellP L (lP L dd), z8, z9, z10, .sh (natsD (twoM L)), .sh (.int (x : Int)), .sh (.int (y : Int)), .sh (twoD L x y), .sh (twoD L x y), .sh (.lst ((lP L []).map (triD (WL L)))), .sh (frD (nf (BB L x y 1 []) (WL L))), .un, .un, .un, .un]) (S := S) rfl c
  have hok : ∀ p ∈ lP L [], 0 ≤ p.2 ∧ p.2.natAbs < 2 ^ 21 := fun p hp => ⟨(lP_ok h [] p hp).1, bd_mono (lP_ok h [] p hp).2 (by decide)⟩
  have tt := (total_w hW hW2 (ws_of (List.filter_sublist (p := fun p : PK × Int => decide (p.1.1.getD x 0 = 0) && decide (p.1.1.getD y 0 = 0))) (lP_len h []) hok) (.lst (((lP L []).filter fun p => decide (p.1.1.getD x 0 = 0) && decide (p.1.1.getD y 0 = 0)).map fun p => frD (nf p.2 (WL L)))) (by rw [List.map_map]; rfl) S).1
  have es : (((lP L []).filter fun p => decide (p.1.1.getD x 0 = 0) && decide (p.1.1.getD y 0 = 0)).map (·.2)).sum = BB L x y 0 [] := by
    rw [sumK_filter' (fun k : PK => decide (k.1.getD x 0 = 0) && decide (k.1.getD y 0 = 0))]
    unfold BB
    refine sumK_congr _ _ _ fun p hp => ?_
    unfold qB
    rw [fits2 (by rw [(rows p hp).1]; exact q.lx) (by rw [(rows p hp).1]; exact q.ly)]
  rw [es] at tt
  exact sAsg_of (eCall_of (aCons_of lc rfl) tt) rfl
def q24 : Stm := (sAsg (eLst (aCons (eIf (tBl (eBin D.notN (eBin D.ix (bVar 15) (eC (.int 0))) (eC .non))) (eCall F__law_times (aCons (eBin D.ix (bVar 15) (eC (.int 0))) (aCons (eVar 17) aNil))) (eTup (aCons (eC (.int 0)) (aCons (eC (.int 1)) aNil)))) (aCons (eIf (tBl (eBin D.notN (eBin D.ix (bVar 15) (eC (.int 1))) (eC .non))) (eCall F__law_times (aCons (eBin D.ix (bVar 15) (eC (.int 1))) (aCons (eVar 18) aNil))) (eTup (aCons (eC (.int 0)) (aCons (eC (.int 1)) aNil)))) aNil))) (gNm 19))
theorem q24_s (h : LotsOk L) {dd ev se : Ev} {z8 z9 z10 : Sl} {x y : Nat} (q : XY L x y) (S : Sto) : q24 [.sh (.scr ns), .sh (.ref 0), .sh (lotsD L), .sh (szD (szL L)), .sh (evD dd), .sh (evD ev), .sh (evD se), dcellP L (lP L dd), z8, z9, z10, .sh (natsD (twoM L)), .sh (.int (x : Int)), .sh (.int (y : Int)), .sh (twoD L x y), .sh (twoD L x y), .sh (.lst ((lP L []).map (triD (WL L)))), .sh (frD (nf (BB L x y 1 []) (WL L))), .sh (frD (nf (BB L x y 0 []) (WL L))), .un, .un, .un] S = some (.nx [.sh (.scr ns), .sh (.ref 0), .sh (lotsD L), .sh (szD (szL L)), .sh (evD dd), .sh (evD ev), .sh (evD se), dcellP L (lP L dd), z8, z9, z10, .sh (natsD (twoM L)), .sh (.int (x : Int)), .sh (.int (y : Int)), .sh (twoD L x y), .sh (twoD L x y), .sh (.lst ((lP L []).map (triD (WL L)))), .sh (frD (nf (BB L x y 1 []) (WL L))), .sh (frD (nf (BB L x y 0 []) (WL L))), .sh (.lst [frD (nf (AA L x y 1 0) (WL L)), frD (nf (AA L x y 0 1) (WL L))]), .un, .un] S) := by
  obtain ⟨hW, hW2⟩ := h.WL
  have p0 : eIf (tBl (eBin D.notN (eBin D.ix (bVar 15) (eC (.int 0))) (eC .non))) (eCall F__law_times (aCons (eBin D.ix (bVar 15) (eC (.int 0))) (aCons (eVar 17) aNil))) (eTup (aCons (eC (.int 0)) (aCons (eC (.int 1)) aNil))) [.sh (.scr ns), .sh (.ref 0), .sh (lotsD L), .sh (szD (szL L)), .sh (evD dd), .sh (evD ev), .sh (evD se), dcellP L (lP L dd), z8, z9, z10, .sh (natsD (twoM L)), .sh (.int (x : Int)), .sh (.int (y : Int)), .sh (twoD L x y), .sh (twoD L x y), .sh (.lst ((lP L []).map (triD (WL L)))), .sh (frD (nf (BB L x y 1 []) (WL L))), .sh (frD (nf (BB L x y 0 []) (WL L))), .un, .un, .un] S = some (frD (nf (AA L x y 1 0) (WL L)), S) := by
    have ix : eBin D.ix (bVar 15) (eC (.int 0)) [.sh (.scr ns), .sh (.ref 0), .sh (lotsD L), .sh (szD (szL L)), .sh (evD dd), .sh (evD ev), .sh (evD se), dcellP L (lP L dd), z8, z9, z10, .sh (natsD (twoM L)), .sh (.int (x : Int)), .sh (.int (y : Int)), .sh (twoD L x y), .sh (twoD L x y), .sh (.lst ((lP L []).map (triD (WL L)))), .sh (frD (nf (BB L x y 1 []) (WL L))), .sh (frD (nf (BB L x y 0 []) (WL L))), .un, .un, .un] S = some (woD L [(x, 1), (y, 1)] [(x, 0)] [(y, 0)], S) := eBin_of (S1 := S) (S2 := S) (d1 := twoD L x y) (d2 := .int 0) rfl rfl (at0 _ _)
    rcases part_s h (x := x) (y := y) (i := 1) (j := 0) S with ⟨e1, e2⟩ | ⟨p, e1, e2⟩
    · rw [e1] at ix
      rw [e2, nf_zero hW]
      exact eIf_f (tBl_of (eBin_of (S1 := S) (S2 := S) (d2 := .non) ix rfl rfl)) (pair_s (S1 := S) (S2 := S) rfl rfl)
    · rw [e1] at ix
      exact eIf_t (tBl_of (eBin_of (S1 := S) (S2 := S) (d2 := .non) ix rfl rfl)) (eCall_of (aCons_of ix (aCons_of (S1 := S) rfl rfl)) e2)
  have p1 : eIf (tBl (eBin D.notN (eBin D.ix (bVar 15) (eC (.int 1))) (eC .non))) (eCall F__law_times (aCons (eBin D.ix (bVar 15) (eC (.int 1))) (aCons (eVar 18) aNil))) (eTup (aCons (eC (.int 0)) (aCons (eC (.int 1)) aNil))) [.sh (.scr ns), .sh (.ref 0), .sh (lotsD L), .sh (szD (szL L)), .sh (evD dd), .sh (evD ev), .sh (evD se), dcellP L (lP L dd), z8, z9, z10, .sh (natsD (twoM L)), .sh (.int (x : Int)), .sh (.int (y : Int)), .sh (twoD L x y), .sh (twoD L x y), .sh (.lst ((lP L []).map (triD (WL L)))), .sh (frD (nf (BB L x y 1 []) (WL L))), .sh (frD (nf (BB L x y 0 []) (WL L))), .un, .un, .un] S = some (frD (nf (AA L x y 0 1) (WL L)), S) := by
    have ix : eBin D.ix (bVar 15) (eC (.int 1)) [.sh (.scr ns), .sh (.ref 0), .sh (lotsD L), .sh (szD (szL L)), .sh (evD dd), .sh (evD ev), .sh (evD se), dcellP L (lP L dd), z8, z9, z10, .sh (natsD (twoM L)), .sh (.int (x : Int)), .sh (.int (y : Int)), .sh (twoD L x y), .sh (twoD L x y), .sh (.lst ((lP L []).map (triD (WL L)))), .sh (frD (nf (BB L x y 1 []) (WL L))), .sh (frD (nf (BB L x y 0 []) (WL L))), .un, .un, .un] S = some (woD L [(x, 0), (y, 0)] [(x, 1)] [(y, 1)], S) := eBin_of (S1 := S) (S2 := S) (d1 := twoD L x y) (d2 := .int 1) rfl rfl (at1 _ _ _)
    rcases part_s h (x := x) (y := y) (i := 0) (j := 1) S with ⟨e1, e2⟩ | ⟨p, e1, e2⟩
    · rw [e1] at ix
      rw [e2, nf_zero hW]
      exact eIf_f (tBl_of (eBin_of (S1 := S) (S2 := S) (d2 := .non) ix rfl rfl)) (pair_s (S1 := S) (S2 := S) rfl rfl)
    · rw [e1] at ix
      exact eIf_t (tBl_of (eBin_of (S1 := S) (S2 := S) (d2 := .non) ix rfl rfl)) (eCall_of (aCons_of ix (aCons_of (S1 := S) rfl rfl)) e2)
  exact sAsg_of (eLst_of (aCons_of p0 (aCons_of p1 rfl)) (by show 2 ≤ PySem.sizeLine; decide)) rfl
def q25 : Stm := (sRet (eBin D.eq (eCall F__law_plus (aCons (eBin D.ix (bVar 19) (eC (.int 0))) (aCons (eBin D.ix (bVar 19) (eC (.int 1))) aNil))) (eBin D.ix (bVar 15) (eC (.int 2)))))
theorem q25_s (h : LotsOk L) {dd ev se : Ev} {z8 z9 z10 : Sl} {x y : Nat} (q : XY L x y) (S : Sto) : q25 [.sh (.scr ns), .sh (.ref 0), .sh (lotsD L), .sh (szD (szL L)), .sh (evD dd), .sh (evD ev), .sh (evD se), dcellP L (lP L dd), z8, z9, z10, .sh (natsD (twoM L)), .sh (.int (x : Int)), .sh (.int (y : Int)), .sh (twoD L x y), .sh (twoD L x y), .sh (.lst ((lP L []).map (triD (WL L)))), .sh (frD (nf (BB L x y 1 []) (WL L))), .sh (frD (nf (BB L x y 0 []) (WL L))), .sh (.lst [frD (nf (AA L x y 1 0) (WL L)), frD (nf (AA L x y 0 1) (WL L))]), .un, .un] S = some (.rt (.bl true) S) := by
  have er : D.eq (frD (nf (boS L x y) (WL L))) (frD (nf (boS L x y) (WL L))) = some (.bl true) := by
    have := eq_row [(nf (boS L x y) (WL L)).1, (nf (boS L x y) (WL L)).2] [(nf (boS L x y) (WL L)).1, (nf (boS L x y) (WL L)).2]
    rw [decide_eq_true rfl] at this
    exact this
  exact sRet_of (eBin_of (S1 := S) (S2 := S) (eCall_of (aCons_of (S1 := S) (eBin_of (S1 := S) (S2 := S) (d1 := .lst [frD (nf (AA L x y 1 0) (WL L)), frD (nf (AA L x y 0 1) (WL L))]) (d2 := .int 0) rfl rfl (at0 _ _)) (aCons_of (S1 := S) (eBin_of (S1 := S) (S2 := S) (d1 := .lst [frD (nf (AA L x y 1 0) (WL L)), frD (nf (AA L x y 0 1) (WL L))]) (d2 := .int 1) rfl rfl (at1 _ _ _)) rfl)) (last_s h q S)) (eBin_of (S1 := S) (S2 := S) (d1 := twoD L x y) (d2 := .int 2) rfl rfl (at2 _ _ _ _)) er)
end
theorem math (ns : List Int) (hns : ns.length ≤ 63) : ∃ S', b_law (rho0 22 [.scr ns]) [] = some (.rt (.bl true) S') := by
  obtain ⟨ns', hst⟩ := start_s ns []
  have g0 : Good 0 (cS (ns'.map D.int) 0 0 0) := ⟨ns', 0, 0, 0, rfl, by decide, by decide, by decide, by decide⟩
  obtain ⟨L, S1, h2, ok, g1⟩ := law_lots_s g0 (by decide)
  have hs : SzOk (szL L) := ok.szOk
  have hl : (szL L).length = L.length := by unfold szL; rw [List.length_map]
  have h0 : 0 < (szL L).length := by have := ok.sz.2.1; omega
  obtain ⟨dd, S2, d1, d2, d3, g2, _⟩ := law_deed_s hs h0 g1 (by decide)
  obtain ⟨ev, S3, e1, e2, e3, g3, _⟩ := law_deed_s hs h0 g2 (by decide)
  obtain ⟨se, S4, f1, f2, f3, g4, _⟩ := law_deed_s hs h0 g3 (by decide)
  have hd : DeedS L dd := d2
  have he : EvS L ev := fun p hp => by rw [← hl]; exact e3 p hp
  have hse : EvS L se := fun p hp => by rw [← hl]; exact f3 p hp
  have st1 : sOwn (eCall F__law_start (aCons (eVar 0) aNil)) 1 (rho0 22 [.scr ns]) [] = some (.nx [.sh (.scr ns), .ow (.lst [.lst (ns'.map D.int), .int 0, .int 0, .int 0, .int 20]), .un, .un, .un, .un, .un, .un, .un, .un, .un, .un, .un, .un, .un, .un, .un, .un, .un, .un, .un, .un] []) := by
    unfold sOwn
    rw [eCall_of (S1 := []) rfl hst]
    rfl
  obtain ⟨z8, z9, z10, st10⟩ := q10_s (ns := ns) ok (ev := ev) (se := se) hd S4
  have main : ∃ S', b_law (rho0 22 [.scr ns]) [] = some (.rt (.bl true) S') := by
    unfold b_law
    by_cases c : ((twoM L).length : Int) < 2
    · refine ⟨S4, ?_⟩
      refine sSeq_of st1 ?_
      refine sPub_of rfl ?_
      refine sSeq_of (q2_s h2) ?_
      refine sSeq_of (q3_s _) ?_
      refine sSeq_of (q4_s ok _) ?_
      refine sSeq_of (q5_s ok _) ?_
      refine sSeq_of (q6_s d1 e1) ?_
      refine sSeq_of (q7_s f1) ?_
      refine sSeq_of (q8_s ok hd _) ?_
      refine sSeq_of (q9_s _) ?_
      refine sSeq_of st10 ?_
      refine sSeq_of (q11_s ok hd _) ?_
      refine sSeq_of (q12_s ok hd he hse _) ?_
      refine sSeq_of (q13_s ok _) ?_
      refine sSeq_rt ?_
      have t := q14_c (L := L) (ns := ns) (dd := dd) (ev := ev) (se := se) (z8 := z8) (z9 := z9) (z10 := z10) S4
      rw [decide_eq_true c] at t
      exact sIf_t t (sRet_of rfl)
    · obtain ⟨x0, S5, t5, hx0, g5⟩ := take_s (((twoM L).length : Int) - 1) g4 (by decide) (by omega) (by
        have : (twoM L).length ≤ (szL L).length := by
          have := List.length_filter_le (fun v => decide ((szL L).getD v 0 = 2)) (List.range (szL L).length)
          rw [List.length_range] at this
          exact this
        have := hs.1
        omega)
      obtain ⟨y0, S6, t6, hy0, g6⟩ := take_s (((twoM L).length : Int) - 1 - (x0 : Int)) g5 (by decide) (by omega) (by
        have : (twoM L).length ≤ (szL L).length := by
          have := List.length_filter_le (fun v => decide ((szL L).getD v 0 = 2)) (List.range (szL L).length)
          rw [List.length_range] at this
          exact this
        have := hs.1
        omega)
      have i1 : x0 < (twoM L).length := by omega
      have i2 : x0 + 1 + y0 < (twoM L).length := by omega
      have mem : ∀ v ∈ twoM L, (szL L).getD v 0 = 2 := fun v hv => of_decide_eq_true (List.mem_filter.mp hv).2
      have q : XY L ((twoM L).getD x0 0) ((twoM L).getD (x0 + 1 + y0) 0) := by
        refine ⟨mem _ ?_, mem _ ?_⟩
        · rw [List.getD_eq_getElem?_getD, List.getElem?_eq_getElem i1]; exact List.getElem_mem i1
        · rw [List.getD_eq_getElem?_getD, List.getElem?_eq_getElem i2]; exact List.getElem_mem i2
      have ix : D.ix (natsD (twoM L)) (.int (x0 : Int)) = some (.int (((twoM L).getD x0 0 : Nat) : Int)) := szD_at i1
      have iy : D.ix (natsD (twoM L)) (.int ((x0 : Int) + 1 + (y0 : Int))) = some (.int (((twoM L).getD (x0 + 1 + y0) 0 : Nat) : Int)) := by
        have := szD_at (s := twoM L) i2
        rw [show ((x0 : Int) + 1 + (y0 : Int)) = ((x0 + 1 + y0 : Nat) : Int) by omega]
        exact this
      refine ⟨S6, ?_⟩
      refine sSeq_of st1 ?_
      refine sPub_of rfl ?_
      refine sSeq_of (q2_s h2) ?_
      refine sSeq_of (q3_s _) ?_
      refine sSeq_of (q4_s ok _) ?_
      refine sSeq_of (q5_s ok _) ?_
      refine sSeq_of (q6_s d1 e1) ?_
      refine sSeq_of (q7_s f1) ?_
      refine sSeq_of (q8_s ok hd _) ?_
      refine sSeq_of (q9_s _) ?_
      refine sSeq_of st10 ?_
      refine sSeq_of (q11_s ok hd _) ?_
      refine sSeq_of (q12_s ok hd he hse _) ?_
      refine sSeq_of (q13_s ok _) ?_
      have t := q14_c (L := L) (ns := ns) (dd := dd) (ev := ev) (se := se) (z8 := z8) (z9 := z9) (z10 := z10) S4
      rw [decide_eq_false c] at t
      refine sSeq_of (cond_f t) ?_
      refine sSeq_of (q15_s t5) ?_
      refine sSeq_of (q16_s t6) ?_
      refine sSeq_of (q17_s _ ix iy) ?_
      refine sSeq_of (q18_s ok q _) ?_
      refine sSeq_of (q19_s ok q _) ?_
      refine sSeq_of (q20_s ok q _) ?_
      refine sSeq_of (q21_s ok q _) ?_
      refine sSeq_of (q22_s ok q _) ?_
      refine sSeq_of (q23_s ok q _) ?_
      refine sSeq_of (q24_s ok q _) ?_
      exact q25_s ok q _
  exact main
end W17

set_option Elab.async false
set_option linter.all false
set_option maxRecDepth 100000
set_option maxHeartbeats 4000000
namespace W17
open PySem PySem.Spec PyProof.Rows L2 DL
theorem all_mk {l : PySem.W.OpenLaw} {w : World} {K : PySem.W.Frag} {h : Heap} {mg : Str → Option Value} {fa f1 f2 f3 f4 f5 f6 f7 f8 f9 f10 f11 f12 f13 f14 f15 f16 f17 f18 f19 f20 f21 f22 f23 f24 f25 f26 f27 f28 f29 f30 f31 f32 f33 f34 f35 f36 f37 f38 f39 f40 f41 f42 f43 f44 f45 : Addr} (X : K.In h) (G : h.Ns mainGlobals mg) (hfa : mg "law" = some (.ref fa))
    {od1 od2 od3 od4 od5 od6 od7 od8 od9 od10 od11 od12 od13 od14 od15 od16 od17 od18 od19 od20 od21 od22 od23 od24 od25 od26 od27 od28 od29 od30 od31 od32 od33 od34 od35 od36 od37 od38 od39 od40 od41 od42 od43 od44 od45 an1 an2 an3 an4 an5 an6 an7 an8 an9 an10 an11 an12 an13 an14 an15 an16 an17 an18 an19 an20 an21 an22 an23 an24 an25 an26 an27 an28 an29 an30 an31 an32 an33 an34 an35 an36 an37 an38 an39 an40 an41 an42 an43 an44 an45 : Option Addr} {sl1 sl2 sl3 sl4 sl5 sl6 sl7 sl8 sl9 sl10 sl11 sl12 sl13 sl14 sl15 sl16 sl17 sl18 sl19 sl20 sl21 sl22 sl23 sl24 sl25 sl26 sl27 sl28 sl29 sl30 sl31 sl32 sl33 sl34 sl35 sl36 sl37 sl38 sl39 sl40 sl41 sl42 sl43 sl44 sl45 : Array (Option Value)} {oc1 oc2 oc3 oc4 oc5 oc6 oc7 oc8 oc9 oc10 oc11 oc12 oc13 oc14 oc15 oc16 oc17 oc18 oc19 oc20 oc21 oc22 oc23 oc24 oc25 oc26 oc27 oc28 oc29 oc30 oc31 oc32 oc33 oc34 oc35 oc36 oc37 oc38 oc39 oc40 oc41 oc42 oc43 oc44 oc45 kV1 kV2 kV3 kV4 kV5 kV6 kV7 kV8 kV9 kV10 kV11 kV12 kV13 kV14 kV15 kV16 kV17 kV18 kV19 kV20 kV21 kV22 kV23 kV24 kV25 kV26 kV27 kV28 kV29 kV30 kV31 kV32 kV33 kV34 kV35 kV36 kV37 kV38 kV39 kV40 kV41 kV42 kV43 kV44 kV45 dc1 dc2 dc3 dc4 dc5 dc6 dc7 dc8 dc9 dc10 dc11 dc12 dc13 dc14 dc15 dc16 dc17 dc18 dc19 dc20 dc21 dc22 dc23 dc24 dc25 dc26 dc27 dc28 dc29 dc30 dc31 dc32 dc33 dc34 dc35 dc36 dc37 dc38 dc39 dc40 dc41 dc42 dc43 dc44 dc45 pm1 pm2 pm3 pm4 pm5 pm6 pm7 pm8 pm9 pm10 pm11 pm12 pm13 pm14 pm15 pm16 pm17 pm18 pm19 pm20 pm21 pm22 pm23 pm24 pm25 pm26 pm27 pm28 pm29 pm30 pm31 pm32 pm33 pm34 pm35 pm36 pm37 pm38 pm39 pm40 pm41 pm42 pm43 pm44 pm45 cd1 cd2 cd3 cd4 cd5 cd6 cd7 cd8 cd9 cd10 cd11 cd12 cd13 cd14 cd15 cd16 cd17 cd18 cd19 cd20 cd21 cd22 cd23 cd24 cd25 cd26 cd27 cd28 cd29 cd30 cd31 cd32 cd33 cd34 cd35 cd36 cd37 cd38 cd39 cd40 cd41 cd42 cd43 cd44 cd45 ct1 ct2 ct3 ct4 ct5 ct6 ct7 ct8 ct9 ct10 ct11 ct12 ct13 ct14 ct15 ct16 ct17 ct18 ct19 ct20 ct21 ct22 ct23 ct24 ct25 ct26 ct27 ct28 ct29 ct30 ct31 ct32 ct33 ct34 ct35 ct36 ct37 ct38 ct39 ct40 ct41 ct42 ct43 ct44 ct45 : Value}
    (a1 : PySem.W.nsIn K mainGlobals "is_integer" = some (some (.ref f1))) (l1 : K.lookup f1 = some ⟨oc1, od1, .func (PySem.W.fnOf "is_integer" "is_integer" (defArgs s_is_integer) (defBody s_is_integer) (defScope s_is_integer) .none kV1 dc1 pm1 an1 cd1 ct1), sl1⟩) (c1 : PySem.W.codeIn K cd1 "is_integer" = true) (k1 : PySem.W.keepIn K (.ref f1) = true)
    (a2 : PySem.W.nsIn K mainGlobals "fraction" = some (some (.ref f2))) (l2 : K.lookup f2 = some ⟨oc2, od2, .func (PySem.W.fnOf "fraction" "fraction" (defArgs s_fraction) (defBody s_fraction) (defScope s_fraction) .none kV2 dc2 pm2 an2 cd2 ct2), sl2⟩) (c2 : PySem.W.codeIn K cd2 "fraction" = true) (k2 : PySem.W.keepIn K (.ref f2) = true)
    (a3 : PySem.W.nsIn K mainGlobals "rows_of" = some (some (.ref f3))) (l3 : K.lookup f3 = some ⟨oc3, od3, .func (PySem.W.fnOf "rows_of" "rows_of" (defArgs s_rows_of) (defBody s_rows_of) (defScope s_rows_of) .none kV3 dc3 pm3 an3 cd3 ct3), sl3⟩) (c3 : PySem.W.codeIn K cd3 "rows_of" = true) (k3 : PySem.W.keepIn K (.ref f3) = true)
    (a4 : PySem.W.nsIn K mainGlobals "fits" = some (some (.ref f4))) (l4 : K.lookup f4 = some ⟨oc4, od4, .func (PySem.W.fnOf "fits" "fits" (defArgs s_fits) (defBody s_fits) (defScope s_fits) .none kV4 dc4 pm4 an4 cd4 ct4), sl4⟩) (c4 : PySem.W.codeIn K cd4 "fits" = true) (k4 : PySem.W.keepIn K (.ref f4) = true)
    (a5 : PySem.W.nsIn K mainGlobals "place_of" = some (some (.ref f5))) (l5 : K.lookup f5 = some ⟨oc5, od5, .func (PySem.W.fnOf "place_of" "place_of" (defArgs s_place_of) (defBody s_place_of) (defScope s_place_of) .none kV5 dc5 pm5 an5 cd5 ct5), sl5⟩) (c5 : PySem.W.codeIn K cd5 "place_of" = true) (k5 : PySem.W.keepIn K (.ref f5) = true)
    (a6 : PySem.W.nsIn K mainGlobals "_law_start" = some (some (.ref f6))) (l6 : K.lookup f6 = some ⟨oc6, od6, .func (PySem.W.fnOf "_law_start" "_law_start" (defArgs s__law_start) (defBody s__law_start) (defScope s__law_start) .none kV6 dc6 pm6 an6 cd6 ct6), sl6⟩) (c6 : PySem.W.codeIn K cd6 "_law_start" = true) (k6 : PySem.W.keepIn K (.ref f6) = true)
    (a7 : PySem.W.nsIn K mainGlobals "_law_fill" = some (some (.ref f7))) (l7 : K.lookup f7 = some ⟨oc7, od7, .func (PySem.W.fnOf "_law_fill" "_law_fill" (defArgs s__law_fill) (defBody s__law_fill) (defScope s__law_fill) .none kV7 dc7 pm7 an7 cd7 ct7), sl7⟩) (c7 : PySem.W.codeIn K cd7 "_law_fill" = true) (k7 : PySem.W.keepIn K (.ref f7) = true)
    (a8 : PySem.W.nsIn K mainGlobals "_law_alike" = some (some (.ref f8))) (l8 : K.lookup f8 = some ⟨oc8, od8, .func (PySem.W.fnOf "_law_alike" "_law_alike" (defArgs s__law_alike) (defBody s__law_alike) (defScope s__law_alike) .none kV8 dc8 pm8 an8 cd8 ct8), sl8⟩) (c8 : PySem.W.codeIn K cd8 "_law_alike" = true) (k8 : PySem.W.keepIn K (.ref f8) = true)
    (a9 : PySem.W.nsIn K mainGlobals "_law_divisor" = some (some (.ref f9))) (l9 : K.lookup f9 = some ⟨oc9, od9, .func (PySem.W.fnOf "_law_divisor" "_law_divisor" (defArgs s__law_divisor) (defBody s__law_divisor) (defScope s__law_divisor) .none kV9 dc9 pm9 an9 cd9 ct9), sl9⟩) (c9 : PySem.W.codeIn K cd9 "_law_divisor" = true) (k9 : PySem.W.keepIn K (.ref f9) = true)
    (a10 : PySem.W.nsIn K mainGlobals "_law_values" = some (some (.ref f10))) (l10 : K.lookup f10 = some ⟨oc10, od10, .func (PySem.W.fnOf "_law_values" "_law_values" (defArgs s__law_values) (defBody s__law_values) (defScope s__law_values) .none kV10 dc10 pm10 an10 cd10 ct10), sl10⟩) (c10 : PySem.W.codeIn K cd10 "_law_values" = true) (k10 : PySem.W.keepIn K (.ref f10) = true)
    (a11 : PySem.W.nsIn K mainGlobals "_law_place" = some (some (.ref f11))) (l11 : K.lookup f11 = some ⟨oc11, od11, .func (PySem.W.fnOf "_law_place" "_law_place" (defArgs s__law_place) (defBody s__law_place) (defScope s__law_place) .none kV11 dc11 pm11 an11 cd11 ct11), sl11⟩) (c11 : PySem.W.codeIn K cd11 "_law_place" = true) (k11 : PySem.W.keepIn K (.ref f11) = true)
    (a12 : PySem.W.nsIn K mainGlobals "_law_has" = some (some (.ref f12))) (l12 : K.lookup f12 = some ⟨oc12, od12, .func (PySem.W.fnOf "_law_has" "_law_has" (defArgs s__law_has) (defBody s__law_has) (defScope s__law_has) .none kV12 dc12 pm12 an12 cd12 ct12), sl12⟩) (c12 : PySem.W.codeIn K cd12 "_law_has" = true) (k12 : PySem.W.keepIn K (.ref f12) = true)
    (a13 : PySem.W.nsIn K mainGlobals "plus" = some (some (.ref f13))) (l13 : K.lookup f13 = some ⟨oc13, od13, .func (PySem.W.fnOf "plus" "plus" (defArgs s_plus) (defBody s_plus) (defScope s_plus) .none kV13 dc13 pm13 an13 cd13 ct13), sl13⟩) (c13 : PySem.W.codeIn K cd13 "plus" = true) (k13 : PySem.W.keepIn K (.ref f13) = true)
    (a14 : PySem.W.nsIn K mainGlobals "times" = some (some (.ref f14))) (l14 : K.lookup f14 = some ⟨oc14, od14, .func (PySem.W.fnOf "times" "times" (defArgs s_times) (defBody s_times) (defScope s_times) .none kV14 dc14 pm14 an14 cd14 ct14), sl14⟩) (c14 : PySem.W.codeIn K cd14 "times" = true) (k14 : PySem.W.keepIn K (.ref f14) = true)
    (a15 : PySem.W.nsIn K mainGlobals "over" = some (some (.ref f15))) (l15 : K.lookup f15 = some ⟨oc15, od15, .func (PySem.W.fnOf "over" "over" (defArgs s_over) (defBody s_over) (defScope s_over) .none kV15 dc15 pm15 an15 cd15 ct15), sl15⟩) (c15 : PySem.W.codeIn K cd15 "over" = true) (k15 : PySem.W.keepIn K (.ref f15) = true)
    (a16 : PySem.W.nsIn K mainGlobals "is_fraction" = some (some (.ref f16))) (l16 : K.lookup f16 = some ⟨oc16, od16, .func (PySem.W.fnOf "is_fraction" "is_fraction" (defArgs s_is_fraction) (defBody s_is_fraction) (defScope s_is_fraction) .none kV16 dc16 pm16 an16 cd16 ct16), sl16⟩) (c16 : PySem.W.codeIn K cd16 "is_fraction" = true) (k16 : PySem.W.keepIn K (.ref f16) = true)
    (a17 : PySem.W.nsIn K mainGlobals "are_sizes" = some (some (.ref f17))) (l17 : K.lookup f17 = some ⟨oc17, od17, .func (PySem.W.fnOf "are_sizes" "are_sizes" (defArgs s_are_sizes) (defBody s_are_sizes) (defScope s_are_sizes) .none kV17 dc17 pm17 an17 cd17 ct17), sl17⟩) (c17 : PySem.W.codeIn K cd17 "are_sizes" = true) (k17 : PySem.W.keepIn K (.ref f17) = true)
    (a18 : PySem.W.nsIn K mainGlobals "is_rule" = some (some (.ref f18))) (l18 : K.lookup f18 = some ⟨oc18, od18, .func (PySem.W.fnOf "is_rule" "is_rule" (defArgs s_is_rule) (defBody s_is_rule) (defScope s_is_rule) .none kV18 dc18 pm18 an18 cd18 ct18), sl18⟩) (c18 : PySem.W.codeIn K cd18 "is_rule" = true) (k18 : PySem.W.keepIn K (.ref f18) = true)
    (a19 : PySem.W.nsIn K mainGlobals "values" = some (some (.ref f19))) (l19 : K.lookup f19 = some ⟨oc19, od19, .func (PySem.W.fnOf "values" "values" (defArgs s_values) (defBody s_values) (defScope s_values) .none kV19 dc19 pm19 an19 cd19 ct19), sl19⟩) (c19 : PySem.W.codeIn K cd19 "values" = true) (k19 : PySem.W.keepIn K (.ref f19) = true)
    (a20 : PySem.W.nsIn K mainGlobals "_law_take" = some (some (.ref f20))) (l20 : K.lookup f20 = some ⟨oc20, od20, .func (PySem.W.fnOf "_law_take" "_law_take" (defArgs s__law_take) (defBody s__law_take) (defScope s__law_take) .none kV20 dc20 pm20 an20 cd20 ct20), sl20⟩) (c20 : PySem.W.codeIn K cd20 "_law_take" = true) (k20 : PySem.W.keepIn K (.ref f20) = true)
    (a21 : PySem.W.nsIn K mainGlobals "_law_fraction" = some (some (.ref f21))) (l21 : K.lookup f21 = some ⟨oc21, od21, .func (PySem.W.fnOf "_law_fraction" "_law_fraction" (defArgs s__law_fraction) (defBody s__law_fraction) (defScope s__law_fraction) .none kV21 dc21 pm21 an21 cd21 ct21), sl21⟩) (c21 : PySem.W.codeIn K cd21 "_law_fraction" = true) (k21 : PySem.W.keepIn K (.ref f21) = true)
    (a22 : PySem.W.nsIn K mainGlobals "_law_run" = some (some (.ref f22))) (l22 : K.lookup f22 = some ⟨oc22, od22, .func (PySem.W.fnOf "_law_run" "_law_run" (defArgs s__law_run) (defBody s__law_run) (defScope s__law_run) .none kV22 dc22 pm22 an22 cd22 ct22), sl22⟩) (c22 : PySem.W.codeIn K cd22 "_law_run" = true) (k22 : PySem.W.keepIn K (.ref f22) = true)
    (a23 : PySem.W.nsIn K mainGlobals "total" = some (some (.ref f23))) (l23 : K.lookup f23 = some ⟨oc23, od23, .func (PySem.W.fnOf "total" "total" (defArgs s_total) (defBody s_total) (defScope s_total) .none kV23 dc23 pm23 an23 cd23 ct23), sl23⟩) (c23 : PySem.W.codeIn K cd23 "total" = true) (k23 : PySem.W.keepIn K (.ref f23) = true)
    (a24 : PySem.W.nsIn K mainGlobals "drawn" = some (some (.ref f24))) (l24 : K.lookup f24 = some ⟨oc24, od24, .func (PySem.W.fnOf "drawn" "drawn" (defArgs s_drawn) (defBody s_drawn) (defScope s_drawn) .none kV24 dc24 pm24 an24 cd24 ct24), sl24⟩) (c24 : PySem.W.codeIn K cd24 "drawn" = true) (k24 : PySem.W.keepIn K (.ref f24) = true)
    (a25 : PySem.W.nsIn K mainGlobals "_law_plus" = some (some (.ref f25))) (l25 : K.lookup f25 = some ⟨oc25, od25, .func (PySem.W.fnOf "_law_plus" "_law_plus" (defArgs s__law_plus) (defBody s__law_plus) (defScope s__law_plus) .none kV25 dc25 pm25 an25 cd25 ct25), sl25⟩) (c25 : PySem.W.codeIn K cd25 "_law_plus" = true) (k25 : PySem.W.keepIn K (.ref f25) = true)
    (a26 : PySem.W.nsIn K mainGlobals "_law_times" = some (some (.ref f26))) (l26 : K.lookup f26 = some ⟨oc26, od26, .func (PySem.W.fnOf "_law_times" "_law_times" (defArgs s__law_times) (defBody s__law_times) (defScope s__law_times) .none kV26 dc26 pm26 an26 cd26 ct26), sl26⟩) (c26 : PySem.W.codeIn K cd26 "_law_times" = true) (k26 : PySem.W.keepIn K (.ref f26) = true)
    (a27 : PySem.W.nsIn K mainGlobals "_law_rule" = some (some (.ref f27))) (l27 : K.lookup f27 = some ⟨oc27, od27, .func (PySem.W.fnOf "_law_rule" "_law_rule" (defArgs s__law_rule) (defBody s__law_rule) (defScope s__law_rule) .none kV27 dc27 pm27 an27 cd27 ct27), sl27⟩) (c27 : PySem.W.codeIn K cd27 "_law_rule" = true) (k27 : PySem.W.keepIn K (.ref f27) = true)
    (a28 : PySem.W.nsIn K mainGlobals "_law_deed" = some (some (.ref f28))) (l28 : K.lookup f28 = some ⟨oc28, od28, .func (PySem.W.fnOf "_law_deed" "_law_deed" (defArgs s__law_deed) (defBody s__law_deed) (defScope s__law_deed) .none kV28 dc28 pm28 an28 cd28 ct28), sl28⟩) (c28 : PySem.W.codeIn K cd28 "_law_deed" = true) (k28 : PySem.W.keepIn K (.ref f28) = true)
    (a29 : PySem.W.nsIn K mainGlobals "are_chances" = some (some (.ref f29))) (l29 : K.lookup f29 = some ⟨oc29, od29, .func (PySem.W.fnOf "are_chances" "are_chances" (defArgs s_are_chances) (defBody s_are_chances) (defScope s_are_chances) .none kV29 dc29 pm29 an29 cd29 ct29), sl29⟩) (c29 : PySem.W.codeIn K cd29 "are_chances" = true) (k29 : PySem.W.keepIn K (.ref f29) = true)
    (a30 : PySem.W.nsIn K mainGlobals "done_world" = some (some (.ref f30))) (l30 : K.lookup f30 = some ⟨oc30, od30, .func (PySem.W.fnOf "done_world" "done_world" (defArgs s_done_world) (defBody s_done_world) (defScope s_done_world) .none kV30 dc30 pm30 an30 cd30 ct30), sl30⟩) (c30 : PySem.W.codeIn K cd30 "done_world" = true) (k30 : PySem.W.keepIn K (.ref f30) = true)
    (a31 : PySem.W.nsIn K mainGlobals "twins" = some (some (.ref f31))) (l31 : K.lookup f31 = some ⟨oc31, od31, .func (PySem.W.fnOf "twins" "twins" (defArgs s_twins) (defBody s_twins) (defScope s_twins) .none kV31 dc31 pm31 an31 cd31 ct31), sl31⟩) (c31 : PySem.W.codeIn K cd31 "twins" = true) (k31 : PySem.W.keepIn K (.ref f31) = true)
    (a32 : PySem.W.nsIn K mainGlobals "both" = some (some (.ref f32))) (l32 : K.lookup f32 = some ⟨oc32, od32, .func (PySem.W.fnOf "both" "both" (defArgs s_both) (defBody s_both) (defScope s_both) .none kV32 dc32 pm32 an32 cd32 ct32), sl32⟩) (c32 : PySem.W.codeIn K cd32 "both" = true) (k32 : PySem.W.keepIn K (.ref f32) = true)
    (a33 : PySem.W.nsIn K mainGlobals "_law_total" = some (some (.ref f33))) (l33 : K.lookup f33 = some ⟨oc33, od33, .func (PySem.W.fnOf "_law_total" "_law_total" (defArgs s__law_total) (defBody s__law_total) (defScope s__law_total) .none kV33 dc33 pm33 an33 cd33 ct33), sl33⟩) (c33 : PySem.W.codeIn K cd33 "_law_total" = true) (k33 : PySem.W.keepIn K (.ref f33) = true)
    (a34 : PySem.W.nsIn K mainGlobals "_law_lots" = some (some (.ref f34))) (l34 : K.lookup f34 = some ⟨oc34, od34, .func (PySem.W.fnOf "_law_lots" "_law_lots" (defArgs s__law_lots) (defBody s__law_lots) (defScope s__law_lots) .none kV34 dc34 pm34 an34 cd34 ct34), sl34⟩) (c34 : PySem.W.codeIn K cd34 "_law_lots" = true) (k34 : PySem.W.keepIn K (.ref f34) = true)
    (a35 : PySem.W.nsIn K mainGlobals "_law_drawn" = some (some (.ref f35))) (l35 : K.lookup f35 = some ⟨oc35, od35, .func (PySem.W.fnOf "_law_drawn" "_law_drawn" (defArgs s__law_drawn) (defBody s__law_drawn) (defScope s__law_drawn) .none kV35 dc35 pm35 an35 cd35 ct35), sl35⟩) (c35 : PySem.W.codeIn K cd35 "_law_drawn" = true) (k35 : PySem.W.keepIn K (.ref f35) = true)
    (a36 : PySem.W.nsIn K mainGlobals "are_lots" = some (some (.ref f36))) (l36 : K.lookup f36 = some ⟨oc36, od36, .func (PySem.W.fnOf "are_lots" "are_lots" (defArgs s_are_lots) (defBody s_are_lots) (defScope s_are_lots) .none kV36 dc36 pm36 an36 cd36 ct36), sl36⟩) (c36 : PySem.W.codeIn K cd36 "are_lots" = true) (k36 : PySem.W.keepIn K (.ref f36) = true)
    (a37 : PySem.W.nsIn K mainGlobals "seen_world" = some (some (.ref f37))) (l37 : K.lookup f37 = some ⟨oc37, od37, .func (PySem.W.fnOf "seen_world" "seen_world" (defArgs s_seen_world) (defBody s_seen_world) (defScope s_seen_world) .none kV37 dc37 pm37 an37 cd37 ct37), sl37⟩) (c37 : PySem.W.codeIn K cd37 "seen_world" = true) (k37 : PySem.W.keepIn K (.ref f37) = true)
    (a38 : PySem.W.nsIn K mainGlobals "would" = some (some (.ref f38))) (l38 : K.lookup f38 = some ⟨oc38, od38, .func (PySem.W.fnOf "would" "would" (defArgs s_would) (defBody s_would) (defScope s_would) .none kV38 dc38 pm38 an38 cd38 ct38), sl38⟩) (c38 : PySem.W.codeIn K cd38 "would" = true) (k38 : PySem.W.keepIn K (.ref f38) = true)
    (a39 : PySem.W.nsIn K mainGlobals "_law_world" = some (some (.ref f39))) (l39 : K.lookup f39 = some ⟨oc39, od39, .func (PySem.W.fnOf "_law_world" "_law_world" (defArgs s__law_world) (defBody s__law_world) (defScope s__law_world) .none kV39 dc39 pm39 an39 cd39 ct39), sl39⟩) (c39 : PySem.W.codeIn K cd39 "_law_world" = true) (k39 : PySem.W.keepIn K (.ref f39) = true)
    (a40 : PySem.W.nsIn K mainGlobals "_law_pairs" = some (some (.ref f40))) (l40 : K.lookup f40 = some ⟨oc40, od40, .func (PySem.W.fnOf "_law_pairs" "_law_pairs" (defArgs s__law_pairs) (defBody s__law_pairs) (defScope s__law_pairs) .none kV40 dc40 pm40 an40 cd40 ct40), sl40⟩) (c40 : PySem.W.codeIn K cd40 "_law_pairs" = true) (k40 : PySem.W.keepIn K (.ref f40) = true)
    (a41 : PySem.W.nsIn K mainGlobals "necessity" = some (some (.ref f41))) (l41 : K.lookup f41 = some ⟨oc41, od41, .func (PySem.W.fnOf "necessity" "necessity" (defArgs s_necessity) (defBody s_necessity) (defScope s_necessity) .none kV41 dc41 pm41 an41 cd41 ct41), sl41⟩) (c41 : PySem.W.codeIn K cd41 "necessity" = true) (k41 : PySem.W.keepIn K (.ref f41) = true)
    (a42 : PySem.W.nsIn K mainGlobals "sufficiency" = some (some (.ref f42))) (l42 : K.lookup f42 = some ⟨oc42, od42, .func (PySem.W.fnOf "sufficiency" "sufficiency" (defArgs s_sufficiency) (defBody s_sufficiency) (defScope s_sufficiency) .none kV42 dc42 pm42 an42 cd42 ct42), sl42⟩) (c42 : PySem.W.codeIn K cd42 "sufficiency" = true) (k42 : PySem.W.keepIn K (.ref f42) = true)
    (a43 : PySem.W.nsIn K mainGlobals "_law_would" = some (some (.ref f43))) (l43 : K.lookup f43 = some ⟨oc43, od43, .func (PySem.W.fnOf "_law_would" "_law_would" (defArgs s__law_would) (defBody s__law_would) (defScope s__law_would) .none kV43 dc43 pm43 an43 cd43 ct43), sl43⟩) (c43 : PySem.W.codeIn K cd43 "_law_would" = true) (k43 : PySem.W.keepIn K (.ref f43) = true)
    (a44 : PySem.W.nsIn K mainGlobals "_law_two" = some (some (.ref f44))) (l44 : K.lookup f44 = some ⟨oc44, od44, .func (PySem.W.fnOf "_law_two" "_law_two" (defArgs s__law_two) (defBody s__law_two) (defScope s__law_two) .none kV44 dc44 pm44 an44 cd44 ct44), sl44⟩) (c44 : PySem.W.codeIn K cd44 "_law_two" = true) (k44 : PySem.W.keepIn K (.ref f44) = true)
    (a45 : PySem.W.nsIn K mainGlobals "law" = some (some (.ref f45))) (l45 : K.lookup f45 = some ⟨oc45, od45, .func (PySem.W.fnOf "law" "law" (defArgs s_law) (defBody s_law) (defScope s_law) .none kV45 dc45 pm45 an45 cd45 ct45), sl45⟩) (c45 : PySem.W.codeIn K cd45 "law" = true) (k45 : PySem.W.keepIn K (.ref f45) = true)
    (z_abs : PySem.W.nsIn K mainGlobals "abs" = some none)
    (z_all : PySem.W.nsIn K mainGlobals "all" = some none)
    (z_bool : PySem.W.nsIn K mainGlobals "bool" = some none)
    (z_dict : PySem.W.nsIn K mainGlobals "dict" = some none)
    (z_enumerate : PySem.W.nsIn K mainGlobals "enumerate" = some none)
    (z_int : PySem.W.nsIn K mainGlobals "int" = some none)
    (z_isinstance : PySem.W.nsIn K mainGlobals "isinstance" = some none)
    (z_len : PySem.W.nsIn K mainGlobals "len" = some none)
    (z_list : PySem.W.nsIn K mainGlobals "list" = some none)
    (z_max : PySem.W.nsIn K mainGlobals "max" = some none)
    (z_min : PySem.W.nsIn K mainGlobals "min" = some none)
    (z_range : PySem.W.nsIn K mainGlobals "range" = some none)
    (z_repr : PySem.W.nsIn K mainGlobals "repr" = some none)
    (z_sorted : PySem.W.nsIn K mainGlobals "sorted" = some none)
    (z_sum : PySem.W.nsIn K mainGlobals "sum" = some none)
    (z_tuple : PySem.W.nsIn K mainGlobals "tuple" = some none)
    (z_zip : PySem.W.nsIn K mainGlobals "zip" = some none)
    (g_gcd : PySem.W.nsIn K mainGlobals "gcd" = some (some (.builtin "math.gcd")))
    {kt_MOST_ROWS kt_MOST_SIZE kt_MOST_VARIABLES kt_ONE ku_ONE kt_ZERO ku_ZERO : Tok}
    {kf_ONE kf_ZERO : Addr} {kn_ONE kn_ZERO : Nat} {ks_ONE ks_ZERO : Array (Option Value)}
    (c_MOST_ROWS : PySem.W.nsIn K mainGlobals "MOST_ROWS" = some (some (.int 128 kt_MOST_ROWS)))
    (c_MOST_SIZE : PySem.W.nsIn K mainGlobals "MOST_SIZE" = some (some (.int 3 kt_MOST_SIZE)))
    (c_MOST_VARIABLES : PySem.W.nsIn K mainGlobals "MOST_VARIABLES" = some (some (.int 7 kt_MOST_VARIABLES)))
    (c_ONE : PySem.W.nsIn K mainGlobals "ONE" = some (some (.ref kf_ONE))) (cl_ONE : K.lookup kf_ONE = some { cls := .type "tuple", dict := none, data := .seq #[.int 1 kt_ONE, .int 1 ku_ONE] kn_ONE, slots := ks_ONE })
    (c_ZERO : PySem.W.nsIn K mainGlobals "ZERO" = some (some (.ref kf_ZERO))) (cl_ZERO : K.lookup kf_ZERO = some { cls := .type "tuple", dict := none, data := .seq #[.int 0 kt_ZERO, .int 1 ku_ZERO] kn_ZERO, slots := ks_ZERO })
    : ∃ fd : FuncData, (∀ (s : Shared) (v : Value), BindsTo s fd ⟨[v], []⟩ [("script", v)]) ∧ ∀ base : Heap, K.In base → base.Ns mainGlobals mg → FnG l.prog w K mg base 8 fa fd ["script"] (DL.spLaw K) := by
  have e := hfa.symm.trans (PySem.W.mg_of X G a45)
  cases e
  have D1 := defAt_mk (st := s_is_integer) (ps := ["value"]) X G a1 l1 c1 k1 fun _ _ _ _ _ _ us hl => match us, hl with | [_], _ => rfl
  have D2 := defAt_mk (st := s_fraction) (ps := ["above", "below"]) X G a2 l2 c2 k2 fun _ _ _ _ _ _ us hl => match us, hl with | [_, _], _ => rfl
  have D3 := defAt_mk (st := s_rows_of) (ps := ["sizes"]) X G a3 l3 c3 k3 fun _ _ _ _ _ _ us hl => match us, hl with | [_], _ => rfl
  have D4 := defAt_mk (st := s_fits) (ps := ["row", "event"]) X G a4 l4 c4 k4 fun _ _ _ _ _ _ us hl => match us, hl with | [_, _], _ => rfl
  have D5 := defAt_mk (st := s_place_of) (ps := ["sizes", "row"]) X G a5 l5 c5 k5 fun _ _ _ _ _ _ us hl => match us, hl with | [_, _], _ => rfl
  have D6 := defAt_mk (st := s__law_start) (ps := ["script"]) X G a6 l6 c6 k6 fun _ _ _ _ _ _ us hl => match us, hl with | [_], _ => rfl
  have D7 := defAt_mk (st := s__law_fill) (ps := ["c"]) X G a7 l7 c7 k7 fun _ _ _ _ _ _ us hl => match us, hl with | [_], _ => rfl
  have D8 := defAt_mk (st := s__law_alike) (ps := ["value", "due"]) X G a8 l8 c8 k8 fun _ _ _ _ _ _ us hl => match us, hl with | [_, _], _ => rfl
  have D9 := defAt_mk (st := s__law_divisor) (ps := ["a", "b"]) X G a9 l9 c9 k9 fun _ _ _ _ _ _ us hl => match us, hl with | [_, _], _ => rfl
  have D10 := defAt_mk (st := s__law_values) (ps := ["sizes"]) X G a10 l10 c10 k10 fun _ _ _ _ _ _ us hl => match us, hl with | [_], _ => rfl
  have D11 := defAt_mk (st := s__law_place) (ps := ["sizes", "row"]) X G a11 l11 c11 k11 fun _ _ _ _ _ _ us hl => match us, hl with | [_, _], _ => rfl
  have D12 := defAt_mk (st := s__law_has) (ps := ["row", "event"]) X G a12 l12 c12 k12 fun _ _ _ _ _ _ us hl => match us, hl with | [_, _], _ => rfl
  have D13 := defAt_mk (st := s_plus) (ps := ["a", "b"]) X G a13 l13 c13 k13 fun _ _ _ _ _ _ us hl => match us, hl with | [_, _], _ => rfl
  have D14 := defAt_mk (st := s_times) (ps := ["a", "b"]) X G a14 l14 c14 k14 fun _ _ _ _ _ _ us hl => match us, hl with | [_, _], _ => rfl
  have D15 := defAt_mk (st := s_over) (ps := ["a", "b"]) X G a15 l15 c15 k15 fun _ _ _ _ _ _ us hl => match us, hl with | [_, _], _ => rfl
  have D16 := defAt_mk (st := s_is_fraction) (ps := ["value"]) X G a16 l16 c16 k16 fun _ _ _ _ _ _ us hl => match us, hl with | [_], _ => rfl
  have D17 := defAt_mk (st := s_are_sizes) (ps := ["value"]) X G a17 l17 c17 k17 fun _ _ _ _ _ _ us hl => match us, hl with | [_], _ => rfl
  have D18 := defAt_mk (st := s_is_rule) (ps := ["sizes", "v", "value"]) X G a18 l18 c18 k18 fun _ _ _ _ _ _ us hl => match us, hl with | [_, _, _], _ => rfl
  have D19 := defAt_mk (st := s_values) (ps := ["functions", "deed"]) X G a19 l19 c19 k19 fun _ _ _ _ _ _ us hl => match us, hl with | [_, _], _ => rfl
  have D20 := defAt_mk (st := s__law_take) (ps := ["c", "many"]) X G a20 l20 c20 k20 fun _ _ _ _ _ _ us hl => match us, hl with | [_, _], _ => rfl
  have D21 := defAt_mk (st := s__law_fraction) (ps := ["n", "d"]) X G a21 l21 c21 k21 fun _ _ _ _ _ _ us hl => match us, hl with | [_, _], _ => rfl
  have D22 := defAt_mk (st := s__law_run) (ps := ["functions", "deed"]) X G a22 l22 c22 k22 fun _ _ _ _ _ _ us hl => match us, hl with | [_, _], _ => rfl
  have D23 := defAt_mk (st := s_total) (ps := ["fractions"]) X G a23 l23 c23 k23 fun _ _ _ _ _ _ us hl => match us, hl with | [_], _ => rfl
  have D24 := defAt_mk (st := s_drawn) (ps := ["lots"]) X G a24 l24 c24 k24 fun _ _ _ _ _ _ us hl => match us, hl with | [_], _ => rfl
  have D25 := defAt_mk (st := s__law_plus) (ps := ["a", "b"]) X G a25 l25 c25 k25 fun _ _ _ _ _ _ us hl => match us, hl with | [_, _], _ => rfl
  have D26 := defAt_mk (st := s__law_times) (ps := ["a", "b"]) X G a26 l26 c26 k26 fun _ _ _ _ _ _ us hl => match us, hl with | [_, _], _ => rfl
  have D27 := defAt_mk (st := s__law_rule) (ps := ["c", "sizes", "v"]) X G a27 l27 c27 k27 fun _ _ _ _ _ _ us hl => match us, hl with | [_, _, _], _ => rfl
  have D28 := defAt_mk (st := s__law_deed) (ps := ["c", "sizes", "most", "barred"]) X G a28 l28 c28 k28 fun _ _ _ _ _ _ us hl => match us, hl with | [_, _, _, _], _ => rfl
  have D29 := defAt_mk (st := s_are_chances) (ps := ["size", "value"]) X G a29 l29 c29 k29 fun _ _ _ _ _ _ us hl => match us, hl with | [_, _], _ => rfl
  have D30 := defAt_mk (st := s_done_world) (ps := ["lots", "deed"]) X G a30 l30 c30 k30 fun _ _ _ _ _ _ us hl => match us, hl with | [_, _], _ => rfl
  have D31 := defAt_mk (st := s_twins) (ps := ["lots", "deed"]) X G a31 l31 c31 k31 fun _ _ _ _ _ _ us hl => match us, hl with | [_, _], _ => rfl
  have D32 := defAt_mk (st := s_both) (ps := ["lots", "x", "y"]) X G a32 l32 c32 k32 fun _ _ _ _ _ _ us hl => match us, hl with | [_, _, _], _ => rfl
  have D33 := defAt_mk (st := s__law_total) (ps := ["row"]) X G a33 l33 c33 k33 fun _ _ _ _ _ _ us hl => match us, hl with | [_], _ => rfl
  have D34 := defAt_mk (st := s__law_lots) (ps := ["c"]) X G a34 l34 c34 k34 fun _ _ _ _ _ _ us hl => match us, hl with | [_], _ => rfl
  have D35 := defAt_mk (st := s__law_drawn) (ps := ["all_lots"]) X G a35 l35 c35 k35 fun _ _ _ _ _ _ us hl => match us, hl with | [_], _ => rfl
  have D36 := defAt_mk (st := s_are_lots) (ps := ["value"]) X G a36 l36 c36 k36 fun _ _ _ _ _ _ us hl => match us, hl with | [_], _ => rfl
  have D37 := defAt_mk (st := s_seen_world) (ps := ["lots"]) X G a37 l37 c37 k37 fun _ _ _ _ _ _ us hl => match us, hl with | [_], _ => rfl
  have D38 := defAt_mk (st := s_would) (ps := ["lots", "seen", "deed", "event"]) X G a38 l38 c38 k38 fun _ _ _ _ _ _ us hl => match us, hl with | [_, _, _, _], _ => rfl
  have D39 := defAt_mk (st := s__law_world) (ps := ["all_lots", "deed"]) X G a39 l39 c39 k39 fun _ _ _ _ _ _ us hl => match us, hl with | [_, _], _ => rfl
  have D40 := defAt_mk (st := s__law_pairs) (ps := ["all_lots", "deed"]) X G a40 l40 c40 k40 fun _ _ _ _ _ _ us hl => match us, hl with | [_, _], _ => rfl
  have D41 := defAt_mk (st := s_necessity) (ps := ["lots", "x", "y"]) X G a41 l41 c41 k41 fun _ _ _ _ _ _ us hl => match us, hl with | [_, _, _], _ => rfl
  have D42 := defAt_mk (st := s_sufficiency) (ps := ["lots", "x", "y"]) X G a42 l42 c42 k42 fun _ _ _ _ _ _ us hl => match us, hl with | [_, _, _], _ => rfl
  have D43 := defAt_mk (st := s__law_would) (ps := ["all_lots", "seen", "deed", "event"]) X G a43 l43 c43 k43 fun _ _ _ _ _ _ us hl => match us, hl with | [_, _, _, _], _ => rfl
  have D44 := defAt_mk (st := s__law_two) (ps := ["all_lots", "x", "y"]) X G a44 l44 c44 k44 fun _ _ _ _ _ _ us hl => match us, hl with | [_, _, _], _ => rfl
  have D45 := defAt_mk (st := s_law) (ps := ["script"]) X G a45 l45 c45 k45 fun _ _ _ _ _ _ us hl => match us, hl with | [_], _ => rfl
  let T : Top K w l.prog mg := {
    D_is_integer := ⟨_, _, D1.2.1, D1.1, k1, D1.2.2⟩,
    D_fraction := ⟨_, _, D2.2.1, D2.1, k2, D2.2.2⟩,
    D_rows_of := ⟨_, _, D3.2.1, D3.1, k3, D3.2.2⟩,
    D_fits := ⟨_, _, D4.2.1, D4.1, k4, D4.2.2⟩,
    D_place_of := ⟨_, _, D5.2.1, D5.1, k5, D5.2.2⟩,
    D__law_start := ⟨_, _, D6.2.1, D6.1, k6, D6.2.2⟩,
    D__law_fill := ⟨_, _, D7.2.1, D7.1, k7, D7.2.2⟩,
    D__law_alike := ⟨_, _, D8.2.1, D8.1, k8, D8.2.2⟩,
    D__law_divisor := ⟨_, _, D9.2.1, D9.1, k9, D9.2.2⟩,
    D__law_values := ⟨_, _, D10.2.1, D10.1, k10, D10.2.2⟩,
    D__law_place := ⟨_, _, D11.2.1, D11.1, k11, D11.2.2⟩,
    D__law_has := ⟨_, _, D12.2.1, D12.1, k12, D12.2.2⟩,
    D_plus := ⟨_, _, D13.2.1, D13.1, k13, D13.2.2⟩,
    D_times := ⟨_, _, D14.2.1, D14.1, k14, D14.2.2⟩,
    D_over := ⟨_, _, D15.2.1, D15.1, k15, D15.2.2⟩,
    D_is_fraction := ⟨_, _, D16.2.1, D16.1, k16, D16.2.2⟩,
    D_are_sizes := ⟨_, _, D17.2.1, D17.1, k17, D17.2.2⟩,
    D_is_rule := ⟨_, _, D18.2.1, D18.1, k18, D18.2.2⟩,
    D_values := ⟨_, _, D19.2.1, D19.1, k19, D19.2.2⟩,
    D__law_take := ⟨_, _, D20.2.1, D20.1, k20, D20.2.2⟩,
    D__law_fraction := ⟨_, _, D21.2.1, D21.1, k21, D21.2.2⟩,
    D__law_run := ⟨_, _, D22.2.1, D22.1, k22, D22.2.2⟩,
    D_total := ⟨_, _, D23.2.1, D23.1, k23, D23.2.2⟩,
    D_drawn := ⟨_, _, D24.2.1, D24.1, k24, D24.2.2⟩,
    D__law_plus := ⟨_, _, D25.2.1, D25.1, k25, D25.2.2⟩,
    D__law_times := ⟨_, _, D26.2.1, D26.1, k26, D26.2.2⟩,
    D__law_rule := ⟨_, _, D27.2.1, D27.1, k27, D27.2.2⟩,
    D__law_deed := ⟨_, _, D28.2.1, D28.1, k28, D28.2.2⟩,
    D_are_chances := ⟨_, _, D29.2.1, D29.1, k29, D29.2.2⟩,
    D_done_world := ⟨_, _, D30.2.1, D30.1, k30, D30.2.2⟩,
    D_twins := ⟨_, _, D31.2.1, D31.1, k31, D31.2.2⟩,
    D_both := ⟨_, _, D32.2.1, D32.1, k32, D32.2.2⟩,
    D__law_total := ⟨_, _, D33.2.1, D33.1, k33, D33.2.2⟩,
    D__law_lots := ⟨_, _, D34.2.1, D34.1, k34, D34.2.2⟩,
    D__law_drawn := ⟨_, _, D35.2.1, D35.1, k35, D35.2.2⟩,
    D_are_lots := ⟨_, _, D36.2.1, D36.1, k36, D36.2.2⟩,
    D_seen_world := ⟨_, _, D37.2.1, D37.1, k37, D37.2.2⟩,
    D_would := ⟨_, _, D38.2.1, D38.1, k38, D38.2.2⟩,
    D__law_world := ⟨_, _, D39.2.1, D39.1, k39, D39.2.2⟩,
    D__law_pairs := ⟨_, _, D40.2.1, D40.1, k40, D40.2.2⟩,
    D_necessity := ⟨_, _, D41.2.1, D41.1, k41, D41.2.2⟩,
    D_sufficiency := ⟨_, _, D42.2.1, D42.1, k42, D42.2.2⟩,
    D__law_would := ⟨_, _, D43.2.1, D43.1, k43, D43.2.2⟩,
    D__law_two := ⟨_, _, D44.2.1, D44.1, k44, D44.2.2⟩,
    D_law := ⟨_, _, D45.2.1, D45.1, k45, D45.2.2⟩,
    z_abs := PySem.W.mg_none_of X G z_abs,
    z_all := PySem.W.mg_none_of X G z_all,
    z_bool := PySem.W.mg_none_of X G z_bool,
    z_dict := PySem.W.mg_none_of X G z_dict,
    z_enumerate := PySem.W.mg_none_of X G z_enumerate,
    z_int := PySem.W.mg_none_of X G z_int,
    z_isinstance := PySem.W.mg_none_of X G z_isinstance,
    z_len := PySem.W.mg_none_of X G z_len,
    z_list := PySem.W.mg_none_of X G z_list,
    z_max := PySem.W.mg_none_of X G z_max,
    z_min := PySem.W.mg_none_of X G z_min,
    z_range := PySem.W.mg_none_of X G z_range,
    z_repr := PySem.W.mg_none_of X G z_repr,
    z_sorted := PySem.W.mg_none_of X G z_sorted,
    z_sum := PySem.W.mg_none_of X G z_sum,
    z_tuple := PySem.W.mg_none_of X G z_tuple,
    z_zip := PySem.W.mg_none_of X G z_zip,
    c_MOST_ROWS := glob_int (PySem.W.mg_of X G c_MOST_ROWS),
    c_MOST_SIZE := glob_int (PySem.W.mg_of X G c_MOST_SIZE),
    c_MOST_VARIABLES := glob_int (PySem.W.mg_of X G c_MOST_VARIABLES),
    c_ONE := glob_pair (PySem.W.mg_of X G c_ONE) cl_ONE,
    c_ZERO := glob_pair (PySem.W.mg_of X G c_ZERO) cl_ZERO,
    g_gcd := PySem.W.mg_of X G g_gcd }
  exact ⟨_, fun s v => .of_eq rfl, fun base _ _ => ok_law T math⟩
end W17
open PySem PySem.W PyProof.Rows
set_option maxRecDepth 100000 in
set_option maxHeartbeats 0 in
theorem PySem.Challenge.cw_causeworth_k17_lots_and_what_would_have_holds : PySem.Challenge.rw_causeworth_k17_lots_and_what_would_have.Holds := by
  w_on; o_law; k_head; (case hw => w_witness2)
  k_fill
  refine DL.walkG (l := PySem.Challenge.rw_causeworth_k17_lots_and_what_would_have) (k := 8) ⟨rfl, by decide, by decide⟩ rfl rfl (fun w h Y => PySem.W.kIn_of Y) ?F
  case F =>
    intro w mg fa h KX G hmg
    refine' W17.all_mk KX G hmg ?a1 ?l1 ?c1 ?k1 ?a2 ?l2 ?c2 ?k2 ?a3 ?l3 ?c3 ?k3 ?a4 ?l4 ?c4 ?k4 ?a5 ?l5 ?c5 ?k5 ?a6 ?l6 ?c6 ?k6 ?a7 ?l7 ?c7 ?k7 ?a8 ?l8 ?c8 ?k8 ?a9 ?l9 ?c9 ?k9 ?a10 ?l10 ?c10 ?k10 ?a11 ?l11 ?c11 ?k11 ?a12 ?l12 ?c12 ?k12 ?a13 ?l13 ?c13 ?k13 ?a14 ?l14 ?c14 ?k14 ?a15 ?l15 ?c15 ?k15 ?a16 ?l16 ?c16 ?k16 ?a17 ?l17 ?c17 ?k17 ?a18 ?l18 ?c18 ?k18 ?a19 ?l19 ?c19 ?k19 ?a20 ?l20 ?c20 ?k20 ?a21 ?l21 ?c21 ?k21 ?a22 ?l22 ?c22 ?k22 ?a23 ?l23 ?c23 ?k23 ?a24 ?l24 ?c24 ?k24 ?a25 ?l25 ?c25 ?k25 ?a26 ?l26 ?c26 ?k26 ?a27 ?l27 ?c27 ?k27 ?a28 ?l28 ?c28 ?k28 ?a29 ?l29 ?c29 ?k29 ?a30 ?l30 ?c30 ?k30 ?a31 ?l31 ?c31 ?k31 ?a32 ?l32 ?c32 ?k32 ?a33 ?l33 ?c33 ?k33 ?a34 ?l34 ?c34 ?k34 ?a35 ?l35 ?c35 ?k35 ?a36 ?l36 ?c36 ?k36 ?a37 ?l37 ?c37 ?k37 ?a38 ?l38 ?c38 ?k38 ?a39 ?l39 ?c39 ?k39 ?a40 ?l40 ?c40 ?k40 ?a41 ?l41 ?c41 ?k41 ?a42 ?l42 ?c42 ?k42 ?a43 ?l43 ?c43 ?k43 ?a44 ?l44 ?c44 ?k44 ?a45 ?l45 ?c45 ?k45 ?z_abs ?z_all ?z_bool ?z_dict ?z_enumerate ?z_int ?z_isinstance ?z_len ?z_list ?z_max ?z_min ?z_range ?z_repr ?z_sorted ?z_sum ?z_tuple ?z_zip ?g_gcd ?c_MOST_ROWS ?c_MOST_SIZE ?c_MOST_VARIABLES ?c_ONE ?cl_ONE ?c_ZERO ?cl_ZERO
    (case a1 => k_is)
    (case l1 => k_is)
    (case c1 => k_is)
    (case k1 => k_is)
    (case a2 => k_is)
    (case l2 => k_is)
    (case c2 => k_is)
    (case k2 => k_is)
    (case a3 => k_is)
    (case l3 => k_is)
    (case c3 => k_is)
    (case k3 => k_is)
    (case a4 => k_is)
    (case l4 => k_is)
    (case c4 => k_is)
    (case k4 => k_is)
    (case a5 => k_is)
    (case l5 => k_is)
    (case c5 => k_is)
    (case k5 => k_is)
    (case a6 => k_is)
    (case l6 => k_is)
    (case c6 => k_is)
    (case k6 => k_is)
    (case a7 => k_is)
    (case l7 => k_is)
    (case c7 => k_is)
    (case k7 => k_is)
    (case a8 => k_is)
    (case l8 => k_is)
    (case c8 => k_is)
    (case k8 => k_is)
    (case a9 => k_is)
    (case l9 => k_is)
    (case c9 => k_is)
    (case k9 => k_is)
    (case a10 => k_is)
    (case l10 => k_is)
    (case c10 => k_is)
    (case k10 => k_is)
    (case a11 => k_is)
    (case l11 => k_is)
    (case c11 => k_is)
    (case k11 => k_is)
    (case a12 => k_is)
    (case l12 => k_is)
    (case c12 => k_is)
    (case k12 => k_is)
    (case a13 => k_is)
    (case l13 => k_is)
    (case c13 => k_is)
    (case k13 => k_is)
    (case a14 => k_is)
    (case l14 => k_is)
    (case c14 => k_is)
    (case k14 => k_is)
    (case a15 => k_is)
    (case l15 => k_is)
    (case c15 => k_is)
    (case k15 => k_is)
    (case a16 => k_is)
    (case l16 => k_is)
    (case c16 => k_is)
    (case k16 => k_is)
    (case a17 => k_is)
    (case l17 => k_is)
    (case c17 => k_is)
    (case k17 => k_is)
    (case a18 => k_is)
    (case l18 => k_is)
    (case c18 => k_is)
    (case k18 => k_is)
    (case a19 => k_is)
    (case l19 => k_is)
    (case c19 => k_is)
    (case k19 => k_is)
    (case a20 => k_is)
    (case l20 => k_is)
    (case c20 => k_is)
    (case k20 => k_is)
    (case a21 => k_is)
    (case l21 => k_is)
    (case c21 => k_is)
    (case k21 => k_is)
    (case a22 => k_is)
    (case l22 => k_is)
    (case c22 => k_is)
    (case k22 => k_is)
    (case a23 => k_is)
    (case l23 => k_is)
    (case c23 => k_is)
    (case k23 => k_is)
    (case a24 => k_is)
    (case l24 => k_is)
    (case c24 => k_is)
    (case k24 => k_is)
    (case a25 => k_is)
    (case l25 => k_is)
    (case c25 => k_is)
    (case k25 => k_is)
    (case a26 => k_is)
    (case l26 => k_is)
    (case c26 => k_is)
    (case k26 => k_is)
    (case a27 => k_is)
    (case l27 => k_is)
    (case c27 => k_is)
    (case k27 => k_is)
    (case a28 => k_is)
    (case l28 => k_is)
    (case c28 => k_is)
    (case k28 => k_is)
    (case a29 => k_is)
    (case l29 => k_is)
    (case c29 => k_is)
    (case k29 => k_is)
    (case a30 => k_is)
    (case l30 => k_is)
    (case c30 => k_is)
    (case k30 => k_is)
    (case a31 => k_is)
    (case l31 => k_is)
    (case c31 => k_is)
    (case k31 => k_is)
    (case a32 => k_is)
    (case l32 => k_is)
    (case c32 => k_is)
    (case k32 => k_is)
    (case a33 => k_is)
    (case l33 => k_is)
    (case c33 => k_is)
    (case k33 => k_is)
    (case a34 => k_is)
    (case l34 => k_is)
    (case c34 => k_is)
    (case k34 => k_is)
    (case a35 => k_is)
    (case l35 => k_is)
    (case c35 => k_is)
    (case k35 => k_is)
    (case a36 => k_is)
    (case l36 => k_is)
    (case c36 => k_is)
    (case k36 => k_is)
    (case a37 => k_is)
    (case l37 => k_is)
    (case c37 => k_is)
    (case k37 => k_is)
    (case a38 => k_is)
    (case l38 => k_is)
    (case c38 => k_is)
    (case k38 => k_is)
    (case a39 => k_is)
    (case l39 => k_is)
    (case c39 => k_is)
    (case k39 => k_is)
    (case a40 => k_is)
    (case l40 => k_is)
    (case c40 => k_is)
    (case k40 => k_is)
    (case a41 => k_is)
    (case l41 => k_is)
    (case c41 => k_is)
    (case k41 => k_is)
    (case a42 => k_is)
    (case l42 => k_is)
    (case c42 => k_is)
    (case k42 => k_is)
    (case a43 => k_is)
    (case l43 => k_is)
    (case c43 => k_is)
    (case k43 => k_is)
    (case a44 => k_is)
    (case l44 => k_is)
    (case c44 => k_is)
    (case k44 => k_is)
    (case a45 => k_is)
    (case l45 => k_is)
    (case c45 => k_is)
    (case k45 => k_is)
    (case z_abs => k_is)
    (case z_all => k_is)
    (case z_bool => k_is)
    (case z_dict => k_is)
    (case z_enumerate => k_is)
    (case z_int => k_is)
    (case z_isinstance => k_is)
    (case z_len => k_is)
    (case z_list => k_is)
    (case z_max => k_is)
    (case z_min => k_is)
    (case z_range => k_is)
    (case z_repr => k_is)
    (case z_sorted => k_is)
    (case z_sum => k_is)
    (case z_tuple => k_is)
    (case z_zip => k_is)
    (case g_gcd => k_is)
    (case c_MOST_ROWS => k_is)
    (case c_MOST_SIZE => k_is)
    (case c_MOST_VARIABLES => k_is)
    (case c_ONE => k_is)
    (case cl_ONE => k_is)
    (case c_ZERO => k_is)
    (case cl_ZERO => k_is)
