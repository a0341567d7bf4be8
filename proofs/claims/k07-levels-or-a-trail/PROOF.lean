import PyProof.Rows.All
import Wide.All
import OpenK.AllK
import Wide.FinOn
import HandS.ForMost
import HandS.Walk
import HandS.Deep
import HandS.TupAny
import KE.KDictPairs
import HandS.IsInst
import HandS.Style
import KE.SortData
import HandS.More
import HandS.Zip
import KE.KItemsList
import KE.KDictList
import KE.DataMinMax
import HandS.SortKw
import HandS.Set
import HandS.SetTxt0
import HandS.SetFor
import KE.KDictKeyed
import KE.KDictSum
import HandS.TupSets
import HandS.SetKeys
import HandS.DictTup
import HandS.Keys
import HandS.Flow
import HandS.WordsDict
import PySem.Challenge.RW_whisperwall_k07_whole_levels_or_a_trail
set_option Elab.async false
set_option linter.all false
set_option maxRecDepth 100000
set_option maxHeartbeats 4000000
/-! ### tuples that are known to the object: a plain tuple, without attributes -/
namespace Fw
open PySem PySem.Spec L2
open PyProof.Rows (IsTup)
def Pt (o : Obj) : Prop := ∃ its : Array Value, o = { cls := .type "tuple", data := .seq its }
def frT (o : Obj) (vs : List V) : HO := .frz o (.tup vs)
theorem ok_frT {P : Program} {w : World} {H : Hp} {h : Heap} {a : Addr} {vs : List V} {its : List Value} (hz : vs.length ≤ sizeLine) (r : Vals vs its) (e : h.get? a = some { cls := .type "tuple", data := .seq its.toArray }) :
    ObjOk P w H h a (frT { cls := .type "tuple", data := .seq its.toArray } vs) := ⟨e, hz, its, r, ⟨_, e, rfl, _, rfl⟩⟩
section
variable {X : Cx}
def tTupF (t : TA) : TE := fun σ H Q => t σ H fun xs H1 => xs.length ≤ sizeLine ∧ ∀ p o, H1 p = none → Pt o → Q (.ref p) (upd H1 p (frT o xs))
theorem pf_tup {es : List Expr} {t : TA} {pos : Pos} {x1} (h : PA X es t) : PE X (.Tuple es x1 pos) (tTupF t) := by
  refine ⟨fun pins s σ H Q I hq => ?_⟩
  refine wpAny_Tuple_spliced (thn (h.run pos pins s σ H _ I hq) fun us s1 ⟨xs, H1, I1, r, z, q⟩ => ⟨by rw [← r.length]; exact z, ?_⟩)
  have hf : H1 s1.heap.objs.size = none := I1.hok.fresh (Nat.le_refl _)
  exact ⟨.ref s1.heap.objs.size, upd H1 s1.heap.objs.size (frT _ xs), I1.laid (t' := s1.toks) (fun b u e => Heap.get?_push_of_some _ e) (Nat.le_refl _) (ok_frT z r (Heap.get?_push_size _ rfl)), rfl, q _ _ hf ⟨_, rfl⟩⟩
def rTupF (K : PySem.W.Frag) : List V → Hp → VK → Prop := fun xs H Q => ∃ p ys, xs = [.ref p] ∧ ((SqL K H p ys ∧ ∀ l o, H l = none → Pt o → Q (.ref l) (upd H l (frT o ys))) ∨ (SqT K H p ys ∧ Q (.ref p) H))
theorem cf_tup : CallR X (.type "tuple") (rTupF X.K) := by
  intro pins s σ H xs us Q I r h
  obtain ⟨p, ys, rfl, h⟩ := h
  obtain ⟨u, rfl, rx⟩ := vals1 r
  cases rx
  rcases h with ⟨hq, q⟩ | ⟨hq, q⟩
  · obtain ⟨its, r', pl, hz⟩ := I.list hq
    have hlen := r'.length
    refine call_tuple_list pl.isList (fun h' kp => ?_) (by simp only [List.size_toArray] <;> omega)
    have I1 : Inv X pins σ H { s with heap := h' } := I.kept (t' := s.toks) kp
    have I2 : Inv X pins σ (upd H h'.objs.size (frT { cls := .type "tuple", data := .seq its.toArray } ys)) { s with heap := h'.push { cls := .type "tuple", data := .seq its.toArray } } :=
      I1.laid (t' := s.toks) (fun b o e => Heap.get?_push_of_some _ e) (Nat.le_refl _) (ok_frT hz r' (Heap.get?_push_size _ rfl))
    exact ⟨.ref h'.objs.size, _, I2, rfl, q _ _ (I1.hok.fresh (Nat.le_refl _)) ⟨_, rfl⟩⟩
  · obtain ⟨its, r', pl, hz⟩ := I.tuple hq
    exact call_tuple_same pl ⟨.ref p, H, I, rfl, q⟩
def rSlF (K : PySem.W.Frag) : V → Option Int → Option Int → Hp → VK → Prop := fun x lo hi H Q => ∃ a xs, x = .ref a ∧ SqT K H a xs ∧
  (HT.sIx xs.length 0 lo = 0 ∧ HT.sIx xs.length xs.length hi = xs.length → Q (.ref a) H) ∧ (¬ (HT.sIx xs.length 0 lo = 0 ∧ HT.sIx xs.length xs.length hi = xs.length) → ∀ p o, H p = none → Pt o → Q (.ref p) (upd H p (frT o (cutV xs lo hi))))
theorem sf_tup : SlR X (rSlF X.K) := by
  intro pins s σ H x v vl vu lo hi sl Q I rx hs pl pu h
  obtain ⟨a, xs, rfl, hx, q1, q2⟩ := h
  cases rx
  obtain ⟨its, r, ht, hz⟩ := I.tuple hx
  have hlen : its.toArray.size = xs.length := by rw [List.size_toArray]; exact r.length.symm
  refine ⟨"tuple", _, PyProof.Rows.slot_tuple_getitem.lookup, ht.typeIs, ?_⟩
  by_cases hw : HT.sIx xs.length 0 lo = 0 ∧ HT.sIx xs.length xs.length hi = xs.length
  · exact getItem_tuple_whole ht hs pl pu (by rw [hlen]; exact hw) ⟨.ref a, H, I, rfl, q1 hw⟩
  · refine HT.getItem_tuple_cut ht hs pl pu (by rw [hlen]; exact hw) ?_ (by rw [hlen]; exact hz)
    rw [hlen]
    exact ⟨.ref s.heap.objs.size, _, I.laid (t' := s.toks) (fun b ob q => Heap.get?_push_of_some _ q) (Nat.le_refl _) (ok_frT (Nat.le_trans (cutV_length xs lo hi) hz) ((r.drop (HT.sIx xs.length 0 lo)).take (HT.sIx xs.length xs.length hi - HT.sIx xs.length 0 lo)) (Heap.get?_push_size _ rfl)), rfl,
      q2 hw _ _ (I.hok.fresh (Nat.le_refl _)) ⟨_, rfl⟩⟩
def rCatF (K : PySem.W.Frag) : R2 := fun x y H Q => ∃ a b xs ys, x = .ref a ∧ y = .ref b ∧ SqT K H a xs ∧ SqT K H b ys ∧ xs.length + ys.length ≤ sizeLine ∧
  (xs = [] → Q (.ref b) H) ∧ (xs ≠ [] → ys = [] → Q (.ref a) H) ∧ (xs ≠ [] → ys ≠ [] → ∀ p o, H p = none → Pt o → Q (.ref p) (upd H p (frT o (xs ++ ys))))
theorem of_cat : OpR X (binaryOp .Add) (rCatF X.K) := by
  intro pins s σ H x y v u Q I rx ry h
  obtain ⟨a, b, xs, ys, rfl, rfl, ha, hb, hz, q0, q1, q2⟩ := h
  cases rx
  cases ry
  obtain ⟨its, r1, p1, _⟩ := I.tuple ha
  obtain ⟨its2, r2, p2, _⟩ := I.tuple hb
  by_cases hx : xs = []
  · subst hx
    cases r1
    exact cat_tup0 p1 p2 ⟨.ref b, H, I, rfl, q0 rfl⟩
  · refine HT.cat_tup p1 p2 (fun z => hx (r1.nil_iff.mp z)) (fun z => ⟨.ref a, H, I, rfl, q1 hx (r2.nil_iff.mp z)⟩) (fun z => ?_) (by rw [← r1.length, ← r2.length]; exact hz)
    exact ⟨.ref s.heap.objs.size, _, I.laid (t' := s.toks) (fun b ob q => Heap.get?_push_of_some _ q) (Nat.le_refl _) (ok_frT (by rw [List.length_append]; exact hz) (r1.append r2) (Heap.get?_push_size _ rfl)), rfl, q2 hx (fun w => z (r2.nil_iff.mpr w)) _ _ (I.hok.fresh (Nat.le_refl _)) ⟨_, rfl⟩⟩
end
/-- a plain tuple -/
def Tp (H : Hp) (a : Addr) (vs : List V) : Prop := ∃ o, H a = some (frT o vs) ∧ Pt o
theorem Tp.up {H H' : Hp} {a : Addr} {vs : List V} (h : Tp H a vs) (e : Same H H') : Tp H' a vs := let ⟨o, h1, h2⟩ := h; ⟨o, e _ _ h1, h2⟩
theorem Tp.sq {K : PySem.W.Frag} {H : Hp} {a : Addr} {vs : List V} (h : Tp H a vs) : SqT K H a vs := let ⟨o, h1, _⟩ := h; .inl (.inr ⟨o, h1⟩)
theorem Tp.new {H : Hp} {a : Addr} {o : Obj} {vs : List V} (h : Pt o) : Tp (upd H a (frT o vs)) a vs := ⟨o, upd_same, h⟩
section
variable {X : Cx}
def rDictT : List V → Hp → VK → Prop := fun xs H Q => ∃ (a : Addr) (ps : List Addr) (kvs : List (Key × V)), xs = [.ref a] ∧ Tp H a (ps.map V.ref) ∧ Paired (fun p kv => Tp H p [kV kv.1, kv.2]) ps kvs ∧
  ∀ p, H p = none → Q (.ref p) (upd H p (.dK (mergeK [] kvs)))
theorem pairs_in {K : PySem.W.Frag} {H : Hp} : ∀ {ps : List Addr} {kvs : List (Key × V)}, Paired (fun p kv => Tp H p [kV kv.1, kv.2]) ps kvs → Paired (fun p kv => SqT K H p [kV kv.1, kv.2]) ps kvs
  | _, _, .nil => .nil
  | _, _, .cons h t => .cons h.sq (pairs_in t)
theorem list_choose {α β : Type} : ∀ {P : Nat → α → β → Prop} (l : List α), (∀ j q, l[j]? = some q → ∃ u, P j q u) → ∃ us : List β, us.length = l.length ∧ ∀ j q, l[j]? = some q → ∃ u, us[j]? = some u ∧ P j q u
  | _, [], _ => ⟨[], rfl, fun j q e => by simp at e⟩
  | P, a :: l, h => by
    obtain ⟨u, hu⟩ := h 0 a rfl
    obtain ⟨us, h1, h2⟩ := list_choose (P := fun j q u => P (j + 1) q u) l fun j q e => h (j + 1) q (by simpa using e)
    refine ⟨u :: us, congrArg (· + 1) h1, fun j q e => ?_⟩
    cases j with
    | zero => cases e; exact ⟨u, rfl, hu⟩
    | succ j =>
      obtain ⟨v, f1, f2⟩ := h2 j q (by simpa using e)
      exact ⟨v, by simpa using f1, f2⟩
theorem cf_dict (hcalm : X.calm = true) : CallR X (.type "dict") rDictT := by
  intro pins s σ H xs us Q I r h
  obtain ⟨a, ps, kvs, rfl, hq, hp, q⟩ := h
  obtain ⟨u, rfl, rx⟩ := vals1 r
  cases rx
  obtain ⟨o, ho, its0, rfl⟩ := hq
  obtain ⟨hget, hz, its, rv, o', ho', hc', n', hd'⟩ := (show ObjOk X.prog X.w H s.heap a (.frz _ (.tup (ps.map V.ref))) from I.hok a _ ho)
  rw [hget] at ho'
  cases ho'
  have e0 : its0 = its.toArray := by
    simp only [Data.seq.injEq] at hd'
    exact hd'.1
  subst e0
  have ei := refs_at rv
  subst ei
  rw [List.length_map] at hz
  obtain ⟨prs, rel, hl, hpr⟩ := pairs_of I (pairs_in (K := X.K) hp)
  obtain ⟨us, hul, hus⟩ := list_choose (P := fun (j : Nat) (q : Key × Value) (u : Value) => ∃ b, ps[j]? = some b ∧ IsTup s.heap b #[u, q.2] ∧ keyIs q.1 u = true) prs fun j q e => by
    obtain ⟨b, u, e1, e2, e3⟩ := hpr j q e
    exact ⟨u, b, e1, e2, e3⟩
  have hkl : (us.zip (prs.map (·.2))).length = prs.length := by
    rw [List.length_zip, List.length_map, hul, Nat.min_self]
  have hks : ∀ j k v, (us.zip (prs.map (·.2)))[j]? = some (k, v) → ∃ (b : Addr) (q : Key × Value), prs[j]? = some q ∧ v = q.2 ∧ ps[j]? = some b ∧ IsTup s.heap b #[k, v] ∧ keyIs q.1 k = true := fun j k v e => by
    have hj : j < prs.length := by rw [← hkl]; exact (List.getElem?_eq_some_iff.mp e).1
    obtain ⟨u, f1, b, f2, f3, f4⟩ := hus j prs[j] (List.getElem?_eq_getElem hj)
    rw [List.getElem?_zip_eq_some, List.getElem?_map, List.getElem?_eq_getElem hj] at e
    obtain ⟨g1, g2⟩ := e
    rw [f1] at g1
    cases g1
    cases g2
    exact ⟨b, prs[j], List.getElem?_eq_getElem hj, rfl, f2, f3, f4⟩
  refine PySem.call_dict_pairs (knd := mixKind X.prog X.w) (kvs := prs) (PySem.PairArg.tuple a ((ps.map Value.ref).toArray) (fun j => ps.getD j 0) (us.zip (prs.map (·.2)))) (I.ok.hd hcalm) ⟨⟨_, 0, hget, rfl, rfl, rfl⟩, by rw [hkl, hl]; simp, fun j k v e => ?_⟩ ⟨hkl.symm, fun i key v e => ?_⟩ (by rw [hkl, hl]; exact hz) fun h' tk hd k => ?_
  · obtain ⟨b, q', f1, f2, f3, f4, f5⟩ := hks j k v e
    have eb : ps.getD j 0 = b := by rw [List.getD_eq_getElem?_getD, f3]; rfl
    refine ⟨?_, ?_⟩
    · simp [f3]
    · show PairAt s.heap (ps.getD j 0) k v
      rw [eb]
      exact .inl f4
  · obtain ⟨b, q', f1, f2, f3, f4, f5⟩ := hks i key v e
    subst f2
    exact ⟨q'.1, f1, f5⟩
  · have hm : (s.heap.objs.size == sysModules) = false := beq_eq_false_iff_ne.mpr (Nat.ne_of_gt I.big)
    have hlen : (mergeK [] kvs).length ≤ sizeLine := by
      refine Nat.le_trans (length_mergeK kvs []) ?_
      rw [List.length_nil, Nat.zero_add, rel.length, hl]
      exact hz
    exact ⟨.ref s.heap.objs.size, upd H s.heap.objs.size (.dK (mergeK [] kvs)), I.laid (t' := tk) (fun b o e => k b o (by simp) e) (Nat.le_refl _) (show ObjOk X.prog X.w _ _ _ (.dK (mergeK [] kvs)) from ⟨hlen, hm, merged [] prs, KV.merge rel .nil, hd⟩), rfl, q _ (I.hok.fresh (Nat.le_refl _))⟩
end
end Fw
namespace Fw
open PySem PySem.Spec L2

/-! ### data in a heap -/
mutual
inductive Dr (H : Hp) : V → PyData → Prop
  | non : Dr H .non .none
  | bl (b : Bool) : Dr H (.bl b) (.bool b)
  | int (i : Int) : Dr H (.int i) (.int i)
  | str (x : Str) : Dr H (.str x) (.str x)
  | lst {a : Addr} {vs : List V} {ds : List PyData} : H a = some (.lst vs) → DrAll H vs ds → Dr H (.ref a) (.list ds)
  | tup {a : Addr} {vs : List V} {ds : List PyData} : Tp H a vs → DrAll H vs ds → Dr H (.ref a) (.tuple ds)
inductive DrAll (H : Hp) : List V → List PyData → Prop
  | nil : DrAll H [] []
  | cons {v : V} {vs : List V} {d : PyData} {ds : List PyData} : Dr H v d → DrAll H vs ds → DrAll H (v :: vs) (d :: ds)
end
mutual
theorem Dr.mono {G G' : Hp} (e : Same G G') : ∀ (d : PyData) (v : V), Dr G v d → Dr G' v d
  | .none, _, h => by cases h; exact .non
  | .bool b, _, h => by cases h; exact .bl b
  | .int i, _, h => by cases h; exact .int i
  | .str x, _, h => by cases h; exact .str x
  | .list ds, _, h => by
    cases h with
    | lst ha hs => exact .lst (e _ _ ha) (DrAll.mono e ds _ hs)
  | .tuple ds, _, h => by
    cases h with
    | tup ha hs => exact .tup (ha.up e) (DrAll.mono e ds _ hs)
  | .dict _, _, h => by cases h
theorem DrAll.mono {G G' : Hp} (e : Same G G') : ∀ (ds : List PyData) (vs : List V), DrAll G vs ds → DrAll G' vs ds
  | [], _, h => by cases h; exact .nil
  | d :: ds, _, h => by
    cases h with
    | cons h1 h2 => exact .cons (Dr.mono e d _ h1) (DrAll.mono e ds _ h2)
end
theorem Dr.up {G G' : Hp} {d : PyData} {v : V} (h : Dr G v d) (e : Same G G') : Dr G' v d := Dr.mono e d v h
theorem DrAll.up {G G' : Hp} {ds : List PyData} {vs : List V} (h : DrAll G vs ds) (e : Same G G') : DrAll G' vs ds := DrAll.mono e ds vs h
section
variable {G : Hp} {K : PySem.W.Frag}
mutual
theorem Dr.dp : ∀ (d : PyData) (v : V), Dr G v d → Dp K G v d
  | .none, _, h => by cases h; exact .non
  | .bool b, _, h => by cases h; exact .bl b
  | .int i, _, h => by cases h; exact .int i
  | .str x, _, h => by cases h; exact .str x
  | .list ds, _, h => by
    cases h with
    | lst ha hs => exact .lst (.inl (.inl ha)) (DrAll.dp ds _ hs)
  | .tuple ds, _, h => by
    cases h with
    | tup ha hs => exact .tup ha.sq (DrAll.dp ds _ hs)
  | .dict _, _, h => by cases h
theorem DrAll.dp : ∀ (ds : List PyData) (vs : List V), DrAll G vs ds → DpAll K G vs ds
  | [], _, h => by cases h; exact .nil
  | d :: ds, _, h => by
    cases h with
    | cons h1 h2 => exact .cons (Dr.dp d _ h1) (DrAll.dp ds _ h2)
end
theorem DrAll.len : ∀ {vs : List V} {ds : List PyData}, DrAll G vs ds → vs.length = ds.length
  | _, _, .nil => rfl
  | _, _, .cons _ t => congrArg (· + 1) t.len
theorem DrAll.get : ∀ {vs : List V} {ds : List PyData} {i : Nat} {d : PyData}, DrAll G vs ds → ds[i]? = some d → ∃ v, vs[i]? = some v ∧ Dr G v d
  | _, _, _, _, .nil, e => by simp at e
  | _, _, 0, _, .cons h _, e => by simp at e; subst e; exact ⟨_, rfl, h⟩
  | _, _, i + 1, d, .cons _ t, e => by
    obtain ⟨v, h1, h2⟩ := t.get (i := i) (d := d) (by simpa using e)
    exact ⟨v, by simpa using h1, h2⟩
theorem DrAll.of : ∀ {vs : List V} {ds : List PyData} {i : Nat} {v : V}, DrAll G vs ds → vs[i]? = some v → ∃ d, ds[i]? = some d ∧ Dr G v d
  | _, _, _, _, .nil, e => by simp at e
  | _, _, 0, _, .cons h _, e => by simp at e; subst e; exact ⟨_, rfl, h⟩
  | _, _, i + 1, v, .cons _ t, e => by
    obtain ⟨d, h1, h2⟩ := t.of (i := i) (v := v) (by simpa using e)
    exact ⟨d, by simpa using h1, h2⟩
theorem DrAll.app : ∀ {vs ws : List V} {ds es : List PyData}, DrAll G vs ds → DrAll G ws es → DrAll G (vs ++ ws) (ds ++ es)
  | _, _, _, _, .nil, h => h
  | _, _, _, _, .cons a t, h => .cons a (t.app h)
theorem DrAll.drop : ∀ {vs : List V} {ds : List PyData} (n : Nat), DrAll G vs ds → DrAll G (vs.drop n) (ds.drop n)
  | _, _, 0, h => h
  | _, _, _ + 1, .nil => .nil
  | _, _, n + 1, .cons _ t => t.drop n
theorem DrAll.take : ∀ {vs : List V} {ds : List PyData} (n : Nat), DrAll G vs ds → DrAll G (vs.take n) (ds.take n)
  | _, _, 0, _ => .nil
  | _, _, _ + 1, .nil => .nil
  | _, _, n + 1, .cons a t => .cons a (t.take n)
theorem DrAll.ints : ∀ {ns : List Int} {vs : List V}, DrAll G vs (ns.map .int) → vs = ns.map V.int
  | [], _, h => by cases h; rfl
  | n :: ns, _, h => by
    cases h with
    | cons h1 h2 =>
      cases h1
      rw [DrAll.ints h2]
      rfl
theorem DrAll.strs : ∀ {ns : List Str} {vs : List V}, DrAll G vs (ns.map .str) → vs = ns.map V.str
  | [], _, h => by cases h; rfl
  | n :: ns, _, h => by
    cases h with
    | cons h1 h2 =>
      cases h1
      rw [DrAll.strs h2]
      rfl
theorem DrAll.bls : ∀ {ns : List Bool} {vs : List V}, DrAll G vs (ns.map .bool) → vs = ns.map V.bl
  | [], _, h => by cases h; rfl
  | n :: ns, _, h => by
    cases h with
    | cons h1 h2 =>
      cases h1
      rw [DrAll.bls h2]
      rfl
theorem drs_ints : ∀ ns : List Int, DrAll G (ns.map V.int) (ns.map .int)
  | [] => .nil
  | n :: ns => .cons (.int n) (drs_ints ns)
theorem drs_strs : ∀ ns : List Str, DrAll G (ns.map V.str) (ns.map .str)
  | [] => .nil
  | n :: ns => .cons (.str n) (drs_strs ns)
theorem drs_bls : ∀ ns : List Bool, DrAll G (ns.map V.bl) (ns.map .bool)
  | [] => .nil
  | n :: ns => .cons (.bl n) (drs_bls ns)
end

/-! ### the visible part G of the heap H, both grown -/
structure Ext (G H G' H' : Hp) : Prop where
  g : Same G G'
  h : Same H H'
  i : Same G' H'
  n : ∀ q, H q ≠ none → G q = none → G' q = none
theorem Ext.refl {G H : Hp} (s : Same G H) : Ext G H G H := ⟨Same.refl _, Same.refl _, s, fun _ _ h => h⟩
theorem Same.some' {H H' : Hp} (e : Same H H') {q : Addr} (h : H q ≠ none) : H' q ≠ none := by
  cases c : H q with
  | none => exact absurd c h
  | some o => rw [e _ _ c]; simp
theorem Ext.trans {G H G1 H1 G2 H2 : Hp} (a : Ext G H G1 H1) (b : Ext G1 H1 G2 H2) : Ext G H G2 H2 :=
  ⟨a.g.trans b.g, a.h.trans b.h, b.i, fun q h1 h2 => b.n q (Same.some' a.h h1) (a.n q h1 h2)⟩
theorem same_upd2 {G H : Hp} {p : Addr} {o : HO} (s : Same G H) : Same (upd G p o) (upd H p o) := fun b u e => by
  unfold upd at e ⊢
  split at e
  · rename_i h
    rw [if_pos h]
    exact e
  · rename_i h
    rw [if_neg h]
    exact s _ _ e
theorem same_up {H : Hp} {p : Addr} {o : HO} (h : H p = none) : Same H (upd H p o) := fun b x e => by
  rw [upd_ne (ne_of_none e h)]
  exact e
/-- a new visible object -/
theorem Ext.new {G H : Hp} {p : Addr} {o : HO} (s : Same G H) (hp : H p = none) : Ext G H (upd G p o) (upd H p o) where
  g := same_up (s.free hp)
  h := same_up hp
  i := same_upd2 s
  n := fun q h1 h2 => by
    have e : q ≠ p := by
      rintro rfl
      exact h1 hp
    rw [upd_ne e]
    exact h2
/-- a new hidden object -/
theorem Ext.hid {G H : Hp} {p : Addr} {o : HO} (s : Same G H) (hp : H p = none) : Ext G H G (upd H p o) where
  g := Same.refl _
  h := same_up hp
  i := s.trans (same_up hp)
  n := fun _ _ h2 => h2

/-! ### what a slot holds -/
def kvl (l : List (Str × V)) : List (Key × V) := l.map fun p => (Sum.inr p.1, p.2)
inductive Ds where
  | any
  | dat (d : PyData)
  | dic (l : List (Str × V))
  | scr (ns : List Int)
  | val (v : V)
  | own (ds : List PyData)
  | ownD (l : List (Str × V))
  | fix (v : V) (Gx : Hp)
def VOk (K : PySem.W.Frag) (G : Hp) (v : V) : Ds → Prop
  | .any => True
  | .dat d => Dr G v d
  | .dic l => ∃ a, v = .ref a ∧ G a = some (.dK (kvl l))
  | .scr ns => ∃ a, v = .ref a ∧ SqL K G a (ns.map V.int)
  | .val u => v = u
  | .own _ => False
  | .ownD _ => False
  | .fix u Gx => v = u ∧ Same Gx G
def SlotOk (K : PySem.W.Frag) (H0 G H : Hp) (ov : Option V) : Ds → Prop
  | .any => True
  | .dat d => ∃ v, ov = some v ∧ Dr G v d
  | .dic l => ∃ a, ov = some (.ref a) ∧ G a = some (.dK (kvl l))
  | .scr ns => ∃ a, ov = some (.ref a) ∧ SqL K G a (ns.map V.int)
  | .val v => ov = some v
  | .own ds => ∃ a vs, ov = some (.ref a) ∧ H a = some (.lst vs) ∧ DrAll G vs ds ∧ G a = none ∧ H0 a = none
  | .ownD l => ∃ a, ov = some (.ref a) ∧ H a = some (.dK (kvl l)) ∧ G a = none ∧ H0 a = none
  | .fix u Gx => ov = some u ∧ Same Gx G
def isOwn : Ds → Bool
  | .own _ => true
  | .ownD _ => true
  | _ => false
theorem VOk.up {K : PySem.W.Frag} {G G' : Hp} {v : V} {x : Ds} (h : VOk K G v x) (e : Same G G') : VOk K G' v x := by
  cases x with
  | any => trivial
  | dat d => exact Dr.up h e
  | dic l => obtain ⟨a, e1, e2⟩ := h; exact ⟨a, e1, e _ _ e2⟩
  | scr ns => obtain ⟨a, e1, e2⟩ := h; exact ⟨a, e1, e.seq e2⟩
  | val u => exact h
  | own ds => exact h
  | ownD l => exact h
  | fix u Gx => exact ⟨h.1, h.2.trans e⟩
theorem VOk.slot {K : PySem.W.Frag} {H0 G H : Hp} {v : V} {x : Ds} (h : VOk K G v x) : SlotOk K H0 G H (some v) x := by
  cases x with
  | any => trivial
  | dat d => exact ⟨v, rfl, h⟩
  | dic l => obtain ⟨a, e1, e2⟩ := h; exact ⟨a, by rw [e1], e2⟩
  | scr ns => obtain ⟨a, e1, e2⟩ := h; exact ⟨a, by rw [e1], e2⟩
  | val u => exact congrArg some h
  | own ds => exact h.elim
  | ownD l => exact h.elim
  | fix u Gx => exact ⟨congrArg some h.1, h.2⟩
theorem VOk.nown {K : PySem.W.Frag} {G : Hp} {v : V} {x : Ds} (h : VOk K G v x) : isOwn x = false := by
  cases x <;> first | rfl | exact h.elim
theorem SlotOk.up {K : PySem.W.Frag} {H0 G H G' H' : Hp} {ov : Option V} {x : Ds} (h : SlotOk K H0 G H ov x) (e : Ext G H G' H') : SlotOk K H0 G' H' ov x := by
  cases x with
  | any => trivial
  | dat d => obtain ⟨v, e1, e2⟩ := h; exact ⟨v, e1, e2.up e.g⟩
  | dic l => obtain ⟨a, e1, e2⟩ := h; exact ⟨a, e1, e.g _ _ e2⟩
  | scr ns => obtain ⟨a, e1, e2⟩ := h; exact ⟨a, e1, e.g.seq e2⟩
  | val u => exact h
  | own ds =>
    obtain ⟨a, vs, e1, e2, e3, e4, e5⟩ := h
    exact ⟨a, vs, e1, e.h _ _ e2, e3.up e.g, e.n a (by rw [e2]; simp) e4, e5⟩
  | ownD l =>
    obtain ⟨a, e1, e2, e4, e5⟩ := h
    exact ⟨a, e1, e.h _ _ e2, e.n a (by rw [e2]; simp) e4, e5⟩
  | fix u Gx => exact ⟨h.1, h.2.trans e.g⟩

structure En (K : PySem.W.Frag) (G0 H0 G H : Hp) (σ : St) (Γ : List Ds) : Prop where
  x : Ext G0 H0 G H
  l : σ.length = Γ.length
  ok : ∀ (i : Nat) (D : Ds), Γ[i]? = some D → ∃ ov, σ[i]? = some ov ∧ SlotOk K H0 G H ov D
  ap : ∀ (i j : Nat) (D E : Ds) (a : Addr), Γ[i]? = some D → isOwn D = true → Γ[j]? = some E → isOwn E = true → σ[i]? = some (some (.ref a)) → σ[j]? = some (some (.ref a)) → i = j
section
variable {K : PySem.W.Frag} {G0 H0 G H G' H' : Hp} {σ : St} {Γ Γ' : List Ds}
theorem En.s (E : En K G0 H0 G H σ Γ) : Same G H := E.x.i
theorem En.up (E : En K G0 H0 G H σ Γ) (e : Ext G H G' H') : En K G0 H0 G' H' σ Γ :=
  ⟨E.x.trans e, E.l, fun i D h => by
    obtain ⟨ov, h1, h2⟩ := E.ok i D h
    exact ⟨ov, h1, h2.up e⟩, E.ap⟩
theorem En.set {i : Nat} {v : V} {x : Ds} (E : En K G0 H0 G H σ Γ) (h : VOk K G v x) : En K G0 H0 G H (σ.set i (some v)) (Γ.set i x) where
  x := E.x
  l := by rw [List.length_set, List.length_set]; exact E.l
  ok := fun j D hj => by
    by_cases hij : i = j
    · subst hij
      have hl : i < Γ.length := by
        have := (List.getElem?_eq_some_iff.mp hj).1
        rwa [List.length_set] at this
      rw [List.getElem?_set_self hl] at hj
      cases hj
      exact ⟨some v, List.getElem?_set_self (by rw [E.l]; exact hl), h.slot⟩
    · rw [List.getElem?_set_ne hij] at hj ⊢
      exact E.ok j D hj
  ap := fun a b D F p h1 h2 h3 h4 h5 h6 => by
    have key : ∀ c D, (Γ.set i x)[c]? = some D → isOwn D = true → i ≠ c := fun c D hc ho e => by
      subst e
      have hl : i < Γ.length := by
        have := (List.getElem?_eq_some_iff.mp hc).1
        rwa [List.length_set] at this
      rw [List.getElem?_set_self hl] at hc
      cases hc
      rw [h.nown] at ho
      cases ho
    have n1 := key a D h1 h2
    have n2 := key b F h3 h4
    rw [List.getElem?_set_ne n1] at h1 h5
    rw [List.getElem?_set_ne n2] at h3 h6
    exact E.ap a b D F p h1 h2 h3 h4 h5 h6
end
/-- the second is what is left of the first when some is forgotten -/
def Sub : List Ds → List Ds → Prop
  | [], [] => True
  | a :: as, b :: bs => (b = .any ∨ a = b) ∧ Sub as bs
  | _, _ => False
theorem Sub.refl : ∀ Γ : List Ds, Sub Γ Γ
  | [] => trivial
  | _ :: Γ => ⟨.inr rfl, Sub.refl Γ⟩
theorem Sub.len : ∀ {Γ Γ' : List Ds}, Sub Γ Γ' → Γ.length = Γ'.length
  | [], [], _ => rfl
  | _ :: _, _ :: _, h => congrArg (· + 1) h.2.len
  | [], _ :: _, h => h.elim
  | _ :: _, [], h => h.elim
theorem Sub.get : ∀ {Γ Γ' : List Ds} {i : Nat} {D : Ds}, Sub Γ Γ' → Γ'[i]? = some D → D = .any ∨ Γ[i]? = some D
  | [], [], _, _, _, e => by simp at e
  | a :: as, b :: bs, 0, D, h, e => by
    have e : b = D := by simpa using e
    subst e
    rcases h.1 with h | h
    · exact .inl h
    · exact .inr (by rw [h]; rfl)
  | a :: as, b :: bs, i + 1, D, h, e => by
    rcases h.2.get (i := i) (D := D) (by simpa using e) with h | h
    · exact .inl h
    · exact .inr (by simpa using h)
  | [], _ :: _, _, _, h, _ => h.elim
  | _ :: _, [], _, _, h, _ => h.elim
theorem Sub.trans : ∀ {A B C : List Ds}, Sub A B → Sub B C → Sub A C
  | [], [], [], _, _ => trivial
  | a :: as, b :: bs, c :: cs, h, k => ⟨by
      rcases k.1 with e | e
      · exact .inl e
      · subst e; exact h.1, h.2.trans k.2⟩
  | [], [], _ :: _, _, k => k.elim
  | [], _ :: _, _, h, _ => h.elim
  | _ :: _, [], _, h, _ => h.elim
  | _ :: _, _ :: _, [], _, k => k.elim
theorem En.sub {K : PySem.W.Frag} {G0 H0 G H : Hp} {σ : St} {Γ Γ' : List Ds} (E : En K G0 H0 G H σ Γ) (h : Sub Γ Γ') : En K G0 H0 G H σ Γ' where
  x := E.x
  l := E.l.trans h.len
  ok := fun i D hi => by
    rcases h.get hi with e | e
    · subst e
      have hl : i < σ.length := by
        rw [E.l, h.len]
        exact (List.getElem?_eq_some_iff.mp hi).1
      exact ⟨σ[i], List.getElem?_eq_getElem hl, trivial⟩
    · exact E.ok i D e
  ap := fun i j D F a h1 h2 h3 h4 h5 h6 => by
    rcases h.get h1 with e | e1
    · subst e; cases h2
    rcases h.get h3 with e | e3
    · subst e; cases h4
    exact E.ap i j D F a e1 h2 e3 h4 h5 h6

/-! ### what evaluates to what -/
def Ev (K : PySem.W.Frag) (te : TE) (Γ : List Ds) (x : Ds) : Prop := ∀ G0 H0 G H σ, En K G0 H0 G H σ Γ → ∀ Q : VK, (∀ v G' H', Ext G H G' H' → VOk K G' v x → Q v H') → te σ H Q
def EvT (K : PySem.W.Frag) (tt : TT) (Γ : List Ds) (b : Bool) : Prop := ∀ G0 H0 G H σ, En K G0 H0 G H σ Γ → ∀ Q : Bool → Hp → Prop, (∀ G' H', Ext G H G' H' → Q b H') → tt σ H Q
inductive VsOk (K : PySem.W.Frag) (G : Hp) : List V → List Ds → Prop
  | nil : VsOk K G [] []
  | cons {v : V} {x : Ds} {vs : List V} {xs : List Ds} : VOk K G v x → VsOk K G vs xs → VsOk K G (v :: vs) (x :: xs)
def EvA (K : PySem.W.Frag) (ta : TA) (Γ : List Ds) (xs : List Ds) : Prop := ∀ G0 H0 G H σ, En K G0 H0 G H σ Γ → ∀ Q : List V → Hp → Prop, (∀ vs G' H', Ext G H G' H' → VsOk K G' vs xs → Q vs H') → ta σ H Q
/-- a sequence to be read: data, or an own list -/
def EvS (K : PySem.W.Frag) (te : TE) (Γ : List Ds) (ds : List PyData) : Prop := ∀ G0 H0 G H σ, En K G0 H0 G H σ Γ → ∀ Q : VK, (∀ a vs G' H', Ext G H G' H' → H' a = some (.lst vs) → DrAll G' vs ds → Q (.ref a) H') → te σ H Q
/-- a dict to be read -/
def EvM (K : PySem.W.Frag) (te : TE) (Γ : List Ds) (l : List (Str × V)) : Prop := ∀ G0 H0 G H σ, En K G0 H0 G H σ Γ → ∀ Q : VK, (∀ a G' H', Ext G H G' H' → H' a = some (.dK (kvl l)) → Q (.ref a) H') → te σ H Q
/-- statements: what holds behind (none: nothing comes there), what is returned -/
def Do (K : PySem.W.Frag) (ts : TS) (Γ : List Ds) (N : Option (List Ds)) (R : Ds → Prop) : Prop := ∀ G0 H0 G H σ (D : Ends), En K G0 H0 G H σ Γ →
  (∀ Γn, N = some Γn → ∀ σ' G' H', En K G0 H0 G' H' σ' Γn → D.nx σ' H') → (∀ x v G' H', R x → Ext G0 H0 G' H' → VOk K G' v x → D.rt v H') → ts D σ H
/-- how a value that a loop gives stands for data: as all data; or as a pair just laid -/
def RvD : Hp → Hp → V → PyData → Prop := fun G _ v d => Dr G v d
def RvP (K : PySem.W.Frag) : Hp → Hp → V → PyData → Prop := fun G H v d => ∃ a vs ds, v = .ref a ∧ d = .tuple ds ∧ SqT K H a vs ∧ DrAll G vs ds
/-- a target -/
def EvG (K : PySem.W.Frag) (Rv : Hp → Hp → V → PyData → Prop) (g : TG) (Γ : List Ds) (d : PyData) (js : List Nat) (Γ1 : List Ds) : Prop := ∀ G0 H0 G H σ v, En K G0 H0 G H σ Γ → Rv G H v d → ∀ Q : St → Hp → Prop,
  (∀ σ', En K G0 H0 G H σ' Γ1 → (∀ vs : List Nat, (∀ j ∈ js, j ∈ vs) → wipe σ' vs = wipe σ vs) → Q σ' H) → g v σ H Q
/-- what a loop walks -/
def YD (Rv : Hp → Hp → V → PyData → Prop) (G : Hp) (ds : List PyData) : Nat → Hp → V → Hp → Prop := fun i H1 v H2 => ∀ G1, Same G G1 → Same G1 H1 → ∃ G2 d, Ext G1 H1 G2 H2 ∧ ds[i]? = some d ∧ Rv G2 H2 v d
def EvI (K : PySem.W.Frag) (Rv : Hp → Hp → V → PyData → Prop) (wi : TI) (Γ : List Ds) (ds : List PyData) : Prop := ∀ G0 H0 G H σ, En K G0 H0 G H σ Γ → ∀ R : It → Hp → Prop,
  (∀ J G' H', Ext G H G' H' → Walk J ds.length (fun H1 => Same G' H1) (YD Rv G' ds) → R J H') → wi σ H R
end Fw
namespace Fw
open PySem PySem.Spec L2
section
variable {K : PySem.W.Frag} {Γ Γ' Γ1 Γ2 : List Ds} {x y : Ds} {d e : PyData} {ds es : List PyData} {ta tb te tl ti tx : TE} {tt tu tw : TT}

def good : Ds → Bool
  | .dat _ => true
  | .dic _ => true
  | .scr _ => true
  | .val _ => true
  | .fix _ _ => true
  | _ => false
theorem slot_good {K : PySem.W.Frag} {H0 G H : Hp} {ov : Option V} {x : Ds} (h : SlotOk K H0 G H ov x) (hx : good x = true) : ∃ v, ov = some v ∧ VOk K G v x := by
  cases x with
  | any => cases hx
  | dat d => exact h
  | dic l => obtain ⟨a, e1, e2⟩ := h; exact ⟨_, e1, a, rfl, e2⟩
  | scr ns => obtain ⟨a, e1, e2⟩ := h; exact ⟨_, e1, a, rfl, e2⟩
  | val v => exact ⟨v, h, rfl⟩
  | own ds => cases hx
  | ownD l => cases hx
  | fix v Gx => exact ⟨v, h.1, rfl, h.2⟩

/-! ### names, constants -/
theorem ev_var {i : Nat} (h : Γ[i]? = some x) (hx : good x = true) : Ev K (tVar i) Γ x := fun G0 H0 G H σ E Q q => by
  obtain ⟨ov, h1, h2⟩ := E.ok i x h
  obtain ⟨v, rfl, hv⟩ := slot_good h2 hx
  exact ⟨v, h1, q v G H (Ext.refl E.s) hv⟩
theorem ev_cint {i : Int} : Ev K (tC (.int i)) Γ (.dat (.int i)) := fun G0 H0 G H σ E Q q => q _ G H (Ext.refl E.s) (.int i)
theorem ev_cstr {z : Str} : Ev K (tC (.str z)) Γ (.dat (.str z)) := fun G0 H0 G H σ E Q q => q _ G H (Ext.refl E.s) (.str z)
theorem ev_cbl {b : Bool} : Ev K (tC (.bl b)) Γ (.dat (.bool b)) := fun G0 H0 G H σ E Q q => q _ G H (Ext.refl E.s) (.bl b)
theorem ev_cnon : Ev K (tC .non) Γ (.dat .none) := fun G0 H0 G H σ E Q q => q _ G H (Ext.refl E.s) .non
theorem ev_cval {v : V} : Ev K (tC v) Γ (.val v) := fun G0 H0 G H σ E Q q => q v G H (Ext.refl E.s) rfl
theorem ev_is (h : Ev K te Γ (.dat d)) (e' : d = e) : Ev K te Γ (.dat e) := e' ▸ h
theorem evt_is {a b : Bool} (h : EvT K tt Γ a) (e : a = b) : EvT K tt Γ b := e ▸ h

/-! ### operators on numbers and texts -/
theorem ev_bin {r : R2} {x y z : Ds} (ha : Ev K ta Γ x) (hb : Ev K tb Γ y) (hr : ∀ (G H : Hp) (u v : V), Same G H → VOk K G u x → VOk K G v y → ∀ Q : VK, (∀ w' G' H', Ext G H G' H' → VOk K G' w' z → Q w' H') → r u v H Q) :
    Ev K (tOp r ta tb) Γ z := fun G0 H0 G H σ E Q q =>
  ha G0 H0 G H σ E _ fun u G1 H1 e1 hu => hb G0 H0 G1 H1 σ (E.up e1) _ fun v G2 H2 e2 hv => hr G2 H2 u v e2.i (hu.up e2.g) hv Q fun w' G3 H3 e3 hw => q w' G3 H3 ((e1.trans e2).trans e3) hw
theorem ev_iI0 {g : Int → Int → Int} {i j : Int} (ha : Ev K ta Γ (.dat (.int i))) (hb : Ev K tb Γ (.dat (.int j))) : Ev K (tOp (rI0 fun i j => .int (g i j)) ta tb) Γ (.dat (.int (g i j))) :=
  ev_bin ha hb fun G H u v s hu hv Q q => by
    cases hu; cases hv
    exact ⟨i, j, rfl, rfl, q _ G H (Ext.refl s) (.int _)⟩
theorem ev_bI0 {g : Int → Int → Bool} {i j : Int} (ha : Ev K ta Γ (.dat (.int i))) (hb : Ev K tb Γ (.dat (.int j))) : Ev K (tOp (rI0 fun i j => .bl (g i j)) ta tb) Γ (.dat (.bool (g i j))) :=
  ev_bin ha hb fun G H u v s hu hv Q q => by
    cases hu; cases hv
    exact ⟨i, j, rfl, rfl, q _ G H (Ext.refl s) (.bl _)⟩
theorem ev_iI {C : Int → Int → Prop} {g : Int → Int → Int} {i j : Int} (ha : Ev K ta Γ (.dat (.int i))) (hb : Ev K tb Γ (.dat (.int j))) (hc : C i j) : Ev K (tOp (rI C fun i j => .int (g i j)) ta tb) Γ (.dat (.int (g i j))) :=
  ev_bin ha hb fun G H u v s hu hv Q q => by
    cases hu; cases hv
    exact ⟨i, j, rfl, rfl, hc, q _ G H (Ext.refl s) (.int _)⟩
/-- + of texts -/
def rAddStr : R2 := fun x y H Q => ∃ i j, x = .str i ∧ y = .str j ∧ i.length + j.length ≤ sizeLine ∧ Q (.str (i ++ j)) H
theorem op_addStr {X : Cx} : OpR X (binaryOp .Add) rAddStr := op_add_str
theorem ev_addStr {i j : Str} (ha : Ev K ta Γ (.dat (.str i))) (hb : Ev K tb Γ (.dat (.str j))) (hz : i.length + j.length ≤ sizeLine) : Ev K (tOp rAddStr ta tb) Γ (.dat (.str (i ++ j))) :=
  ev_bin ha hb fun G H u v s hu hv Q q => by
    cases hu; cases hv
    exact ⟨i, j, rfl, rfl, hz, q _ G H (Ext.refl s) (.str _)⟩
/-- == of flat things -/
def flatEq : PyData → PyData → Option Bool
  | .none, .none => some true
  | .none, .int _ => some false | .int _, .none => some false
  | .none, .bool _ => some false | .bool _, .none => some false
  | .none, .str _ => some false | .str _, .none => some false
  | .int i, .int j => some (decide (i = j))
  | .bool i, .bool j => some (decide (i = j))
  | .str i, .str j => some (decide (i = j))
  | .int _, .str _ => some false | .str _, .int _ => some false
  | .bool _, .str _ => some false | .str _, .bool _ => some false
  | _, _ => Option.none
theorem flat_eq {G : Hp} {u v : V} {b : Bool} (hu : Dr G u d) (hv : Dr G v e) (h : flatEq d e = some b) : scal u v = true ∧ decide (u = v) = b := by
  cases hu <;> cases hv <;> simp only [flatEq, Option.some.injEq, reduceCtorEq] at h <;> subst h <;> simp [scal]
theorem ev_eq {b : Bool} (ha : Ev K ta Γ (.dat d)) (hb : Ev K tb Γ (.dat e)) (h : flatEq d e = some b) : Ev K (tOp rEq ta tb) Γ (.dat (.bool b)) :=
  ev_bin ha hb fun G H u v s hu hv Q q => by
    obtain ⟨h1, h2⟩ := flat_eq hu hv h
    exact ⟨h1, by rw [h2]; exact q _ G H (Ext.refl s) (.bl _)⟩
theorem ev_ne {b : Bool} (ha : Ev K ta Γ (.dat d)) (hb : Ev K tb Γ (.dat e)) (h : flatEq d e = some b) : Ev K (tOp rNe ta tb) Γ (.dat (.bool (!b))) :=
  ev_bin ha hb fun G H u v s hu hv Q q => by
    obtain ⟨h1, h2⟩ := flat_eq hu hv h
    exact ⟨h1, by rw [h2]; exact q _ G H (Ext.refl s) (.bl _)⟩
/-- == of data -/
theorem ev_eqD (ha : Ev K ta Γ (.dat d)) (hb : Ev K tb Γ (.dat e)) (h1 : SeqAt.shaped d = true) (h2 : SeqAt.shaped e = true) : Ev K (tOp (rEqD K) ta tb) Γ (.dat (.bool (PyData.eqv d e))) :=
  ev_bin ha hb fun G H u v s hu hv Q q => ⟨d, e, (Dr.up hu s).dp, (Dr.up hv s).dp, h1, h2, q _ G H (Ext.refl s) (.bl _)⟩
theorem ev_neD (ha : Ev K ta Γ (.dat d)) (hb : Ev K tb Γ (.dat e)) (h1 : SeqAt.shaped d = true) (h2 : SeqAt.shaped e = true) : Ev K (tOp (rNeD K) ta tb) Γ (.dat (.bool (!PyData.eqv d e))) :=
  ev_bin ha hb fun G H u v s hu hv Q q => ⟨d, e, (Dr.up hu s).dp, (Dr.up hv s).dp, h1, h2, q _ G H (Ext.refl s) (.bl _)⟩
/-- x in a list of data -/
theorem ev_inD (ha : Ev K ta Γ (.dat d)) (hb : Ev K tb Γ (.dat (.list ds))) (h1 : SeqAt.shaped d = true) (h2 : SeqAt.shaped (.list ds) = true) : Ev K (tOp (rInD K) ta tb) Γ (.dat (.bool (ds.any fun z => PyData.eqv z d))) :=
  ev_bin ha hb fun G H u v s hu hv Q q => ⟨d, ds, (Dr.up hu s).dp, (Dr.up hv s).dp, h1, h2, q _ G H (Ext.refl s) (.bl _)⟩
theorem ev_ninD (ha : Ev K ta Γ (.dat d)) (hb : Ev K tb Γ (.dat (.list ds))) (h1 : SeqAt.shaped d = true) (h2 : SeqAt.shaped (.list ds) = true) : Ev K (tOp (rNotInD K) ta tb) Γ (.dat (.bool (!ds.any fun z => PyData.eqv z d))) :=
  ev_bin ha hb fun G H u v s hu hv Q q => ⟨d, ds, (Dr.up hu s).dp, (Dr.up hv s).dp, h1, h2, q _ G H (Ext.refl s) (.bl _)⟩

/-! ### tests -/
theorem evt_test {b : Bool} (h : Ev K te Γ (.dat (.bool b))) : EvT K (tTest te) Γ b := fun G0 H0 G H σ E Q q => h G0 H0 G H σ E _ fun v G1 H1 e hv => by
  cases hv
  exact ⟨b, rfl, q G1 H1 e⟩
theorem evt_B {b : Bool} (h : Ev K te Γ (.dat (.bool b))) : EvT K (tB te) Γ b := fun G0 H0 G H σ E Q q => h G0 H0 G H σ E _ fun v G1 H1 e hv => by
  cases hv
  exact ⟨b, rfl, q G1 H1 e⟩
theorem evt_yes : EvT K tYes Γ true := fun G0 H0 G H σ E Q q => q G H (Ext.refl E.s)
theorem evt_not {b : Bool} (h : EvT K tt Γ b) : EvT K (tNot tt) Γ (!b) := fun G0 H0 G H σ E Q q => h G0 H0 G H σ E _ fun G1 H1 e => q G1 H1 e
theorem evt_and {a b : Bool} (h1 : EvT K tt Γ a) (h2 : a = true → EvT K tu Γ b) : EvT K (tAnd tt tu) Γ (a && b) := fun G0 H0 G H σ E Q q => h1 G0 H0 G H σ E _ fun G1 H1 e => by
  cases a with
  | true => exact h2 rfl G0 H0 G1 H1 σ (E.up e) Q fun G2 H2 e2 => q G2 H2 (e.trans e2)
  | false => exact q G1 H1 e
theorem evt_or {a b : Bool} (h1 : EvT K tt Γ a) (h2 : a = false → EvT K tu Γ b) : EvT K (tOr tt tu) Γ (a || b) := fun G0 H0 G H σ E Q q => h1 G0 H0 G H σ E _ fun G1 H1 e => by
  cases a with
  | true => exact q G1 H1 e
  | false => exact h2 rfl G0 H0 G1 H1 σ (E.up e) Q fun G2 H2 e2 => q G2 H2 (e.trans e2)
theorem ev_andV {a b : Bool} (h1 : Ev K ta Γ (.dat (.bool a))) (h2 : a = true → Ev K tb Γ (.dat (.bool b))) : Ev K (tAndV ta tb) Γ (.dat (.bool (a && b))) := fun G0 H0 G H σ E Q q => h1 G0 H0 G H σ E _ fun v G1 H1 e hv => by
  cases hv
  refine ⟨a, rfl, ?_⟩
  cases a with
  | true => exact h2 rfl G0 H0 G1 H1 σ (E.up e) Q fun w' G2 H2 e2 hw => q w' G2 H2 (e.trans e2) hw
  | false => exact q _ G1 H1 e (.bl _)
theorem ev_orV {a b : Bool} (h1 : Ev K ta Γ (.dat (.bool a))) (h2 : a = false → Ev K tb Γ (.dat (.bool b))) : Ev K (tOrV ta tb) Γ (.dat (.bool (a || b))) := fun G0 H0 G H σ E Q q => h1 G0 H0 G H σ E _ fun v G1 H1 e hv => by
  cases hv
  refine ⟨a, rfl, ?_⟩
  cases a with
  | true => exact q _ G1 H1 e (.bl _)
  | false => exact h2 rfl G0 H0 G1 H1 σ (E.up e) Q fun w' G2 H2 e2 hw => q w' G2 H2 (e.trans e2) hw
theorem ev_notV {a : Bool} (h1 : Ev K ta Γ (.dat (.bool a))) : Ev K (tNotV ta) Γ (.dat (.bool (!a))) := fun G0 H0 G H σ E Q q => h1 G0 H0 G H σ E _ fun v G1 H1 e hv => by
  cases hv
  exact ⟨a, rfl, q _ G1 H1 e (.bl _)⟩
theorem ev_if {b : Bool} {x : Ds} (h : EvT K tt Γ b) (h1 : b = true → Ev K ta Γ x) (h2 : b = false → Ev K tb Γ x) : Ev K (tIf tt ta tb) Γ x := fun G0 H0 G H σ E Q q => h G0 H0 G H σ E _ fun G1 H1 e => by
  cases b with
  | true => exact h1 rfl G0 H0 G1 H1 σ (E.up e) Q fun w' G2 H2 e2 hw => q w' G2 H2 (e.trans e2) hw
  | false => exact h2 rfl G0 H0 G1 H1 σ (E.up e) Q fun w' G2 H2 e2 hw => q w' G2 H2 (e.trans e2) hw
/-- a < b < c -/
theorem ev_chain {r r' : R2} {a b : Bool} {x y z : Ds} {tc : TE} (ha : Ev K ta Γ x) (hb : Ev K tb Γ y) (hc : Ev K tc Γ z)
    (h1 : ∀ (G H : Hp) (u v : V), Same G H → VOk K G u x → VOk K G v y → ∀ Q : VK, Q (.bl a) H → r u v H Q) (h2 : ∀ (G H : Hp) (u v : V), Same G H → VOk K G u y → VOk K G v z → ∀ Q : VK, Q (.bl b) H → r' u v H Q) :
    Ev K (tChain r r' ta tb tc) Γ (.dat (.bool (a && b))) := fun G0 H0 G H σ E Q q =>
  ha G0 H0 G H σ E _ fun u G1 H1 e1 hu => hb G0 H0 G1 H1 σ (E.up e1) _ fun v G2 H2 e2 hv => h1 G2 H2 u v e2.i (hu.up e2.g) hv _ ⟨a, rfl, by
    cases a with
    | true => exact hc G0 H0 G2 H2 σ ((E.up e1).up e2) _ fun w' G3 H3 e3 hw => h2 G3 H3 v w' e3.i (hv.up e3.g) hw Q (q _ G3 H3 ((e1.trans e2).trans e3) (.bl _))
    | false => exact q _ G2 H2 (e1.trans e2) (.bl _)⟩
theorem bI0_at {g : Int → Int → Bool} {i j : Int} : ∀ (G H : Hp) (u v : V), Same G H → VOk K G u (.dat (.int i)) → VOk K G v (.dat (.int j)) → ∀ Q : VK, Q (.bl (g i j)) H → rI0 (fun i j => .bl (g i j)) u v H Q := fun G H u v s hu hv Q q => by
  cases hu; cases hv
  exact ⟨i, j, rfl, rfl, q⟩

/-! ### arguments, displays -/
theorem eva_nil : EvA K tNil Γ [] := fun G0 H0 G H σ E Q q => q [] G H (Ext.refl E.s) .nil
theorem eva_cons {tr : TA} {xs : List Ds} (h : Ev K te Γ x) (hr : EvA K tr Γ xs) : EvA K (tCons te tr) Γ (x :: xs) := fun G0 H0 G H σ E Q q =>
  h G0 H0 G H σ E _ fun v G1 H1 e1 hv => hr G0 H0 G1 H1 σ (E.up e1) _ fun vs G2 H2 e2 hvs => q (v :: vs) G2 H2 (e1.trans e2) (.cons (hv.up e2.g) hvs)
theorem vs_dats {G : Hp} : ∀ {ds : List PyData} {vs : List V}, VsOk K G vs (ds.map .dat) → DrAll G vs ds
  | [], _, h => by cases h; exact .nil
  | d :: ds, _, h => by
    cases h with
    | cons h1 h2 => exact .cons h1 (vs_dats h2)
theorem vs_len {G : Hp} {xs : List Ds} {vs : List V} (h : VsOk K G vs xs) : vs.length = xs.length := by
  induction h with
  | nil => rfl
  | cons _ _ ih => exact congrArg (· + 1) ih
def EvDs (K : PySem.W.Frag) (ta : TA) (Γ : List Ds) (ds : List PyData) : Prop := ∀ G0 H0 G H σ, En K G0 H0 G H σ Γ → ∀ Q : List V → Hp → Prop, (∀ vs G' H', Ext G H G' H' → DrAll G' vs ds → Q vs H') → ta σ H Q
theorem evd_nil : EvDs K tNil Γ [] := fun G0 H0 G H σ E Q q => q [] G H (Ext.refl E.s) .nil
theorem evd_cons {tr : TA} (h : Ev K te Γ (.dat d)) (hr : EvDs K tr Γ ds) : EvDs K (tCons te tr) Γ (d :: ds) := fun G0 H0 G H σ E Q q =>
  h G0 H0 G H σ E _ fun v G1 H1 e1 hv => hr G0 H0 G1 H1 σ (E.up e1) _ fun vs G2 H2 e2 hvs => q (v :: vs) G2 H2 (e1.trans e2) (.cons (Dr.up hv e2.g) hvs)
theorem sz {n : Nat} (h : Nat.ble n 1000 = true) : n ≤ sizeLine := Nat.le_trans (Nat.le_of_ble_eq_true h) (by decide)
theorem ev_tup {t : TA} (h : EvDs K t Γ ds) (hz : Nat.ble ds.length 1000 = true) : Ev K (tTupF t) Γ (.dat (.tuple ds)) := fun G0 H0 G H σ E Q q =>
  h G0 H0 G H σ E _ fun vs G1 H1 e hv => ⟨by rw [hv.len]; exact sz hz, fun p o hp ho => q _ _ _ (e.trans (Ext.new e.i hp)) (.tup (Tp.new ho) (hv.up (same_up (e.i.free hp))))⟩
theorem ev_lst {t : TA} (h : EvDs K t Γ ds) (hz : Nat.ble ds.length 1000 = true) : Ev K (tLst t) Γ (.dat (.list ds)) := fun G0 H0 G H σ E Q q =>
  h G0 H0 G H σ E _ fun vs G1 H1 e hv => ⟨by rw [hv.len]; exact sz hz, fun p hp => q _ _ _ (e.trans (Ext.new e.i hp)) (.lst upd_same (hv.up (same_up (e.i.free hp))))⟩

/-! ### sequences -/
theorem evs_dat (h : Ev K te Γ (.dat (.list ds))) : EvS K te Γ ds := fun G0 H0 G H σ E Q q => h G0 H0 G H σ E _ fun v G1 H1 e hv => by
  cases hv with
  | lst ha hs => exact q _ _ G1 H1 e (e.i _ _ ha) hs
theorem evs_own {i : Nat} (h : Γ[i]? = some (.own ds)) : EvS K (tVar i) Γ ds := fun G0 H0 G H σ E Q q => by
  obtain ⟨ov, h1, a, vs, rfl, e2, e3, e4, e5⟩ := E.ok i _ h
  exact ⟨_, h1, q a vs G H (Ext.refl E.s) e2 e3⟩
theorem ev_ixT {i : Int} (h : Ev K te Γ (.dat (.tuple ds))) (hi : Ev K ti Γ (.dat (.int i))) (ha : atI ds i = some d) : Ev K (tOp (rIxT K) te ti) Γ (.dat d) :=
  ev_bin h hi fun G H u v s hu hv Q q => by
    cases hv
    cases hu with
    | tup hp hs =>
      unfold atI at ha
      cases hx : ixN ds.length i with
      | none => rw [hx] at ha; cases ha
      | some j =>
        rw [hx] at ha
        obtain ⟨w', h1, h2⟩ := hs.get ha
        refine ⟨_, _, i, w', rfl, rfl, (hp.up s).sq, ?_, q _ G H (Ext.refl s) h2⟩
        unfold atI
        rw [hs.len, hx]
        exact h1
theorem ev_ixL {i : Int} (h : EvS K te Γ ds) (hi : Ev K ti Γ (.dat (.int i))) (ha : atI ds i = some d) : Ev K (tOp (rIxL K) te ti) Γ (.dat d) := fun G0 H0 G H σ E Q q =>
  h G0 H0 G H σ E _ fun a vs G1 H1 e1 hp hs => hi G0 H0 G1 H1 σ (E.up e1) _ fun v G2 H2 e2 hv => by
    cases hv
    unfold atI at ha
    cases hx : ixN ds.length i with
    | none => rw [hx] at ha; cases ha
    | some j =>
      rw [hx] at ha
      obtain ⟨w', h1, h2⟩ := hs.get ha
      refine ⟨a, vs, i, w', rfl, rfl, SqL.of (e2.h _ _ hp), ?_, q _ G2 H2 (e1.trans e2) (h2.up e2.g)⟩
      unfold atI
      rw [hs.len, hx]
      exact h1
theorem atI_map {α β : Type} (f : α → β) {xs : List α} {i : Int} {z : α} (h : atI xs i = some z) : atI (xs.map f) i = some (f z) := by
  unfold atI at h ⊢
  rw [List.length_map]
  cases hx : ixN xs.length i with
  | none => rw [hx] at h; cases h
  | some j =>
    rw [hx] at h
    have h : xs[j]? = some z := h
    show (xs.map f)[j]? = some (f z)
    rw [List.getElem?_map, h]
    rfl
theorem ev_ixR {i z : Int} {ns : List Int} (h : Ev K te Γ (.scr ns)) (hi : Ev K ti Γ (.dat (.int i))) (ha : atI ns i = some z) : Ev K (tOp (rIxL K) te ti) Γ (.dat (.int z)) :=
  ev_bin h hi fun G H u v s hu hv Q q => by
    cases hv
    obtain ⟨a, rfl, hs⟩ := hu
    exact ⟨a, _, i, _, rfl, rfl, s.seq hs, atI_map _ ha, q _ G H (Ext.refl s) (.int _)⟩
theorem ev_ixS {i : Int} {z : Str} {c : Nat} (h : Ev K te Γ (.dat (.str z))) (hi : Ev K ti Γ (.dat (.int i))) (hz : z.length ≤ sizeLine) (ha : atI z.cps.toList i = some c) : Ev K (tOp rIxS te ti) Γ (.dat (.str ⟨#[c]⟩)) :=
  ev_bin h hi fun G H u v s hu hv Q q => by
    cases hv
    cases hu
    exact ⟨z, i, c, rfl, rfl, hz, ha, q _ G H (Ext.refl s) (.str _)⟩
/-- list + list -/
theorem ev_cat {xs ys : List PyData} (h : EvS K ta Γ xs) (h' : EvS K tb Γ ys) (hz : xs.length + ys.length ≤ sizeLine) : Ev K (tOp rCat ta tb) Γ (.dat (.list (xs ++ ys))) := fun G0 H0 G H σ E Q q =>
  h G0 H0 G H σ E _ fun a vs G1 H1 e1 hp hs => h' G0 H0 G1 H1 σ (E.up e1) _ fun b ws G2 H2 e2 hp' hs' =>
    ⟨a, b, vs, ws, rfl, rfl, e2.h _ _ hp, hp', by rw [hs.len, hs'.len]; exact hz, fun p np => q _ _ _ ((e1.trans e2).trans (Ext.new e2.i np)) (.lst upd_same (((hs.up e2.g).app hs').up (same_up (e2.i.free np))))⟩
theorem nil_len {G : Hp} {vs : List V} (h : DrAll G vs ds) (e : vs = []) : ds = [] := by
  subst e
  cases h
  rfl
theorem cons_len {G : Hp} {vs : List V} (h : DrAll G vs ds) (e : vs ≠ []) : ds ≠ [] := by
  rintro rfl
  cases h
  exact e rfl
/-- tuple + tuple -/
theorem ev_catT {xs ys : List PyData} (h : Ev K ta Γ (.dat (.tuple xs))) (h' : Ev K tb Γ (.dat (.tuple ys))) (hz : xs.length + ys.length ≤ sizeLine) : Ev K (tOp (rCatF K) ta tb) Γ (.dat (.tuple (xs ++ ys))) :=
  ev_bin h h' fun G H u v s hu hv Q q => by
    cases hu with
    | tup hp hs =>
      rename_i a vs
      cases hv with
      | tup hp' hs' =>
        rename_i b ws
        refine ⟨a, b, vs, ws, rfl, rfl, (hp.up s).sq, (hp'.up s).sq, by rw [hs.len, hs'.len]; exact hz, fun e => ?_, fun _ e => ?_, fun _ _ p o np ho => ?_⟩
        · have e1 := nil_len hs e
          subst e1
          exact q _ G H (Ext.refl s) (.tup hp' hs')
        · have e1 := nil_len hs' e
          subst e1
          exact q _ G H (Ext.refl s) (by rw [List.append_nil]; exact .tup hp hs)
        · exact q _ _ _ (Ext.new s np) (.tup (Tp.new ho) ((hs.app hs').up (same_up (s.free np))))
def cutD (xs : List PyData) (lo hi : Option Int) : List PyData := (xs.drop (HT.sIx xs.length 0 lo)).take (HT.sIx xs.length xs.length hi - HT.sIx xs.length 0 lo)
theorem cut_dr {G : Hp} {vs : List V} {lo hi : Option Int} (h : DrAll G vs ds) : DrAll G (cutV vs lo hi) (cutD ds lo hi) := by
  unfold cutV cutD
  rw [h.len]
  exact (h.drop _).take _
def EvO (K : PySem.W.Frag) (to : TO) (Γ : List Ds) (o : Option Int) : Prop := ∀ G0 H0 G H σ, En K G0 H0 G H σ Γ → ∀ Q : Option Int → Hp → Prop, (∀ G' H', Ext G H G' H' → Q o H') → to σ H Q
theorem evo_none : EvO K tNoPart Γ none := fun G0 H0 G H σ E Q q => q G H (Ext.refl E.s)
theorem evo_some {i : Int} (h : Ev K te Γ (.dat (.int i))) : EvO K (tPart te) Γ (some i) := fun G0 H0 G H σ E Q q => h G0 H0 G H σ E _ fun v G1 H1 e hv => by
  cases hv
  exact ⟨i, rfl, q G1 H1 e⟩
theorem ev_slT {to th : TO} {lo hi : Option Int} (h : Ev K te Γ (.dat (.tuple ds))) (h1 : EvO K to Γ lo) (h2 : EvO K th Γ hi) : Ev K (tSl (rSlF K) te to th) Γ (.dat (.tuple (cutD ds lo hi))) := fun G0 H0 G H σ E Q q =>
  h G0 H0 G H σ E _ fun v G1 H1 e1 hv => h1 G0 H0 G1 H1 σ (E.up e1) _ fun G2 H2 e2 => h2 G0 H0 G2 H2 σ ((E.up e1).up e2) _ fun G3 H3 e3 => by
    have hv' := Dr.up hv (e2.trans e3).g
    have s := e3.i
    have ee := (e1.trans e2).trans e3
    cases hv' with
    | tup hp hs =>
      rename_i a vs
      refine ⟨a, vs, rfl, (hp.up s).sq, fun hw => ?_, fun _ p o np ho => ?_⟩
      · have e : cutD ds lo hi = ds := by
          unfold cutD
          rw [hs.len] at hw
          rw [hw.1, hw.2, Nat.sub_zero, List.drop_zero, List.take_length]
        exact q _ G3 H3 ee (by rw [e]; exact .tup hp hs)
      · exact q _ _ _ (ee.trans (Ext.new s np)) (.tup (Tp.new ho) ((cut_dr hs).up (same_up (s.free np))))
theorem ev_slL {to th : TO} {lo hi : Option Int} (h : EvS K te Γ ds) (h1 : EvO K to Γ lo) (h2 : EvO K th Γ hi) : Ev K (tSl (rSlL K) te to th) Γ (.dat (.list (cutD ds lo hi))) := fun G0 H0 G H σ E Q q =>
  h G0 H0 G H σ E _ fun a vs G1 H1 e1 hp hs => h1 G0 H0 G1 H1 σ (E.up e1) _ fun G2 H2 e2 => h2 G0 H0 G2 H2 σ ((E.up e1).up e2) _ fun G3 H3 e3 => by
    have s := e3.i
    have ee := (e1.trans e2).trans e3
    refine ⟨a, vs, rfl, SqL.of ((e2.trans e3).h _ _ hp), fun p np => ?_⟩
    exact q _ _ _ (ee.trans (Ext.new s np)) (.lst upd_same ((cut_dr (hs.up (e2.trans e3).g)).up (same_up (s.free np))))
def cutI (xs : List Int) (lo hi : Option Int) : List Int := (xs.drop (HT.sIx xs.length 0 lo)).take (HT.sIx xs.length xs.length hi - HT.sIx xs.length 0 lo)
theorem cut_ints {ns : List Int} {lo hi : Option Int} : cutV (ns.map V.int) lo hi = (cutI ns lo hi).map V.int := by
  unfold cutV cutI
  rw [List.length_map, ← List.map_drop, ← List.map_take]
theorem ev_slR {to th : TO} {lo hi : Option Int} {ns : List Int} (h : Ev K te Γ (.scr ns)) (h1 : EvO K to Γ lo) (h2 : EvO K th Γ hi) : Ev K (tSl (rSlL K) te to th) Γ (.dat (.list ((cutI ns lo hi).map .int))) := fun G0 H0 G H σ E Q q =>
  h G0 H0 G H σ E _ fun v G1 H1 e1 hv => h1 G0 H0 G1 H1 σ (E.up e1) _ fun G2 H2 e2 => h2 G0 H0 G2 H2 σ ((E.up e1).up e2) _ fun G3 H3 e3 => by
    obtain ⟨a, rfl, hs⟩ := hv
    have s := e3.i
    have ee := (e1.trans e2).trans e3
    refine ⟨a, _, rfl, s.seq ((e2.trans e3).g.seq hs), fun p np => ?_⟩
    rw [cut_ints]
    exact q _ _ _ (ee.trans (Ext.new s np)) (.lst upd_same (drs_ints _))
theorem ev_slS {to th : TO} {lo hi : Option Int} {z : Str} (h : Ev K te Γ (.dat (.str z))) (h1 : EvO K to Γ lo) (h2 : EvO K th Γ hi) (hz : z.length ≤ sizeLine) : Ev K (tSl rSlS te to th) Γ (.dat (.str (cutS z lo hi))) := fun G0 H0 G H σ E Q q =>
  h G0 H0 G H σ E _ fun v G1 H1 e1 hv => h1 G0 H0 G1 H1 σ (E.up e1) _ fun G2 H2 e2 => h2 G0 H0 G2 H2 σ ((E.up e1).up e2) _ fun G3 H3 e3 => by
    cases hv
    exact ⟨z, rfl, hz, q _ G3 H3 ((e1.trans e2).trans e3) (.str _)⟩
end
end Fw
namespace Fw
open PySem PySem.Spec L2
section
variable {K : PySem.W.Frag} {Γ Γ' Γ1 Γ2 : List Ds} {x y : Ds} {d e : PyData} {ds es : List PyData} {ta tb te tl ti tx : TE} {tt tu tw : TT}

/-! ### calls of pure defs -/
/-- the promise of a def that changes nothing: Pr tells what it gives at which arguments -/
def spP (K : PySem.W.Frag) (Pr : List Ds → PyData → Prop) : Sp := fun vs H Q _ => ∃ G xs d, Same G H ∧ VsOk K G vs xs ∧ Pr xs d ∧ ∀ v G' H', Ext G H G' H' → Dr G' v d → Q v H'
theorem ev_call {Pr : List Ds → PyData → Prop} {E : XK} {t : TA} {xs : List Ds} (h : EvA K t Γ xs) (hp : Pr xs d) : Ev K (tCall (spP K Pr) [] E t) Γ (.dat d) := fun G0 H0 G H σ Ee Q q =>
  h G0 H0 G H σ Ee _ fun vs G1 H1 e1 hv => by
    rw [List.append_nil]
    exact ⟨G1, xs, d, e1.i, hv, hp, fun v G2 H2 e2 h2 => q v G2 H2 (e1.trans e2) h2⟩

/-! ### built-ins -/
def rLen (K : PySem.W.Frag) : List V → Hp → VK → Prop := fun xs H Q => ∃ x n, xs = [x] ∧ LenV K x H n ∧ Q (.int n) H
def tTruth (K : PySem.W.Frag) (ta : TE) : TT := fun σ H Q => ta σ H fun x H' => ∃ k, TruV K x H' k ∧ Q k H'
def tJoin (K : PySem.W.Frag) (to te : TE) : TE := tM1 (fun x xs H Q => ∃ a p, ∃ ys : List Str, x = .str a ∧ xs = [.ref p] ∧ (SqL K H p (ys.map V.str) ∨ SqT K H p (ys.map V.str)) ∧
      (ys.map (·.length)).sum + ys.length * a.length ≤ 16777216 ∧ Q (.str (Txt.join a ys)) H) to te
theorem ev_len {t : TE} {n : Nat} {x : Ds} (h : Ev K t Γ x) (hl : ∀ (G H : Hp) (v : V), Same G H → VOk K G v x → LenV K v H n) :
    Ev K (tCB (rLen K) (tCons t tNil)) Γ (.dat (.int (n : Int))) := fun G0 H0 G H σ E Q q =>
  h G0 H0 G H σ E _ fun v G1 H1 e1 hv => ⟨v, n, rfl, hl G1 H1 v e1.i hv, q _ G1 H1 e1 (.int _)⟩
theorem len_list : ∀ (G H : Hp) (v : V), Same G H → VOk K G v (.dat (.list ds)) → LenV K v H ds.length := fun G H v s h => by
  cases h with
  | lst ha hs => exact .inl ⟨_, SqL.of (s _ _ ha), hs.len.symm⟩
theorem len_tup : ∀ (G H : Hp) (v : V), Same G H → VOk K G v (.dat (.tuple ds)) → LenV K v H ds.length := fun G H v s h => by
  cases h with
  | tup ha hs => exact .inr ⟨_, (ha.up s).sq, hs.len.symm⟩
theorem len_scr {ns : List Int} : ∀ (G H : Hp) (v : V), Same G H → VOk K G v (.scr ns) → LenV K v H ns.length := fun G H v s h => by
  obtain ⟨a, rfl, h⟩ := h
  exact .inl ⟨_, s.seq h, (List.length_map _).symm⟩
theorem len_str {z : Str} (hz : z.length ≤ sizeLine) : ∀ (G H : Hp) (v : V), Same G H → VOk K G v (.dat (.str z)) → LenV K v H z.length := fun G H v s h => by
  cases h
  exact ⟨hz, rfl⟩
theorem ev_lenO {i : Nat} (h : Γ[i]? = some (.own ds)) : Ev K (tCB (rLen K) (tCons (tVar i) tNil)) Γ (.dat (.int (ds.length : Nat))) := fun G0 H0 G H σ E Q q => by
  obtain ⟨ov, h1, a, vs, rfl, e2, e3, e4, e5⟩ := E.ok i _ h
  exact ⟨_, h1, _, _, rfl, .inl ⟨_, SqL.of e2, e3.len.symm⟩, q _ G H (Ext.refl E.s) (.int _)⟩
theorem ev_all {bs : List Bool} {t : TE} (h : EvS K t Γ (bs.map .bool)) : Ev K (tCB (rAll K) (tCons t tNil)) Γ (.dat (.bool (bs.all id))) := fun G0 H0 G H σ E Q q =>
  h G0 H0 G H σ E _ fun a vs G1 H1 e1 hp hs => ⟨a, bs, rfl, by rw [← hs.bls]; exact SqL.of hp, q _ G1 H1 e1 (.bl _)⟩
theorem ev_any {bs : List Bool} {t : TE} (h : EvS K t Γ (bs.map .bool)) : Ev K (tCB (rAny K) (tCons t tNil)) Γ (.dat (.bool (bs.any id))) := fun G0 H0 G H σ E Q q =>
  h G0 H0 G H σ E _ fun a vs G1 H1 e1 hp hs => ⟨a, bs, rfl, by rw [← hs.bls]; exact SqL.of hp, q _ G1 H1 e1 (.bl _)⟩
def rInt1 : List V → Hp → VK → Prop := fun xs H Q => (∃ i, xs = [.int i] ∧ Q (.int i) H) ∨ ∃ k, xs = [.bl k] ∧ Q (.int (if k then 1 else 0)) H
theorem cr_int1 {X : Cx} : CallR X (.type "int") rInt1 := call_int1
theorem ev_intB {b : Bool} {t : TE} (h : Ev K t Γ (.dat (.bool b))) : Ev K (tCB rInt1 (tCons t tNil)) Γ (.dat (.int (if b then 1 else 0))) := fun G0 H0 G H σ E Q q =>
  h G0 H0 G H σ E _ fun v G1 H1 e1 hv => by
    cases hv
    exact .inr ⟨b, rfl, q _ G1 H1 e1 (.int _)⟩
def rMax2 : List V → Hp → VK → Prop := fun xs H Q => ∃ i j, xs = [.int i, .int j] ∧ Q (.int (if j > i then j else i)) H
theorem cr_max2 {X : Cx} (hc : X.calm = true) : CallR X (.builtin "max") rMax2 := call_max2 hc
theorem ite_max (i j : Int) : (if j > i then j else i) = max i j := by
  by_cases h : j > i
  · rw [if_pos h]; omega
  · rw [if_neg h]; omega
theorem ev_max2 {i j : Int} (ha : Ev K ta Γ (.dat (.int i))) (hb : Ev K tb Γ (.dat (.int j))) : Ev K (tCB rMax2 (tCons ta (tCons tb tNil))) Γ (.dat (.int (max i j))) := fun G0 H0 G H σ E Q q =>
  ha G0 H0 G H σ E _ fun u G1 H1 e1 hu => hb G0 H0 G1 H1 σ (E.up e1) _ fun v G2 H2 e2 hv => by
    cases hu; cases hv
    exact ⟨i, j, rfl, by rw [ite_max]; exact q _ G2 H2 (e1.trans e2) (.int _)⟩
theorem ev_maxL {ns : List Int} {m : Int} {t : TE} (h : EvS K t Γ (ns.map .int)) (h0 : ns ≠ []) (hm : ∀ m', m' ∈ ns → (∀ y ∈ ns, y ≤ m') → m' = m) : Ev K (tCB (rMax K) (tCons t tNil)) Γ (.dat (.int m)) := fun G0 H0 G H σ E Q q =>
  h G0 H0 G H σ E _ fun a vs G1 H1 e1 hp hs => ⟨a, ns, rfl, by rw [← hs.ints]; exact SqL.of hp, List.length_pos_iff.mpr h0, fun m' h1 h2 => by
    rw [hm m' h1 h2]
    exact q _ G1 H1 e1 (.int _)⟩
theorem ev_tupL {t : TE} (h : EvS K t Γ ds) : Ev K (tCB (rTupF K) (tCons t tNil)) Γ (.dat (.tuple ds)) := fun G0 H0 G H σ E Q q =>
  h G0 H0 G H σ E _ fun a vs G1 H1 e1 hp hs => ⟨a, vs, rfl, .inl ⟨SqL.of hp, fun l o nl ho => q _ _ _ (e1.trans (Ext.new e1.i nl)) (.tup (Tp.new ho) (hs.up (same_up (e1.i.free nl))))⟩⟩
theorem ev_tupT {t : TE} (h : Ev K t Γ (.dat (.tuple ds))) : Ev K (tCB (rTupF K) (tCons t tNil)) Γ (.dat (.tuple ds)) := fun G0 H0 G H σ E Q q =>
  h G0 H0 G H σ E _ fun v G1 H1 e1 hv => by
    have hv' := hv
    cases hv with
    | tup ha hs => exact ⟨_, _, rfl, .inr ⟨(ha.up e1.i).sq, q _ G1 H1 e1 hv'⟩⟩
def rListOf (K : PySem.W.Frag) : List V → Hp → VK → Prop := fun xs H Q => ∃ p ys, xs = [.ref p] ∧ (SqL K H p ys ∨ SqT K H p ys) ∧ ∀ l, H l = none → Q (.ref l) (upd H l (.lst ys))
theorem cr_listOf {X : Cx} : CallR X (.type "list") (rListOf X.K) := call_list_of
theorem ev_listL {t : TE} (h : EvS K t Γ ds) : Ev K (tCB (rListOf K) (tCons t tNil)) Γ (.dat (.list ds)) := fun G0 H0 G H σ E Q q =>
  h G0 H0 G H σ E _ fun a vs G1 H1 e1 hp hs => ⟨a, vs, rfl, .inl (SqL.of hp), fun l nl => q _ _ _ (e1.trans (Ext.new e1.i nl)) (.lst upd_same (hs.up (same_up (e1.i.free nl))))⟩
theorem ev_listT {t : TE} (h : Ev K t Γ (.dat (.tuple ds))) : Ev K (tCB (rListOf K) (tCons t tNil)) Γ (.dat (.list ds)) := fun G0 H0 G H σ E Q q =>
  h G0 H0 G H σ E _ fun v G1 H1 e1 hv => by
    cases hv with
    | tup ha hs => exact ⟨_, _, rfl, .inr (ha.up e1.i).sq, fun l nl => q _ _ _ (e1.trans (Ext.new e1.i nl)) (.lst upd_same (hs.up (same_up (e1.i.free nl))))⟩
theorem ev_listR {t : TE} {ns : List Int} (h : Ev K t Γ (.scr ns)) : Ev K (tCB (rListOf K) (tCons t tNil)) Γ (.dat (.list (ns.map .int))) := fun G0 H0 G H σ E Q q =>
  h G0 H0 G H σ E _ fun v G1 H1 e1 hv => by
    obtain ⟨a, rfl, hs⟩ := hv
    exact ⟨a, _, rfl, .inl (e1.i.seq hs), fun l nl => q _ _ _ (e1.trans (Ext.new e1.i nl)) (.lst upd_same (drs_ints _))⟩

/-! ### targets -/
theorem wipe_set {σ : St} {j : Nat} {x : Option V} : ∀ {vs : List Nat}, j ∈ vs → wipe (σ.set j x) vs = wipe σ vs
  | [], h => by cases h
  | v :: vs, h => by
    show (wipe (σ.set j x) vs).set v none = (wipe σ vs).set v none
    by_cases hj : j ∈ vs
    · rw [wipe_set hj]
    · have e : j = v := by
        rcases List.mem_cons.mp h with h | h
        · exact h
        · exact absurd h hj
      subst e
      have key : ∀ {ws : List Nat}, j ∉ ws → wipe (σ.set j x) ws = (wipe σ ws).set j x := by
        intro ws
        induction ws with
        | nil => intro _; rfl
        | cons w' ws ih =>
          intro hw
          have h1 : j ≠ w' := fun e => hw (e ▸ List.mem_cons_self)
          have h2 : j ∉ ws := fun e => hw (List.mem_cons_of_mem _ e)
          show (wipe (σ.set j x) ws).set w' none = ((wipe σ ws).set w' none).set j x
          rw [ih h2, List.set_comm _ _ h1]
      rw [key hj, List.set_set]
theorem wipe_in {σ : St} {v : Nat} : ∀ {vs : List Nat}, v ∈ vs → (wipe σ vs).set v none = wipe σ vs
  | [], h => by cases h
  | w' :: vs, h => by
    show ((wipe σ vs).set w' none).set v none = (wipe σ vs).set w' none
    by_cases e : w' = v
    · subst e
      rw [List.set_set]
    · have h2 : v ∈ vs := by
        rcases List.mem_cons.mp h with h | h
        · exact absurd h.symm e
        · exact h
      rw [List.set_comm _ _ e, wipe_in h2]
theorem wipe_wipe {σ : St} {vs : List Nat} : ∀ {ws : List Nat}, (∀ v ∈ ws, v ∈ vs) → wipe (wipe σ vs) ws = wipe σ vs
  | [], _ => rfl
  | w' :: ws, h => by
    show (wipe (wipe σ vs) ws).set w' none = wipe σ vs
    rw [wipe_wipe fun v hv => h v (List.mem_cons_of_mem _ hv)]
    exact wipe_in (h w' List.mem_cons_self)
theorem wipe_len (σ : St) : ∀ vs : List Nat, (wipe σ vs).length = σ.length
  | [] => rfl
  | v :: vs => by
    show ((wipe σ vs).set v none).length = _
    rw [List.length_set, wipe_len σ vs]
def wipeD (Γ : List Ds) : List Nat → List Ds
  | [] => Γ
  | v :: vs => (wipeD Γ vs).set v .any
theorem wipeD_len (Γ : List Ds) : ∀ vs : List Nat, (wipeD Γ vs).length = Γ.length
  | [] => rfl
  | v :: vs => by
    show ((wipeD Γ vs).set v .any).length = _
    rw [List.length_set, wipeD_len Γ vs]
theorem En.unset {G0 H0 G H : Hp} {σ : St} {i : Nat} (E : En K G0 H0 G H σ Γ) : En K G0 H0 G H (σ.set i none) (Γ.set i .any) where
  x := E.x
  l := by rw [List.length_set, List.length_set]; exact E.l
  ok := fun j D hj => by
    by_cases hij : i = j
    · subst hij
      have hl : i < Γ.length := by
        have := (List.getElem?_eq_some_iff.mp hj).1
        rwa [List.length_set] at this
      rw [List.getElem?_set_self hl] at hj
      cases hj
      exact ⟨none, List.getElem?_set_self (by rw [E.l]; exact hl), trivial⟩
    · rw [List.getElem?_set_ne hij] at hj ⊢
      exact E.ok j D hj
  ap := fun a b D F p h1 h2 h3 h4 h5 h6 => by
    have key : ∀ c D, (Γ.set i .any)[c]? = some D → isOwn D = true → i ≠ c := fun c D hc ho e => by
      subst e
      have hl : i < Γ.length := by
        have := (List.getElem?_eq_some_iff.mp hc).1
        rwa [List.length_set] at this
      rw [List.getElem?_set_self hl] at hc
      cases hc
      cases ho
    have n1 := key a D h1 h2
    have n2 := key b F h3 h4
    rw [List.getElem?_set_ne n1] at h1 h5
    rw [List.getElem?_set_ne n2] at h3 h6
    exact E.ap a b D F p h1 h2 h3 h4 h5 h6
theorem En.wipe {G0 H0 G H : Hp} {σ : St} (E : En K G0 H0 G H σ Γ) : ∀ vs : List Nat, En K G0 H0 G H (wipe σ vs) (wipeD Γ vs)
  | [] => E
  | v :: vs => (En.wipe E vs).unset
theorem evg_name {j : Nat} : EvG K RvD (gName j) Γ d [j] (Γ.set j (.dat d)) := fun G0 H0 G H σ v E hv Q q =>
  q _ (E.set hv) fun vs hj => wipe_set (hj j List.mem_cons_self)
/-- targets in a row -/
def EvGs (K : PySem.W.Frag) (g : TGs) (Γ : List Ds) (ds : List PyData) (js : List Nat) (Γ1 : List Ds) : Prop := ∀ G0 H0 G H σ vs, En K G0 H0 G H σ Γ → DrAll G vs ds → ∀ Q : St → Hp → Prop,
  (∀ σ', En K G0 H0 G H σ' Γ1 → (∀ ws : List Nat, (∀ j ∈ js, j ∈ ws) → L2.wipe σ' ws = L2.wipe σ ws) → Q σ' H) → g vs σ H Q
theorem evgs_nil : EvGs K gNil Γ [] [] Γ := fun G0 H0 G H σ vs E hv Q q => by
  cases hv
  exact ⟨rfl, q σ E fun _ _ => rfl⟩
theorem evgs_cons {g : TG} {gs : TGs} {js ks : List Nat} (h : EvG K RvD g Γ d js Γ1) (hr : EvGs K gs Γ1 ds ks Γ2) : EvGs K (gCons g gs) Γ (d :: ds) (js ++ ks) Γ2 := fun G0 H0 G H σ vs E hv Q q => by
  cases hv with
  | cons h1 h2 =>
    refine ⟨_, _, rfl, h G0 H0 G H σ _ E h1 _ fun σ1 E1 w1 => hr G0 H0 G H σ1 _ E1 h2 _ fun σ2 E2 w2 => q σ2 E2 fun ws hw => ?_⟩
    rw [w2 ws fun j hj => hw j (List.mem_append_right _ hj), w1 ws fun j hj => hw j (List.mem_append_left _ hj)]
theorem evg_tup {g : TGs} {n : Nat} {js : List Nat} (h : EvGs K g Γ ds js Γ1) (hn : ds.length = n) : EvG K RvD (gTup K n g) Γ (.tuple ds) js Γ1 := fun G0 H0 G H σ v E hv Q q => by
  cases hv with
  | tup ha hs => exact ⟨_, _, rfl, (ha.up E.s).sq, by rw [hs.len]; exact hn, h G0 H0 G H σ _ E hs Q q⟩
theorem evg_tupP {g : TGs} {n : Nat} {js : List Nat} (h : EvGs K g Γ ds js Γ1) (hn : ds.length = n) : EvG K (RvP K) (gTup K n g) Γ (.tuple ds) js Γ1 := fun G0 H0 G H σ v E hv Q q => by
  obtain ⟨a, vs, es, rfl, e, hs, hd⟩ := hv
  cases e
  exact ⟨_, _, rfl, hs, by rw [hd.len]; exact hn, h G0 H0 G H σ _ E hd Q q⟩

/-! ### what is walked -/
theorem yd_at {G G' H : Hp} {a : Addr} {vs : List V} {i : Nat} (hs : DrAll G vs ds) : ∀ H1 v H2, YAt vs i H1 v H2 → YD RvD G ds i H1 v H2 := fun H1 v H2 h G1 e1 e2 => by
  obtain ⟨rfl, hv⟩ := h
  obtain ⟨d, h1, h2⟩ := hs.of hv
  exact ⟨G1, d, Ext.refl e2, h1, h2.up e1⟩
theorem evi_list (h : Ev K tl Γ (.dat (.list ds))) : EvI K RvD (iList K tl) Γ ds := fun G0 H0 G H σ E R r => h G0 H0 G H σ E _ fun v G1 H1 e1 hv => by
  cases hv with
  | lst ha hs =>
    refine ⟨_, rfl, ⟨_, SqL.of (e1.i _ _ ha)⟩, r _ G1 H1 e1 ?_⟩
    rw [← hs.len]
    exact walk_list.mono (fun H' s => SqL.of (s _ _ ha)) fun i H' x H'' _ s y => yd_at (G' := G1) (H := H1) (a := 0) hs _ _ _ y
theorem evi_tup (h : Ev K tl Γ (.dat (.tuple ds))) : EvI K RvD (iTup K tl) Γ ds := fun G0 H0 G H σ E R r => h G0 H0 G H σ E _ fun v G1 H1 e1 hv => by
  cases hv with
  | tup ha hs =>
    refine ⟨_, rfl, ⟨_, (ha.up e1.i).sq⟩, r _ G1 H1 e1 ?_⟩
    rw [← hs.len]
    exact walk_tup.mono (fun H' s => (ha.up s).sq) fun i H' x H'' _ s y => yd_at (G' := G1) (H := H1) (a := 0) hs _ _ _ y
theorem evi_scr {ns : List Int} (h : Ev K tl Γ (.scr ns)) : EvI K RvD (iList K tl) Γ (ns.map .int) := fun G0 H0 G H σ E R r => h G0 H0 G H σ E _ fun v G1 H1 e1 hv => by
  obtain ⟨a, rfl, hs⟩ := hv
  refine ⟨_, rfl, ⟨_, e1.i.seq hs⟩, r _ G1 H1 e1 ?_⟩
  rw [List.length_map, ← List.length_map (f := V.int)]
  exact walk_list.mono (fun H' s => s.seq hs) fun i H' x H'' _ s y => yd_at (G' := G1) (H := H1) (a := 0) (drs_ints ns) _ _ _ y
def rangeD (lo : Int) (n : Nat) : List PyData := (List.range n).map fun i => .int (lo + (i : Nat))
theorem rangeD_len {lo : Int} {n : Nat} : (rangeD lo n).length = n := by
  unfold rangeD
  rw [List.length_map, List.length_range]
theorem rangeD_get {lo : Int} {n i : Nat} (h : i < n) : (rangeD lo n)[i]? = some (.int (lo + (i : Nat))) := by
  unfold rangeD
  rw [List.getElem?_map, List.getElem?_range h]
  rfl
theorem walk_rd {G : Hp} {lo : Int} {n : Nat} : Walk (Itr lo n) (rangeD lo n).length (fun H1 => Same G H1) (YD RvD G (rangeD lo n)) := by
  rw [rangeD_len]
  refine walk_range.mono (fun _ _ => trivial) fun i H' x H'' hi s y G1 e1 e2 => ?_
  obtain ⟨rfl, rfl⟩ := y
  exact ⟨G1, _, Ext.refl e2, rangeD_get hi, .int _⟩
theorem evi_range1 {n : Int} (h : Ev K te Γ (.dat (.int n))) (hn : n < 2 ^ 62) (h0 : -(2 ^ 62) ≤ n) : EvI K RvD (iRng1 (tCons te tNil)) Γ (rangeD 0 n.toNat) := fun G0 H0 G H σ E R r => h G0 H0 G H σ E _ fun v G1 H1 e1 hv => by
  cases hv
  exact ⟨n, rfl, h0, hn, r _ G1 H1 e1 walk_rd⟩
theorem evi_range2 {lo n : Int} (h : Ev K ta Γ (.dat (.int lo))) (h' : Ev K tb Γ (.dat (.int n))) (hn : -(2 ^ 62) ≤ lo ∧ lo < 2 ^ 62 ∧ -(2 ^ 62) ≤ n ∧ n < 2 ^ 62) : EvI K RvD (iRng2 (tCons ta (tCons tb tNil))) Γ (rangeD lo (n - lo).toNat) := fun G0 H0 G H σ E R r =>
  h G0 H0 G H σ E _ fun u G1 H1 e1 hu => h' G0 H0 G1 H1 σ (E.up e1) _ fun v G2 H2 e2 hv => by
    cases hu; cases hv
    exact ⟨lo, n, rfl, hn, r _ G2 H2 (e1.trans e2) walk_rd⟩
theorem yd_pair {G : Hp} {xs ys : Nat → Option V} {i : Nat} (h : ∀ u v, xs i = some u → ys i = some v → ∃ d e, ds[i]? = some (.tuple [d, e]) ∧ Dr G u d ∧ Dr G v e) : ∀ H1 v H2, YPair xs ys i H1 v H2 → YD (RvP K) G ds i H1 v H2 := fun H1 v H2 y G1 e1 e2 => by
  obtain ⟨T, x, z, rfl, nT, rfl, hx, hz⟩ := y
  obtain ⟨d, e, h1, h2, h3⟩ := h x z hx hz
  have hu := same_up (o := .tup [x, z]) (e2.free nT)
  exact ⟨upd G1 T (.tup [x, z]), _, Ext.new e2 nT, h1, T, [x, z], [d, e], rfl, rfl, SqT.of upd_same, .cons ((h2.up e1).up hu) (.cons ((h3.up e1).up hu) .nil)⟩
def enumD (ds : List PyData) : List PyData := (List.range ds.length).map fun i => .tuple [.int (i : Nat), ds.getD i .none]
theorem enumD_len : (enumD ds).length = ds.length := by
  unfold enumD
  rw [List.length_map, List.length_range]
theorem enumD_get {i : Nat} (h : ds[i]? = some d) : (enumD ds)[i]? = some (.tuple [.int (i : Nat), d]) := by
  have hi := (List.getElem?_eq_some_iff.mp h).1
  unfold enumD
  rw [List.getElem?_map, List.getElem?_range hi]
  simp only [Option.map_some, List.getD_eq_getElem?_getD, h, Option.getD_some]
theorem evi_enum (h : Ev K te Γ (.dat (.list ds))) : EvI K (RvP K) (iEnum K (tCons te tNil)) Γ (enumD ds) := fun G0 H0 G H σ E R r => h G0 H0 G H σ E _ fun v G1 H1 e1 hv => by
  cases hv with
  | lst ha hs =>
    refine ⟨_, _, rfl, SqL.of (e1.i _ _ ha), r _ G1 H1 e1 ?_⟩
    rw [enumD_len, ← hs.len]
    refine walk_enum.mono (fun H' s => SqL.of (s _ _ ha)) fun i H' x H'' _ s y => yd_pair (fun u v h1 h2 => ?_) _ _ _ y
    cases h1
    obtain ⟨d, k1, k2⟩ := hs.of h2
    exact ⟨_, _, enumD_get k1, .int _, k2⟩
def zipD : List PyData → List PyData → List PyData
  | a :: as, b :: bs => .tuple [a, b] :: zipD as bs
  | _, _ => []
theorem zipD_len : ∀ {xs ys : List PyData}, (zipD xs ys).length = min xs.length ys.length
  | [], _ => by simp [zipD]
  | _ :: _, [] => by simp [zipD]
  | a :: as, b :: bs => by
    show (zipD as bs).length + 1 = min (as.length + 1) (bs.length + 1)
    rw [zipD_len]
    omega
theorem zipD_get : ∀ {xs ys : List PyData} {i : Nat} {d e : PyData}, xs[i]? = some d → ys[i]? = some e → (zipD xs ys)[i]? = some (.tuple [d, e])
  | [], _, _, _, _, h, _ => by simp at h
  | _ :: _, [], _, _, _, _, h => by simp at h
  | a :: as, b :: bs, 0, d, e, h, k => by
    simp at h k
    subst h; subst k
    rfl
  | a :: as, b :: bs, i + 1, d, e, h, k => by
    show (zipD as bs)[i]? = _
    exact zipD_get (by simpa using h) (by simpa using k)
theorem evi_zip {xs ys : List PyData} (h : Ev K ta Γ (.dat (.list xs))) (h' : Ev K tb Γ (.dat (.list ys))) : EvI K (RvP K) (iZip K (tCons ta (tCons tb tNil))) Γ (zipD xs ys) := fun G0 H0 G H σ E R r =>
  h G0 H0 G H σ E _ fun u G1 H1 e1 hu => h' G0 H0 G1 H1 σ (E.up e1) _ fun v G2 H2 e2 hv => by
    have hu := Dr.up hu e2.g
    cases hu with
    | lst ha hs =>
      cases hv with
      | lst hb ht =>
        refine ⟨_, _, _, _, rfl, SqL.of (e2.i _ _ ha), SqL.of (e2.i _ _ hb), r _ G2 H2 (e1.trans e2) ?_⟩
        refine (walk_zip (n := (zipD xs ys).length) (by rw [zipD_len, hs.len, ht.len])).mono (fun H' s => ⟨SqL.of (s _ _ ha), SqL.of (s _ _ hb)⟩) fun i H' x H'' _ s y => yd_pair (fun u v h1 h2 => ?_) _ _ _ y
        obtain ⟨d, k1, k2⟩ := hs.of h1
        obtain ⟨e, l1, l2⟩ := ht.of h2
        exact ⟨d, e, zipD_get k1 l1, k2, l2⟩
def signsD (z : Str) : List PyData := z.cps.toList.map fun c => .str ⟨#[c]⟩
theorem evi_str {z : Str} (h : Ev K te Γ (.dat (.str z))) : EvI K RvD (iStr te) Γ (signsD z) := fun G0 H0 G H σ E R r => h G0 H0 G H σ E _ fun v G1 H1 e1 hv => by
  cases hv
  refine ⟨z, rfl, r _ G1 H1 e1 ?_⟩
  have hl : (signsD z).length = z.cps.size := by
    unfold signsD
    rw [List.length_map, Array.length_toList]
  rw [hl]
  refine walk_str.mono (fun _ _ => trivial) fun i H' x H'' hi s y G1 e1 e2 => ?_
  obtain ⟨rfl, c, hc, rfl⟩ := y
  refine ⟨G1, _, Ext.refl e2, ?_, .str _⟩
  unfold signsD
  rw [List.getElem?_map, Array.getElem?_toList, hc]
  rfl

/-! ### comprehensions -/
theorem filter_take {α : Type} {f : α → Bool} {l : List α} {i : Nat} {a : α} (h : l[i]? = some a) : (l.take (i + 1)).filter f = (l.take i).filter f ++ (if f a = true then [a] else []) := by
  rw [List.take_add_one, h, List.filter_append]
  congr 1
  show [a].filter f = _
  rw [List.filter_cons]
  split <;> rfl
theorem ev_lc {Rv : Hp → Hp → V → PyData → Prop} {wi : TI} {g : TG} {vs : List Nat} (f : PyData → Bool) (v : PyData → PyData) (hi : EvI K Rv wi Γ ds) (hz : ds.length ≤ 100000)
    (hs : ∀ (i : Nat) (d : PyData), ds[i]? = some d → ∃ js Γ1, EvG K Rv g (wipeD Γ vs) d js Γ1 ∧ (∀ j ∈ js, j ∈ vs) ∧ EvT K tt Γ1 (f d) ∧ (f d = true → Ev K te Γ1 (.dat (v d)))) :
    Ev K (tLc wi g tt te vs) Γ (.dat (.list ((ds.filter f).map v))) := fun G0 H0 G H σ E Q q => hi G0 H0 G H σ E _ fun J G1 H1 e1 w Dl hD => by
  have E1 := E.up e1
  refine lc_it w (fun i H' => ∃ G' ws, Ext G1 H1 G' H' ∧ H' Dl = some (.lst ws) ∧ G' Dl = none ∧ DrAll G' ws (((ds.take i).filter f).map v)) ?_ ?_ ?_ ?_
  · exact ⟨G1, [], Ext.hid e1.i hD, upd_same, e1.i.free hD, .nil⟩
  · rintro i H' _ ⟨G', ws, e2, _⟩
    exact e2.g.trans e2.i
  · rintro i x H' H'' hil ⟨G', ws, e2, h2, h3, h4⟩ y
    obtain ⟨G2, d, e3, hd, hx⟩ := y G' e2.g e2.i
    obtain ⟨js, Γ1, hg, hj, ht, he⟩ := hs i d hd
    have e12 := e2.trans e3
    have E2 : En K G0 H0 G2 H'' (L2.wipe σ vs) (wipeD Γ vs) := (E1.up e12).wipe vs
    refine hg G0 H0 G2 H'' _ x E2 hx _ fun σ2 E3 hw => ⟨?_, ?_⟩
    · rw [hw vs hj]
      exact wipe_wipe fun _ h => h
    · refine ht G0 H0 G2 H'' σ2 E3 _ fun G3 H3 e4 => ?_
      have e13 := e12.trans e4
      have e34 := e3.trans e4
      have hD3 : H3 Dl = some (.lst ws) := e34.h _ _ h2
      have gD3 : G3 Dl = none := e34.n Dl (by rw [h2]; simp) h3
      rw [filter_take hd]
      cases hf : f d with
      | true =>
        show te σ2 H3 _
        refine he hf G0 H0 G3 H3 σ2 (E3.up e4) _ fun y G4 H4 e5 hy => ?_
        have hD4 : H4 Dl = some (.lst ws) := e5.h _ _ hD3
        have gD4 : G4 Dl = none := e5.n Dl (by rw [hD3]; simp) gD3
        have hws : DrAll G4 ws (((ds.take i).filter f).map v) := (h4.up e34.g).up e5.g
        refine ⟨ws, hD4, ?_, G4, ws ++ [y], ?_, upd_same, gD4, ?_⟩
        · rw [hws.len, List.length_map]
          have l1 := List.length_filter_le f (ds.take i)
          rw [List.length_take] at l1
          exact Nat.lt_of_le_of_lt (show _ ≤ 100000 by omega) (by decide)
        · have e15 := e13.trans e5
          refine ⟨e15.g, fun b o hb => ?_, fun b o hb => ?_, e15.n⟩
          · rw [upd_ne (ne_of_none hb hD)]
            exact e15.h b o hb
          · rw [upd_ne (ne_of_none hb gD4)]
            exact e15.i b o hb
        · rw [if_pos rfl, List.map_append]
          exact hws.app (.cons hy .nil)
      | false =>
        show ∃ _, _
        rw [if_neg Bool.false_ne_true, List.append_nil]
        exact ⟨G3, ws, e13, hD3, gD3, h4.up e34.g⟩
  · rintro H' ⟨G', ws, e2, h2, h3, h4⟩
    rw [List.take_length] at h4
    have e12 := e1.trans e2
    have hDn : H Dl = none := e1.h.free hD
    refine q _ (upd G' Dl (.lst ws)) H' ⟨e12.g.trans (same_up h3), e12.h, fun b o hb => ?_, fun b h5 h6 => ?_⟩ (.lst upd_same (h4.up (same_up h3)))
    · unfold upd at hb
      split at hb
      · rename_i e
        subst e
        rw [h2]
        exact hb
      · exact e12.i b o hb
    · have e : b ≠ Dl := by
        rintro rfl
        exact h5 hDn
      rw [upd_ne e]
      exact e12.n b h5 h6
theorem ev_lcM {Rv : Hp → Hp → V → PyData → Prop} {wi : TI} {g : TG} {vs : List Nat} (v : PyData → PyData) (hi : EvI K Rv wi Γ ds) (hz : ds.length ≤ 100000)
    (hs : ∀ (i : Nat) (d : PyData), ds[i]? = some d → ∃ js Γ1, EvG K Rv g (wipeD Γ vs) d js Γ1 ∧ (∀ j ∈ js, j ∈ vs) ∧ Ev K te Γ1 (.dat (v d))) : Ev K (tLc wi g tYes te vs) Γ (.dat (.list (ds.map v))) := by
  have h := ev_lc (K := K) (Γ := Γ) (tt := tYes) (te := te) (g := g) (vs := vs) (fun _ => true) v hi hz fun i d hd => by
    obtain ⟨js, Γ1, h1, h2, h3⟩ := hs i d hd
    exact ⟨js, Γ1, h1, h2, evt_yes, fun _ => h3⟩
  rw [List.filter_eq_self.mpr fun _ _ => rfl] at h
  exact h
end
end Fw
namespace Fw
open PySem PySem.Spec L2
section
variable {K : PySem.W.Frag} {Γ Γ' Γ1 Γ2 : List Ds} {x y : Ds} {d e : PyData} {ds es : List PyData} {ta tb te tl ti tx : TE} {tt tu tw : TT} {ts tz : TS} {N : Option (List Ds)} {R : Ds → Prop}

/-! ### statements -/
theorem do_seq (h : Do K ts Γ (some Γ1) R) (k : Do K tz Γ1 N R) : Do K (tSeq ts tz) Γ N R := fun G0 H0 G H σ D E hn hr =>
  h G0 H0 G H σ { D with nx := tz D } E (fun Γn e σ' G' H' E' => by
    cases e
    exact k G0 H0 G' H' σ' D E' hn hr) hr
theorem do_weak (s : Sub Γ Γ') (h : Do K ts Γ' N R) : Do K ts Γ N R := fun G0 H0 G H σ D E hn hr => h G0 H0 G H σ D (E.sub s) hn hr
theorem do_post (h : Do K ts Γ (some Γ1) R) (s : Sub Γ1 Γ2) : Do K ts Γ (some Γ2) R := fun G0 H0 G H σ D E hn hr =>
  h G0 H0 G H σ D E (fun Γn e σ' G' H' E' => by
    cases e
    exact hn _ rfl σ' G' H' (E'.sub s)) hr
theorem do_none (h : Do K ts Γ none R) : Do K ts Γ N R := fun G0 H0 G H σ D E hn hr => h G0 H0 G H σ D E (fun _ e => by cases e) hr
theorem do_imp {R' : Ds → Prop} (h : Do K ts Γ N R') (hi : ∀ x, R' x → R x) : Do K ts Γ N R := fun G0 H0 G H σ D E hn hr => h G0 H0 G H σ D E hn fun x v G' H' r => hr x v G' H' (hi x r)
theorem do_next (s : Sub Γ Γ1) : Do K tNext Γ (some Γ1) R := fun G0 H0 G H σ D E hn hr => hn _ rfl σ G H (E.sub s)
theorem do_if {c : TT} {b : Bool} (hc : EvT K c Γ b) (h1 : b = true → Do K ts Γ N R) (h2 : b = false → Do K tz Γ N R) : Do K (tIfS c ts tz) Γ N R := fun G0 H0 G H σ D E hn hr =>
  hc G0 H0 G H σ E _ fun G1 H1 e => by
    cases b with
    | true => exact h1 rfl G0 H0 G1 H1 σ D (E.up e) hn hr
    | false => exact h2 rfl G0 H0 G1 H1 σ D (E.up e) hn hr
theorem do_ifs {c : TT} {b : Bool} {tv : TS} (hc : EvT K c Γ b) (h1 : b = true → Do K (tSeq ts tz) Γ N R) (h2 : b = false → Do K (tSeq tv tz) Γ N R) : Do K (tSeq (tIfS c ts tv) tz) Γ N R := fun G0 H0 G H σ D E hn hr =>
  hc G0 H0 G H σ E _ fun G1 H1 e => by
    cases b with
    | true => exact h1 rfl G0 H0 G1 H1 σ D (E.up e) hn hr
    | false => exact h2 rfl G0 H0 G1 H1 σ D (E.up e) hn hr
theorem do_stop (h : Do K ts Γ none R) : Do K (tSeq ts tz) Γ N R := fun G0 H0 G H σ D E hn hr => h G0 H0 G H σ { D with nx := tz D } E (fun _ e => by cases e) hr
theorem do_skip (h : Do K tz Γ N R) : Do K (tSeq tNext tz) Γ N R := h
theorem do_assoc {tv : TS} (h : Do K (tSeq ts (tSeq tv tz)) Γ N R) : Do K (tSeq (tSeq ts tv) tz) Γ N R := h
theorem do_seqr (h : Do K ts Γ (some Γ1) R) (e : Γ1 = Γ2) (k : Do K tz Γ2 N R) : Do K (tSeq ts tz) Γ N R := by
  subst e
  exact do_seq h k
theorem do_yes {c : TT} (hc : EvT K c Γ true) (h1 : Do K ts Γ N R) : Do K (tIfS c ts tz) Γ N R := do_if hc (fun _ => h1) fun e => by cases e
theorem do_no {c : TT} (hc : EvT K c Γ false) (h1 : Do K tz Γ N R) : Do K (tIfS c ts tz) Γ N R := do_if hc (fun e => by cases e) fun _ => h1
theorem do_asg {i : Nat} (h : Ev K te Γ x) : Do K (tAsg te (gName i)) Γ (some (Γ.set i x)) R := fun G0 H0 G H σ D E hn hr =>
  h G0 H0 G H σ E _ fun v G1 H1 e hv => hn _ rfl _ G1 H1 ((E.up e).set hv)
theorem do_asgG {g : TG} {js : List Nat} (h : Ev K te Γ (.dat d)) (hg : EvG K RvD g Γ d js Γ1) : Do K (tAsg te g) Γ (some Γ1) R := fun G0 H0 G H σ D E hn hr =>
  h G0 H0 G H σ E _ fun v G1 H1 e hv => hg G0 H0 G1 H1 σ v (E.up e) hv _ fun σ' E' _ => hn _ rfl σ' G1 H1 E'
theorem do_drop (h : Ev K te Γ x) : Do K (tDrop te) Γ (some Γ) R := fun G0 H0 G H σ D E hn hr =>
  h G0 H0 G H σ E _ fun v G1 H1 e hv => hn _ rfl σ G1 H1 (E.up e)
theorem do_ret (h : Ev K te Γ x) (r : R x) : Do K (tRet te) Γ N R := fun G0 H0 G H σ D E hn hr =>
  h G0 H0 G H σ E _ fun v G1 H1 e hv => hr x v G1 H1 r (E.x.trans e) hv
theorem do_retN (r : R (.dat .none)) : Do K tRetN Γ N R := fun G0 H0 G H σ D E hn hr => hr _ _ G H r E.x .non

/-! ### own objects -/
theorem En.wr {G0 H0 G H : Hp} {σ : St} {i : Nat} {a : Addr} {o : HO} {D0 D1 : Ds} (E : En K G0 H0 G H σ Γ) (hi : Γ[i]? = some D0) (h0 : isOwn D0 = true) (hs : σ[i]? = some (some (.ref a))) (ga : G a = none) (ha : H0 a = none)
    (h1 : isOwn D1 = true) (new : SlotOk K H0 G (upd H a o) (some (.ref a)) D1) : En K G0 H0 G (upd H a o) σ (Γ.set i D1) := by
  have hl : i < Γ.length := (List.getElem?_eq_some_iff.mp hi).1
  have sG : Same G (upd H a o) := fun b u e => by
    rw [upd_ne (ne_of_none e ga)]
    exact E.s b u e
  refine ⟨⟨E.x.g, fun b u e => ?_, sG, E.x.n⟩, by rw [List.length_set]; exact E.l, fun j D hj => ?_, fun j k D F b k1 k2 k3 k4 k5 k6 => ?_⟩
  · rw [upd_ne (ne_of_none e ha)]
    exact E.x.h b u e
  · by_cases hij : i = j
    · subst hij
      rw [List.getElem?_set_self hl] at hj
      cases hj
      exact ⟨_, hs, new⟩
    · rw [List.getElem?_set_ne hij] at hj
      obtain ⟨ov, q1, q2⟩ := E.ok j D hj
      refine ⟨ov, q1, ?_⟩
      have apart : ∀ b, isOwn D = true → ov = some (.ref b) → b ≠ a := fun b ho eb hb => by
        subst hb
        subst eb
        exact hij (E.ap i j D0 D b hi h0 hj ho hs q1)
      cases D with
      | any => trivial
      | dat d => exact q2
      | dic l => exact q2
      | scr ns => exact q2
      | val v => exact q2
      | fix v Gx => exact q2
      | own ds =>
        obtain ⟨b, vs, e1, e2, e3, e4, e5⟩ := q2
        exact ⟨b, vs, e1, by rw [upd_ne (apart b rfl e1)]; exact e2, e3, e4, e5⟩
      | ownD l =>
        obtain ⟨b, e1, e2, e4, e5⟩ := q2
        exact ⟨b, e1, by rw [upd_ne (apart b rfl e1)]; exact e2, e4, e5⟩
  · have key : ∀ c D, (Γ.set i D1)[c]? = some D → isOwn D = true → ∃ D', Γ[c]? = some D' ∧ isOwn D' = true := fun c D hc ho => by
      by_cases hic : i = c
      · subst hic
        exact ⟨D0, hi, h0⟩
      · rw [List.getElem?_set_ne hic] at hc
        exact ⟨D, hc, ho⟩
    obtain ⟨D', q1, q2⟩ := key j D k1 k2
    obtain ⟨F', q3, q4⟩ := key k F k3 k4
    exact E.ap j k D' F' b q1 q2 q3 q4 k5 k6
/-- a new own object comes to slot i -/
theorem En.make {G0 H0 G H : Hp} {σ : St} {i : Nat} {a : Addr} {o : HO} {D1 : Ds} (E : En K G0 H0 G H σ Γ) (na : H a = none) (new : SlotOk K H0 G (upd H a o) (some (.ref a)) D1) : En K G0 H0 G (upd H a o) (σ.set i (some (.ref a))) (Γ.set i D1) := by
  have E1 := E.up (Ext.hid (o := o) E.s na)
  refine ⟨E1.x, by rw [List.length_set, List.length_set]; exact E.l, fun j D hj => ?_, fun j k D F b k1 k2 k3 k4 k5 k6 => ?_⟩
  · by_cases hij : i = j
    · subst hij
      have hl : i < Γ.length := by
        have := (List.getElem?_eq_some_iff.mp hj).1
        rwa [List.length_set] at this
      rw [List.getElem?_set_self hl] at hj
      cases hj
      exact ⟨_, List.getElem?_set_self (by rw [E.l]; exact hl), new⟩
    · rw [List.getElem?_set_ne hij] at hj ⊢
      exact E1.ok j D hj
  · have old : ∀ c D, i ≠ c → Γ[c]? = some D → isOwn D = true → σ[c]? = some (some (.ref b)) → b ≠ a := fun c D _ hc ho hs e => by
      subst e
      obtain ⟨ov, q1, q2⟩ := E.ok c D hc
      rw [hs] at q1
      cases q1
      cases D with
      | own ds =>
        obtain ⟨b', vs, e1, e2, _⟩ := q2
        cases e1
        rw [na] at e2
        cases e2
      | ownD l =>
        obtain ⟨b', e1, e2, _⟩ := q2
        cases e1
        rw [na] at e2
        cases e2
      | any => cases ho
      | dat d => cases ho
      | dic l => cases ho
      | scr ns => cases ho
      | val v => cases ho
      | fix v Gx => cases ho
    have at_i : (σ.set i (some (.ref a)))[i]? = some (some (.ref b)) → b = a := fun h => by
      obtain ⟨hl, e⟩ := List.getElem?_eq_some_iff.mp h
      rw [List.getElem_set_self] at e
      cases e
      rfl
    by_cases hj : i = j
    · subst hj
      by_cases hk : i = k
      · exact hk
      · have e := at_i k5
        rw [List.getElem?_set_ne hk] at k3 k6
        exact absurd e (old k F hk k3 k4 k6)
    · rw [List.getElem?_set_ne hj] at k1 k5
      by_cases hk : i = k
      · subst hk
        exact absurd (at_i k6) (old j D hj k1 k2 k5)
      · rw [List.getElem?_set_ne hk] at k3 k6
        exact E.ap j k D F b k1 k2 k3 k4 k5 k6
/-- x = [..], to be changed -/
theorem do_newL {t : TA} {i : Nat} (h : EvDs K t Γ ds) (hz : Nat.ble ds.length 1000 = true) : Do K (tAsg (tLst t) (gName i)) Γ (some (Γ.set i (.own ds))) R := fun G0 H0 G H σ D E hn hr =>
  h G0 H0 G H σ E _ fun vs G1 H1 e hv => ⟨by rw [hv.len]; exact sz hz, fun p hp => hn _ rfl _ G1 _ ((E.up e).make hp ⟨p, vs, rfl, upd_same, hv, e.i.free hp, (E.up e).x.h.free hp⟩)⟩
/-- x = {} -/
theorem do_newD {i : Nat} : Do K (tAsg tDNewK (gName i)) Γ (some (Γ.set i (.ownD []))) R := fun G0 H0 G H σ D E hn hr p hp =>
  hn _ rfl _ G _ (E.make hp ⟨p, rfl, upd_same, E.s.free hp, E.x.h.free hp⟩)
/-- what an own list's slot tells -/
theorem En.own {G0 H0 G H : Hp} {σ : St} {i : Nat} (E : En K G0 H0 G H σ Γ) (hi : Γ[i]? = some (.own ds)) : ∃ a vs, σ[i]? = some (some (.ref a)) ∧ H a = some (.lst vs) ∧ DrAll G vs ds ∧ G a = none ∧ H0 a = none := by
  obtain ⟨ov, h1, a, vs, rfl, h2⟩ := E.ok i _ hi
  exact ⟨a, vs, h1, h2⟩
theorem En.ownD {G0 H0 G H : Hp} {σ : St} {i : Nat} {l : List (Str × V)} (E : En K G0 H0 G H σ Γ) (hi : Γ[i]? = some (.ownD l)) : ∃ a, σ[i]? = some (some (.ref a)) ∧ H a = some (.dK (kvl l)) ∧ G a = none ∧ H0 a = none := by
  obtain ⟨ov, h1, a, rfl, h2⟩ := E.ok i _ hi
  exact ⟨a, h1, h2⟩
/-- xs.append(e) -/
theorem do_append {i : Nat} (hi : Γ[i]? = some (.own ds)) (h : Ev K te Γ (.dat d)) (hz : ds.length < 100000) : Do K (tDrop (tBM K "list" rAppend (tVar i) (tCons te tNil))) Γ (some (Γ.set i (.own (ds ++ [d])))) R := fun G0 H0 G H σ D E hn hr => by
  obtain ⟨a, vs, h1, h2, h3, h4, h5⟩ := E.own hi
  refine ⟨.ref a, h1, .inl ⟨rfl, vs, SqL.of h2⟩, h G0 H0 G H σ E _ fun v G1 H1 e hv => ?_⟩
  obtain ⟨b, ws, k1, k2, k3, k4, k5⟩ := (E.up e).own hi
  rw [h1] at k1
  cases k1
  refine ⟨a, ws, v, rfl, rfl, k2, ?_, hn _ rfl σ G1 _ ((E.up e).wr hi rfl h1 k4 k5 rfl ⟨a, _, rfl, upd_same, k3.app (.cons hv .nil), k4, k5⟩)⟩
  rw [k3.len]
  exact Nat.lt_trans hz (by decide)
/-- xs.extend(ys) -/
theorem do_extend {i : Nat} (hi : Γ[i]? = some (.own ds)) (h : EvS K te Γ es) (hz : ds.length + es.length ≤ 100000) : Do K (tDrop (tBM K "list" rExtend (tVar i) (tCons te tNil))) Γ (some (Γ.set i (.own (ds ++ es)))) R := fun G0 H0 G H σ D E hn hr => by
  obtain ⟨a, vs, h1, h2, h3, h4, h5⟩ := E.own hi
  refine ⟨.ref a, h1, .inl ⟨rfl, vs, SqL.of h2⟩, h G0 H0 G H σ E _ fun b zs G1 H1 e hb hv => ?_⟩
  obtain ⟨b', ws, k1, k2, k3, k4, k5⟩ := (E.up e).own hi
  rw [h1] at k1
  cases k1
  refine ⟨a, b, ws, zs, rfl, rfl, k2, hb, ?_, hn _ rfl σ G1 _ ((E.up e).wr hi rfl h1 k4 k5 rfl ⟨a, _, rfl, upd_same, k3.app hv, k4, k5⟩)⟩
  rw [k3.len, hv.len]
  exact Nat.le_trans hz (by decide)
/-- return xs, an own list -/
theorem do_retO {i : Nat} (hi : Γ[i]? = some (.own ds)) (r : R (.dat (.list ds))) : Do K (tRet (tVar i)) Γ N R := fun G0 H0 G H σ D E hn hr => by
  obtain ⟨a, vs, h1, h2, h3, h4, h5⟩ := E.own hi
  refine ⟨.ref a, h1, hr _ _ (upd G a (.lst vs)) H r ⟨E.x.g.trans (same_up h4), E.x.h, fun b u e => ?_, fun b q1 q2 => ?_⟩ (.lst upd_same (h3.up (same_up h4)))⟩
  · unfold upd at e
    split at e
    · rename_i hb
      subst hb
      rw [h2]
      exact e
    · exact E.s b u e
  · have e : b ≠ a := by
      rintro rfl
      exact q1 h5
    rw [upd_ne e]
    exact E.x.n b q1 q2
/-- an own list is shown: it will not be changed any more -/
theorem do_show {i : Nat} (hi : Γ[i]? = some (.own ds)) (h : Do K ts (Γ.set i (.dat (.list ds))) N R) : Do K ts Γ N R := fun G0 H0 G H σ D E hn hr => by
  obtain ⟨a, vs, h1, h2, h3, h4, h5⟩ := E.own hi
  have sG : Same G (upd G a (.lst vs)) := same_up h4
  refine h G0 H0 (upd G a (.lst vs)) H σ D ⟨⟨E.x.g.trans sG, E.x.h, fun b u e => ?_, fun b q1 q2 => ?_⟩, by rw [List.length_set]; exact E.l, fun j F hj => ?_, fun j k F F' b k1 k2 k3 k4 k5 k6 => ?_⟩ hn hr
  · unfold upd at e
    split at e
    · rename_i hb
      subst hb
      rw [h2]
      exact e
    · exact E.s b u e
  · have e : b ≠ a := by
      rintro rfl
      exact q1 h5
    rw [upd_ne e]
    exact E.x.n b q1 q2
  · by_cases hij : i = j
    · subst hij
      have hl : i < Γ.length := (List.getElem?_eq_some_iff.mp hi).1
      rw [List.getElem?_set_self hl] at hj
      cases hj
      exact ⟨_, h1, _, rfl, .lst upd_same (h3.up sG)⟩
    · rw [List.getElem?_set_ne hij] at hj
      obtain ⟨ov, q1, q2⟩ := E.ok j F hj
      refine ⟨ov, q1, ?_⟩
      cases F with
      | any => trivial
      | dat d => obtain ⟨v, e1, e2⟩ := q2; exact ⟨v, e1, e2.up sG⟩
      | dic l => obtain ⟨b, e1, e2⟩ := q2; exact ⟨b, e1, sG _ _ e2⟩
      | scr ns => obtain ⟨b, e1, e2⟩ := q2; exact ⟨b, e1, sG.seq e2⟩
      | val v => exact q2
      | fix v Gx => exact ⟨q2.1, q2.2.trans sG⟩
      | own es =>
        obtain ⟨b, ws, e1, e2, e3, e4, e5⟩ := q2
        have ne : b ≠ a := fun e => by
          subst e
          subst e1
          exact hij (E.ap i j _ _ b hi rfl hj rfl h1 q1)
        exact ⟨b, ws, e1, e2, e3.up sG, by rw [upd_ne ne]; exact e4, e5⟩
      | ownD l =>
        obtain ⟨b, e1, e2, e4, e5⟩ := q2
        have ne : b ≠ a := fun e => by
          subst e
          subst e1
          exact hij (E.ap i j _ _ b hi rfl hj rfl h1 q1)
        exact ⟨b, e1, e2, by rw [upd_ne ne]; exact e4, e5⟩
  · have key : ∀ c F, (Γ.set i (.dat (.list ds)))[c]? = some F → isOwn F = true → Γ[c]? = some F := fun c F hc ho => by
      by_cases hic : i = c
      · subst hic
        have hl : i < Γ.length := (List.getElem?_eq_some_iff.mp hi).1
        rw [List.getElem?_set_self hl] at hc
        cases hc
        cases ho
      · rwa [List.getElem?_set_ne hic] at hc
    exact E.ap j k F F' b (key j F k1 k2) k2 (key k F' k3 k4) k4 k5 k6

/-! ### the base moved up -/
theorem Ext.back {G0 H0 G H G' H' : Hp} (a : Ext G0 H0 G H) (b : Ext G H0 G' H') : Ext G0 H0 G' H' := ⟨a.g.trans b.g, b.h, b.i, fun q h1 h2 => b.n q h1 (a.n q h1 h2)⟩
theorem En.re {G0 H0 G H : Hp} {σ : St} (E : En K G0 H0 G H σ Γ) : En K G H0 G H σ Γ := ⟨⟨Same.refl _, E.x.h, E.x.i, fun _ _ h => h⟩, E.l, E.ok, E.ap⟩
theorem En.back {G0 H0 G H G' H' : Hp} {σ σ' : St} (E : En K G0 H0 G H σ Γ) (E' : En K G H0 G' H' σ' Γ') : En K G0 H0 G' H' σ' Γ' := ⟨E.x.back E'.x, E'.l, E'.ok, E'.ap⟩
theorem Do.run {G0 H0 G H : Hp} {σ : St} {D : Ends} (h : Do K ts Γ N R) (E : En K G0 H0 G H σ Γ) (hn : ∀ Γn, N = some Γn → ∀ σ' G' H', En K G0 H0 G' H' σ' Γn → Same G G' → D.nx σ' H') (hr : ∀ x v G' H', R x → Ext G0 H0 G' H' → VOk K G' v x → D.rt v H') : ts D σ H :=
  h G H0 G H σ D E.re (fun Γn e σ' G' H' E' => hn Γn e σ' G' H' (E.back E') E'.x.g) fun x v G' H' r e hv => hr x v G' H' r (E.x.back e) hv
/-! ### for -/
theorem do_for {Rv : Hp → Hp → V → PyData → Prop} {wi : TI} {g : TG} (P : Nat → Prop) (I : Nat → List Ds) (hi : EvI K Rv wi Γ ds) (h0 : Sub Γ (I 0)) (p0 : P 0)
    (hs : ∀ (i : Nat) (d : PyData), ds[i]? = some d → P i → ∃ js Γ1 N1, EvG K Rv g (I i) d js Γ1 ∧ Do K ts Γ1 N1 R ∧ ∀ Γn, N1 = some Γn → P (i + 1) ∧ Sub Γn (I (i + 1)))
    (hd : P ds.length → ∃ Γn, N = some Γn ∧ Sub (I ds.length) Γn) : Do K (tFor wi g ts) Γ N R := fun G0 H0 G H σ D E hn hr => hi G0 H0 G H σ E _ fun J G1 H1 e1 w => by
  have E1 := (E.up e1).sub h0
  refine for_it w (fun i σ' H' => P i ∧ ∃ G', En K G0 H0 G' H' σ' (I i) ∧ Same G1 G') ⟨p0, G1, E1, Same.refl _⟩ ?_ ?_ ?_
  · rintro i σ' H' _ ⟨_, G', E', s⟩
    exact s.trans E'.s
  · rintro i x σ' H' H'' hil ⟨hp, G', E', s⟩ y
    obtain ⟨G2, d, e3, hd', hx⟩ := y G' s E'.s
    obtain ⟨js, Γ1, N1, k1, k2, k3⟩ := hs i d hd' hp
    refine k1 G0 H0 G2 H'' σ' x (E'.up e3) hx _ fun σ2 E2 _ => k2.run E2 (fun Γn en σ3 G3 H3 E3 s3 => ?_) hr
    obtain ⟨q1, q2⟩ := k3 Γn en
    exact ⟨q1, G3, E3.sub q2, (s.trans e3.g).trans s3⟩
  · rintro σ' H' ⟨hp, G', E', s⟩
    obtain ⟨Γn, en, sb⟩ := hd hp
    exact hn Γn en σ' G' H' (E'.sub sb)
end
end Fw
namespace Fw
open PySem PySem.Spec L2

/-! ### defs by name -/
/-- the def of the text st stands at the name x -/
def Fnd (K : PySem.W.Frag) (mg : Str → Option Value) (x : Str) (st : Stmt) (ps : List Str) : Prop := ∃ f fd, Fun K x x st f fd ∧ mg x = some (.ref f) ∧ Binds K fd ps []
/-- the def's own record in the written part -/
def LkF (K : PySem.W.Frag) (f : Addr) (fd : FuncData) : Prop := ∃ oc od osl, K.lookup f = some ⟨oc, od, .func fd, osl⟩
theorem fun_lk {K : PySem.W.Frag} {x q : Str} {st : Stmt} {f : Addr} {fd : FuncData} (F : Fun K x q st f fd) : LkF K f fd := by
  obtain ⟨oc, od, kV, doc, pm, an, cdv, ct, osl, _, lk, _⟩ := F.ex
  exact ⟨oc, od, osl, lk⟩
theorem fn_same {P : Program} {w : World} {K : PySem.W.Frag} {mg : Str → Option Value} {base : Heap} {k : Nat} {f : Addr} {fd fd' : FuncData} {ps : List Str} {sp : Sp} (F : FnOk P w K mg base CX0 k f fd' ps sp) (h : LkF K f fd') (h' : LkF K f fd) : FnOk P w K mg base CX0 k f fd ps sp := by
  obtain ⟨_, _, _, e1⟩ := h
  obtain ⟨_, _, _, e2⟩ := h'
  rw [e1] at e2
  cases e2
  exact F
/-- the def at the name x keeps the promise sp -/
def Dfn (P : Program) (w : World) (K : PySem.W.Frag) (mg : Str → Option Value) (base : Heap) (x : Str) (k : Nat) (ps : List Str) (sp : Sp) : Prop :=
  ∃ f fd, FnOk P w K mg base CX0 k f fd ps sp ∧ mg x = some (.ref f) ∧ PySem.W.keepIn K (.ref f) = true ∧ Binds K fd ps [] ∧ LkF K f fd
section
variable {P : Program} {w : World} {K : PySem.W.Frag} {mg : Str → Option Value} {base : Heap} {x : Str} {st : Stmt} {ps N : List Str} {k : Nat} {sp : Sp}
theorem Dfn.mono {j : Nat} (D : Dfn P w K mg base x j ps sp) (h : j ≤ k) : Dfn P w K mg base x k ps sp := by
  obtain ⟨f, fd, F, r⟩ := D
  exact ⟨f, fd, F.mono h, r⟩
theorem Dfn.imp {sp' : Sp} (D : Dfn P w K mg base x k ps sp) (h : ∀ vs H Q E, sp' vs H Q E → sp vs H Q E) : Dfn P w K mg base x k ps sp' := by
  obtain ⟨f, fd, F, r⟩ := D
  exact ⟨f, fd, F.imp h, r⟩
theorem Fnd.ok (F : Fnd K mg x st ps) (S : FnScope N ps (defScope st)) (len : ∀ vs H Q E, sp vs H Q E → vs.length = ps.length)
    (hbody : ∀ (f : Addr) (cdv : Value) (A : Around) (outer : List Env) (s : Shared) (H : Hp) (E : XK), Room k (A.deeper (PyProof.Rows.envOfC x (defScope st) s.heap.objs.size f cdv)) →
      ∃ t, PSs (cxOf CX0 P w K mg base N x (defScope st) f cdv A outer s H E).nox (defBody st) t ∧ ∀ (vs : List V) (Q : VK), sp vs H Q E → t { nx := fun _ H' => Q .non H', rt := Q } (L2.start N vs) H) : Dfn P w K mg base x (k + 1) ps sp := by
  obtain ⟨f, fd, F, hm, hb⟩ := F
  exact ⟨f, fd, F.ok S len fun cdv A outer s H vs Q E hr h => by
    obtain ⟨t, h1, h2⟩ := hbody f cdv A outer s H E hr
    exact ⟨t, h1, h2 vs Q h⟩, hm, F.kp, hb, fun_lk F⟩
theorem vs_slots {G : Hp} {vs : List V} {xs : List Ds} (h : VsOk K G vs xs) : ∀ {i : Nat} {D : Ds}, xs[i]? = some D → ∃ v, vs[i]? = some v ∧ VOk K G v D := by
  induction h with
  | nil => intro i D e; simp at e
  | cons h1 _ ih =>
    intro i D e
    cases i with
    | zero => simp at e; subst e; exact ⟨_, rfl, h1⟩
    | succ i =>
      obtain ⟨v, q1, q2⟩ := ih (i := i) (D := D) (by simpa using e)
      exact ⟨v, by simpa using q1, q2⟩
theorem en_start {G H : Hp} {vs : List V} {xs : List Ds} (s : Same G H) (h : VsOk K G vs xs) : En K G H G H (L2.start N vs) (xs ++ List.replicate (N.length - xs.length) .any) := by
  have hl := vs_len h
  refine ⟨Ext.refl s, ?_, fun i D hi => ?_, fun i j D F a h1 h2 h3 h4 h5 h6 => ?_⟩
  · unfold L2.start
    rw [List.length_append, List.length_append, List.length_map, List.length_replicate, List.length_replicate, hl]
  · by_cases hx : i < xs.length
    · rw [List.getElem?_append_left hx] at hi
      obtain ⟨v, q1, q2⟩ := vs_slots h hi
      refine ⟨some v, ?_, q2.slot⟩
      unfold L2.start
      rw [List.getElem?_append_left (by rw [List.length_map, hl]; exact hx), List.getElem?_map, q1]
      rfl
    · have hx' : xs.length ≤ i := Nat.le_of_not_lt hx
      rw [List.getElem?_append_right hx'] at hi
      have e : D = .any := List.eq_of_mem_replicate (List.mem_of_getElem? hi)
      subst e
      have hn : i - xs.length < N.length - xs.length := by
        have := (List.getElem?_eq_some_iff.mp hi).1
        rwa [List.length_replicate] at this
      refine ⟨none, ?_, trivial⟩
      unfold L2.start
      rw [List.getElem?_append_right (by rw [List.length_map, hl]; exact hx'), List.length_map, hl, List.getElem?_replicate, if_pos hn]
  · exfalso
    have hx : i < xs.length := by
      refine Nat.lt_of_not_le fun hx => ?_
      rw [List.getElem?_append_right hx] at h1
      have e : D = .any := List.eq_of_mem_replicate (List.mem_of_getElem? h1)
      subst e
      cases h2
    rw [List.getElem?_append_left hx] at h1
    obtain ⟨v, q1, q2⟩ := vs_slots h h1
    rw [q2.nown] at h2
    cases h2
/-- a promise that asks what never is -/
theorem Fnd.never {Pr : List Ds → PyData → Prop} (F : Fnd K mg x st ps) (h : ∀ xs d, ¬ Pr xs d) : Dfn P w K mg base x k ps (spP K Pr) := by
  obtain ⟨f, fd, F, hm, hb⟩ := F
  exact ⟨f, fd, ⟨fun vs H Q E ⟨_, xs, d, _, _, hp, _⟩ => absurd hp (h xs d), fun A outer s H args us vs Q E _ _ _ _ ⟨_, xs, d, _, _, hp, _⟩ => absurd hp (h xs d)⟩, hm, F.kp, hb, fun_lk F⟩
/-- THE RULE for a pure def -/
theorem Fnd.pure {Pr : List Ds → PyData → Prop} (F : Fnd K mg x st ps) (S : FnScope N ps (defScope st)) (len : ∀ xs d, Pr xs d → xs.length = ps.length)
    (hbody : ∀ (f : Addr) (cdv : Value) (A : Around) (outer : List Env) (s : Shared) (H : Hp) (E : XK), Room k (A.deeper (PyProof.Rows.envOfC x (defScope st) s.heap.objs.size f cdv)) →
      ∃ t, PSs (cxOf CX0 P w K mg base N x (defScope st) f cdv A outer s H E).nox (defBody st) t ∧ ∀ (xs : List Ds) (d : PyData), Pr xs d → Do K t (xs ++ List.replicate (N.length - xs.length) .any) none (fun y => y = .dat d)) : Dfn P w K mg base x (k + 1) ps (spP K Pr) :=
  F.ok S (fun vs H Q E ⟨G, xs, d, _, h2, h3, _⟩ => (vs_len h2).trans (len xs d h3)) fun f cdv A outer s H E hr => by
    obtain ⟨t, h1, h2⟩ := hbody f cdv A outer s H E hr
    refine ⟨t, h1, fun vs Q ⟨G, xs, d, hs, hv, hp, q⟩ => h2 xs d hp G H G H _ _ (en_start hs hv) (fun _ e => by cases e) fun y v G' H' r e hy => ?_⟩
    subst r
    exact q v G' H' e hy
end
section
variable {X : Cx} {x : Str} {k : Nat} {ps : List Str} {sp : Sp} {p pos : Pos} {e : Expr} {es : List Expr} {t : TA}
theorem pe_callD (D : Dfn X.prog X.w X.K X.mg X.base x k ps sp) (hr : Room k X.A) (hg : Gl X x) (ha : PA X (e :: es) t) (hdb : (x == ("__debug__" : Str)) = false := by decide)
    (he : starEach (e :: es) X.env = (false, eval e X.env) :: starEach es X.env := by rfl) (hpl : (backTo pos (starEach es X.env)).any (·.1) = false := by rfl) : PE X (.Call (.Name x p) (e :: es) [] pos) (tCall sp [] E0 t) := by
  obtain ⟨f, fd, F, hm, hk, hb, _⟩ := D
  exact pe_call F hr hg hm hk hb .nil pass0 ha hdb he hpl
end

/-! ### isinstance -/
def tyName : PyData → String
  | .none => "NoneType"
  | .bool _ => "bool"
  | .int _ => "int"
  | .str _ => "str"
  | .list _ => "list"
  | .tuple _ => "tuple"
  | .dict _ => "dict"
section
variable {K : PySem.W.Frag} {Γ : List Ds} {d : PyData} {te : TE}
theorem ty_of {G H : Hp} {v : V} (s : Same G H) (h : Dr G v d) : TyX K H v (.type (tyName d)) := by
  cases h with
  | non => exact .base .non
  | bl b => exact .base (.bl b)
  | int i => exact .base (.int i)
  | str z => exact .base (.str z)
  | lst ha _ => exact .base (.lst (s _ _ ha))
  | tup ha _ =>
    obtain ⟨o, h1, _⟩ := ha.up s
    exact .fTuple h1
theorem ev_isi {T : String} {b : Bool} (h : Ev K te Γ (.dat d)) (hk : kitB (tyName d) T = some b) (hc : ClsV (.ty T) (.type T)) : Ev K (tCB (rIsi K) (tCons te (tCons (tC (.ty T)) tNil))) Γ (.dat (.bool b)) := fun G0 H0 G H σ E Q q =>
  h G0 H0 G H σ E _ fun v G1 H1 e hv => ⟨v, .ty T, _, _, b, rfl, hc, ty_of e.i hv, kit_ty hk, q _ G1 H1 e (.bl _)⟩
/-- is, is not of truths -/
theorem ev_isB {ta tb : TE} {a b : Bool} (ha : Ev K ta Γ (.dat (.bool a))) (hb : Ev K tb Γ (.dat (.bool b))) : Ev K (tOp rIsB ta tb) Γ (.dat (.bool (decide (a = b)))) :=
  ev_bin ha hb fun G H u v s hu hv Q q => by
    cases hu; cases hv
    exact ⟨a, b, rfl, rfl, q _ G H (Ext.refl s) (.bl _)⟩
theorem ev_notB {ta tb : TE} {a b : Bool} (ha : Ev K ta Γ (.dat (.bool a))) (hb : Ev K tb Γ (.dat (.bool b))) : Ev K (tOp rNotB ta tb) Γ (.dat (.bool (!decide (a = b)))) :=
  ev_bin ha hb fun G H u v s hu hv Q q => by
    cases hu; cases hv
    exact ⟨a, b, rfl, rfl, q _ G H (Ext.refl s) (.bl _)⟩
/-- one sign in a text -/
theorem ev_inS {ta tb : TE} {c : Nat} {z : Str} (ha : Ev K ta Γ (.dat (.str ⟨#[c]⟩))) (hb : Ev K tb Γ (.dat (.str z))) : Ev K (tOp (fun x y H Q => ∃ (c : Nat) (z : Str), x = .str ⟨#[c]⟩ ∧ y = .str z ∧ Q (.bl (decide (c ∈ z.cps.toList))) H) ta tb) Γ (.dat (.bool (decide (c ∈ z.cps.toList)))) :=
  ev_bin ha hb fun G H u v s hu hv Q q => by
    cases hu; cases hv
    exact ⟨c, z, rfl, rfl, q _ G H (Ext.refl s) (.bl _)⟩
end
/-- the built-ins' names are not the module's -/
structure Blt (mg : Str → Option Value) : Prop where
  len : mg "len" = none
  all : mg "all" = none
  any : mg "any" = none
  max : mg "max" = none
  tuple : mg "tuple" = none
  list : mg "list" = none
  dict : mg "dict" = none
  set : mg "set" = none
  sorted : mg "sorted" = none
  range : mg "range" = none
  zip : mg "zip" = none
  enumerate : mg "enumerate" = none
  int : mg "int" = none
  bool : mg "bool" = none
  str : mg "str" = none
  isinstance : mg "isinstance" = none
theorem hu65 {k : Nat} {A : Around} (r : Room k A) : A.units + 65 < cLine := by
  have := r.un
  omega
end Fw
/-! ### what the law's own defs make of a script -/
namespace Wk
open PySem PySem.Spec L2 Fw
/-- a text by its codes -/
def Sg (l : List Nat) : Str := ⟨l.toArray⟩
theorem sg_inj {a b : List Nat} (h : Sg a = Sg b) : a = b := by
  have := congrArg (fun s : Str => s.cps.toList) h
  simpa [Sg] using this
theorem sg_len (l : List Nat) : (Sg l).length = l.length := by
  unfold Sg Str.length
  simp
theorem sg_app (a b : List Nat) : Sg a ++ Sg b = Sg (a ++ b) := by
  show Str.append (Sg a) (Sg b) = Sg (a ++ b)
  unfold Str.append Sg
  simp
theorem sg_cut (l : List Nat) (lo hi : Option Int) : cutS (Sg l) lo hi = Sg ((l.drop (HT.sIx l.length 0 lo)).take (HT.sIx l.length l.length hi - HT.sIx l.length 0 lo)) := by
  unfold cutS
  rw [sg_len]
  simp [Sg]
theorem sg_cut_to (l : List Nat) (n : Nat) (h : n ≤ l.length) : cutS (Sg l) none (some (n : Int)) = Sg (l.take n) := by
  rw [sg_cut, HT.sIx_none, HT.sIx_nat, Nat.min_eq_left h, List.drop_zero, Nat.sub_zero]
theorem sg_cut_from (l : List Nat) (n : Nat) (h : n ≤ l.length) : cutS (Sg l) (some (n : Int)) none = Sg (l.drop n) := by
  rw [sg_cut, HT.sIx_none, HT.sIx_nat, Nat.min_eq_left h]
  congr 1
  exact List.take_of_length_le (by rw [List.length_drop]; omega)
theorem sg_join : ∀ cs : List Nat, Txt.join "" (cs.map fun c => Sg [c]) = Sg cs := by
  intro cs
  rw [TL.join_eq]
  induction cs with
  | nil => rfl
  | cons c r ih =>
    cases r with
    | nil => rfl
    | cons e r =>
      show Sg [c] ++ ("" : Str) ++ Str.join "" (Sg [e] :: (r.map fun c => Sg [c])) = _
      have ih' : Str.join "" (Sg [e] :: (r.map fun c => Sg [c])) = Sg (e :: r) := ih
      rw [ih', show ("" : Str) = Sg [] from rfl, sg_app, sg_app]
      rfl
abbrev abc : Str := "abcdefghijklmnopqrstuvwxyz"
theorem abc_codes : abc.cps.toList = (List.range 26).map (97 + ·) := by decide +kernel
theorem abc_len : abc.length = 26 := by decide +kernel
theorem abc_at {i : Int} (h0 : 0 ≤ i) (h : i < 26) : atI abc.cps.toList i = some (97 + i.toNat) := by
  rw [abc_codes]
  have e : i = ((i.toNat : Nat) : Int) := by omega
  have q : atI ((List.range 26).map (97 + ·)) ((i.toNat : Nat) : Int) = some (97 + i.toNat) := atI_nat (by
    rw [List.getElem?_map, List.getElem?_range (by omega)]
    rfl)
  rw [← e] at q
  exact q
def cell (ns : List Int) (k : Nat) : Int := ns.getD k 0
theorem cell_lt {ns : List Int} {k : Nat} (h : k < ns.length) : ns[k]? = some (cell ns k) := by
  unfold cell
  rw [List.getD_eq_getElem?_getD, List.getElem?_eq_getElem h]
  rfl
theorem cell_ge {ns : List Int} {k : Nat} (h : ns.length ≤ k) : cell ns k = 0 := by
  unfold cell
  rw [List.getD_eq_getElem?_getD, List.getElem?_eq_none h]
  rfl
def mix (c p m : Int) : Int := c * 48271 % p % m
theorem mix_lo (c : Int) {p m : Int} (hm : 0 < m) : 0 ≤ mix c p m := Int.emod_nonneg _ (by omega)
theorem mix_hi (c : Int) {p m : Int} (hm : 0 < m) : mix c p m < m := Int.emod_lt_of_pos _ hm
/-- the codes of the k-th name of a seed -/
def signC (s : Int) (k : Nat) : Nat := 97 + ((mix s 9949 26 + 5 * (k : Int)) % 26).toNat
def tailC (s : Int) : List Nat := (List.range (mix s 9931 3).toNat).map fun (j : Nat) => 97 + (mix (s + 3 * (j : Int)) 9941 26).toNat
def tailAt (s : Int) : Nat := (mix s 9929 ((tailC s).length + 1)).toNat
def nameC (s : Int) (k : Nat) : List Nat := (tailC s).take (tailAt s) ++ [signC s k] ++ (tailC s).drop (tailAt s)
def nameS (s : Int) (k : Nat) : Str := Sg (nameC s k)
def namesS (s : Int) : List Str := (List.range 4).map fun (k : Nat) => nameS s k
theorem tailC_len (s : Int) : (tailC s).length = (mix s 9931 3).toNat := by
  unfold tailC
  rw [List.length_map, List.length_range]
theorem tailC_le (s : Int) : (tailC s).length ≤ 2 := by
  rw [tailC_len]
  have := mix_hi s (p := 9931) (m := 3) (by omega)
  have := mix_lo s (p := 9931) (m := 3) (by omega)
  omega
theorem tailAt_le (s : Int) : tailAt s ≤ (tailC s).length := by
  unfold tailAt
  have := mix_hi s (p := 9929) (m := ((tailC s).length + 1 : Int)) (by omega)
  omega
theorem nameC_len (s : Int) (k : Nat) : (nameC s k).length = (tailC s).length + 1 := by
  unfold nameC
  simp only [List.length_append, List.length_take, List.length_drop, List.length_singleton]
  have := tailAt_le s
  omega
theorem signC_inj {s : Int} {j k : Nat} (hj : j < 4) (hk : k < 4) (h : signC s j = signC s k) : j = k := by
  unfold signC at h
  have := mix_lo s (p := 9949) (m := 26) (by omega)
  have := mix_hi s (p := 9949) (m := 26) (by omega)
  omega
theorem nameS_inj {s : Int} {j k : Nat} (hj : j < 4) (hk : k < 4) (h : nameS s j = nameS s k) : j = k := by
  have h1 := sg_inj h
  unfold nameC at h1
  have h2 := List.append_cancel_right h1
  have h3 := List.append_cancel_left h2
  exact signC_inj hj hk (List.cons.inj h3).1
theorem nameC_abc (s : Int) (k : Nat) : ∀ c ∈ nameC s k, 97 ≤ c ∧ c < 123 := by
  have ht : ∀ c ∈ tailC s, 97 ≤ c ∧ c < 123 := fun c hc => by
    obtain ⟨j, _, rfl⟩ := List.mem_map.mp hc
    have := mix_lo (s + 3 * (j : Int)) (p := 9941) (m := 26) (by omega)
    have := mix_hi (s + 3 * (j : Int)) (p := 9941) (m := 26) (by omega)
    omega
  intro c hc
  unfold nameC at hc
  rcases List.mem_append.mp hc with hc | hc
  · rcases List.mem_append.mp hc with hc | hc
    · exact ht c (List.mem_of_mem_take hc)
    · have e := List.mem_singleton.mp hc
      subst e
      unfold signC
      omega
  · exact ht c (List.mem_of_mem_drop hc)
def levelsS (c : Int) : List Int := [0, 2, mix c 9923 3, mix c 9907 3]
/-! ### what the defs that read the script promise -/
def PrCell : List Ds → PyData → Prop := fun xs d => ∃ ns k, xs = [.scr ns, .dat (.int k)] ∧ 0 ≤ k ∧ ns.length ≤ 63 ∧ d = .int (cell ns k.toNat)
theorem pr_cell {ns : List Int} {k : Int} (h : decide (0 ≤ k) = true) (h63 : ns.length ≤ 63) : PrCell [.scr ns, .dat (.int k)] (.int (cell ns k.toNat)) := ⟨ns, k, rfl, of_decide_eq_true h, h63, rfl⟩
def PrMix : List Ds → PyData → Prop := fun xs d => ∃ c p m, xs = [.dat (.int c), .dat (.int p), .dat (.int m)] ∧ 0 < p ∧ 0 < m ∧ d = .int (mix c p m)
theorem pr_mix {c p m : Int} (hp : decide (0 < p) = true) (hm : decide (0 < m) = true) : PrMix [.dat (.int c), .dat (.int p), .dat (.int m)] (.int (mix c p m)) := ⟨c, p, m, rfl, of_decide_eq_true hp, of_decide_eq_true hm, rfl⟩
def PrName : List Ds → PyData → Prop := fun xs d => ∃ (ns : List Int) (k : Nat), xs = [.scr ns, .dat (.int (k : Nat))] ∧ ns.length ≤ 63 ∧ k < 4 ∧ d = .str (nameS (cell ns 0) k)
def PrNames : List Ds → PyData → Prop := fun xs d => ∃ (ns : List Int), xs = [.scr ns] ∧ ns.length ≤ 63 ∧ d = .list ((namesS (cell ns 0)).map .str)
theorem pr_names {ns : List Int} (h63 : ns.length ≤ 63) : PrNames [.scr ns] (.list ((namesS (cell ns 0)).map .str)) := ⟨ns, rfl, h63, rfl⟩
def PrLevels : List Ds → PyData → Prop := fun xs d => ∃ (ns : List Int), xs = [.scr ns] ∧ ns.length ≤ 63 ∧ d = .list ((levelsS (cell ns 1)).map .int)
theorem pr_levels {ns : List Int} (h63 : ns.length ≤ 63) : PrLevels [.scr ns] (.list ((levelsS (cell ns 1)).map .int)) := ⟨ns, rfl, h63, rfl⟩
end Wk
namespace Fw
open PySem PySem.Spec L2
section
variable {K : PySem.W.Frag} {Γ : List Ds} {d : PyData} {ds : List PyData} {te to ta tb : TE}
theorem ev_join {z : Str} {ys : List Str} (h : Ev K to Γ (.dat (.str z))) (h2 : EvS K te Γ (ys.map .str)) (hz : (ys.map (·.length)).sum + ys.length * z.length ≤ 16777216) :
    Ev K (tJoin K to te) Γ (.dat (.str (Txt.join z ys))) := fun G0 H0 G H σ E Q q =>
  h G0 H0 G H σ E _ fun v G1 H1 e1 hv => by
    cases hv
    exact ⟨⟨z, rfl⟩, h2 G0 H0 G1 H1 σ (E.up e1) _ fun a vs G2 H2 e2 hp hs => ⟨z, a, ys, rfl, rfl, .inl (by rw [← hs.strs]; exact SqL.of hp), hz, q _ G2 H2 (e1.trans e2) (.str _)⟩⟩
end
end Fw
namespace Fw
open PySem PySem.Spec L2
section
variable {K : PySem.W.Frag} {Γ : List Ds} {te : TE}
theorem ev_mulR {i j : Int} (ha : Ev K te Γ (.dat (.int i))) (h : (decide (-(2 ^ 64) < j) && decide (j < 2 ^ 64)) = true) : Ev K (tOp (rI CMul fun i j => .int (i * j)) te (tC (.int j))) Γ (.dat (.int (i * j))) :=
  ev_iI ha ev_cint (by
    rw [Bool.and_eq_true, decide_eq_true_eq, decide_eq_true_eq] at h
    exact .inr h)
theorem ev_mulL {i j : Int} (hb : Ev K te Γ (.dat (.int j))) (h : (decide (-(2 ^ 64) < i) && decide (i < 2 ^ 64)) = true) : Ev K (tOp (rI CMul fun i j => .int (i * j)) (tC (.int i)) te) Γ (.dat (.int (i * j))) :=
  ev_iI ev_cint hb (by
    rw [Bool.and_eq_true, decide_eq_true_eq, decide_eq_true_eq] at h
    exact .inl h)
theorem ev_modC {i j : Int} (ha : Ev K te Γ (.dat (.int i))) (h : decide (0 < j) = true) : Ev K (tOp (rI (fun _ j => 0 < j) fun i j => .int (i % j)) te (tC (.int j))) Γ (.dat (.int (i % j))) :=
  ev_iI ha ev_cint (of_decide_eq_true h)
end
end Fw
/-! ### programs as Lean data; what the law's own defs build -/
namespace Wk
open PySem PySem.Spec L2 Fw
inductive Op where
  | sum | times | less
  deriving DecidableEq
def Op.str : Op → Str
  | .sum => "sum"
  | .times => "times"
  | .less => "less"
inductive Tm where
  | num (n : Int)
  | nam (x : Str)
  | bin (o : Op) (a b : Tm)
  deriving DecidableEq
inductive Dd where
  | put (x : Str) (t : Tm)
  | shw (l : Int) (t : Tm)
  | ite (t : Tm) (a b : List Dd)
  | whl (t : Tm) (a : List Dd)
def encT : Tm → PyData
  | .num n => .tuple [.str "number", .int n]
  | .nam x => .tuple [.str "name", .str x]
  | .bin o a b => .tuple [.str o.str, encT a, encT b]
mutual
def encD : Dd → PyData
  | .put x t => .tuple [.str "put", .str x, encT t]
  | .shw l t => .tuple [.str "show", .int l, encT t]
  | .ite t a b => .tuple [.str "if", encT t, .tuple (encL a), .tuple (encL b)]
  | .whl t a => .tuple [.str "while", encT t, .tuple (encL a)]
def encL : List Dd → List PyData
  | [] => []
  | d :: r => encD d :: encL r
end
def encB (b : List Dd) : PyData := .tuple (encL b)
theorem encL_map : ∀ b : List Dd, encL b = b.map encD
  | [] => by simp [encL]
  | d :: r => by rw [encL, encL_map r]; rfl
theorem encL_len (b : List Dd) : (encL b).length = b.length := by rw [encL_map, List.length_map]
theorem encL_get {b : List Dd} {i : Nat} {d : PyData} (h : (encL b)[i]? = some d) : ∃ e, b[i]? = some e ∧ d = encD e := by
  rw [encL_map, List.getElem?_map] at h
  cases c : b[i]? with
  | none => rw [c] at h; cases h
  | some e => rw [c] at h; cases h; exact ⟨e, rfl, rfl⟩
/-- the names of a term, as they come -/
def Tm.names : Tm → List Str
  | .num _ => []
  | .nam x => [x]
  | .bin _ a b => a.names ++ b.names
def Tm.depth : Tm → Nat
  | .num _ => 0
  | .nam _ => 0
  | .bin _ a b => max a.depth b.depth + 1
/-- over the names nm, numbers to 996 -/
def Tm.ok (nm : List Str) : Tm → Prop
  | .num n => 0 ≤ n ∧ n ≤ 996
  | .nam x => x ∈ nm
  | .bin _ a b => a.ok nm ∧ b.ok nm
mutual
def Dd.ok (nm : List Str) : Dd → Prop
  | .put x t => x ∈ nm ∧ t.ok nm
  | .shw l t => (0 ≤ l ∧ l ≤ 2) ∧ t.ok nm
  | .ite t a b => t.ok nm ∧ okL nm a ∧ okL nm b
  | .whl t a => t.ok nm ∧ okL nm a
def okL (nm : List Str) : List Dd → Prop
  | [] => True
  | d :: r => d.ok nm ∧ okL nm r
end
mutual
def Dd.depth : Dd → Nat
  | .put _ _ => 0
  | .shw _ _ => 0
  | .ite _ a b => max (depthL a) (depthL b) + 1
  | .whl _ a => depthL a + 1
def depthL : List Dd → Nat
  | [] => 0
  | d :: r => max d.depth (depthL r)
end
mutual
/-- all its terms at most n deep -/
def Dd.tdep : Dd → Nat
  | .put _ t => t.depth
  | .shw _ t => t.depth
  | .ite t a b => max t.depth (max (tdepL a) (tdepL b))
  | .whl t a => max t.depth (tdepL a)
def tdepL : List Dd → Nat
  | [] => 0
  | d :: r => max d.tdep (tdepL r)
end
theorem okL_app {nm : List Str} : ∀ {a b : List Dd}, okL nm (a ++ b) ↔ okL nm a ∧ okL nm b
  | [], b => by simp [okL]
  | d :: r, b => by
    show d.ok nm ∧ okL nm (r ++ b) ↔ (d.ok nm ∧ okL nm r) ∧ okL nm b
    rw [okL_app, and_assoc]
theorem okL_mem {nm : List Str} : ∀ {a : List Dd}, okL nm a ↔ ∀ d ∈ a, d.ok nm
  | [] => by simp [okL]
  | d :: r => by
    show d.ok nm ∧ okL nm r ↔ _
    rw [okL_mem, List.forall_mem_cons]
theorem depthL_app : ∀ {a b : List Dd}, depthL (a ++ b) = max (depthL a) (depthL b)
  | [], b => by simp [depthL]
  | d :: r, b => by
    show max d.depth (depthL (r ++ b)) = max (max d.depth (depthL r)) (depthL b)
    rw [depthL_app]
    omega
theorem depthL_le {n : Nat} : ∀ {a : List Dd}, depthL a ≤ n ↔ ∀ d ∈ a, d.depth ≤ n
  | [] => by simp [depthL]
  | d :: r => by
    show max d.depth (depthL r) ≤ n ↔ _
    rw [List.forall_mem_cons, ← depthL_le]
    omega
theorem tdepL_app : ∀ {a b : List Dd}, tdepL (a ++ b) = max (tdepL a) (tdepL b)
  | [], b => by simp [tdepL]
  | d :: r, b => by
    show max d.tdep (tdepL (r ++ b)) = max (max d.tdep (tdepL r)) (tdepL b)
    rw [tdepL_app]
    omega
theorem tdepL_le {n : Nat} : ∀ {a : List Dd}, tdepL a ≤ n ↔ ∀ d ∈ a, d.tdep ≤ n
  | [] => by simp [tdepL]
  | d :: r => by
    show max d.tdep (tdepL r) ≤ n ↔ _
    rw [List.forall_mem_cons, ← tdepL_le]
    omega

/-! ### the builders -/
def opAt (i : Int) : Op := if i = 0 then .sum else if i = 1 then .times else .less
def nameAt (nm : List Str) (i : Int) : Str := nm.getD i.toNat ""
def termS (nm : List Str) : Nat → Int → Tm
  | 0, s => if mix s 9901 9 % 3 = 0 then .num (mix s 9887 997) else .nam (nameAt nm (mix s 9883 4))
  | n + 1, s => if mix s 9901 9 < 3 then (if mix s 9901 9 % 3 = 0 then .num (mix s 9887 997) else .nam (nameAt nm (mix s 9883 4)))
    else .bin (opAt (mix s 9901 9 % 3)) (termS nm n (s * 3 + 1)) (termS nm n (s * 5 + 2))
theorem termS_bin {nm : List Str} {n : Nat} {s : Int} (h : ¬ mix s 9901 9 < 3) : termS nm (n + 1) s = .bin (opAt (mix s 9901 9 % 3)) (termS nm n (s * 3 + 1)) (termS nm n (s * 5 + 2)) := by
  rw [termS, if_neg h]
theorem nameAt_get {nm : List Str} {i : Int} (h0 : 0 ≤ i) (h : i < nm.length) : atI nm i = some (nameAt nm i) := by
  have e : i = ((i.toNat : Nat) : Int) := by omega
  have hi : i.toNat < nm.length := by omega
  have q : atI nm ((i.toNat : Nat) : Int) = some (nameAt nm i) := atI_nat (by
    unfold nameAt
    rw [List.getD_eq_getElem?_getD, List.getElem?_eq_getElem hi]
    rfl)
  rw [← e] at q
  exact q
theorem nameAt_mem {nm : List Str} {i : Int} (h0 : 0 ≤ i) (h : i < nm.length) : nameAt nm i ∈ nm := by
  have hi : i.toNat < nm.length := by omega
  unfold nameAt
  rw [List.getD_eq_getElem?_getD, List.getElem?_eq_getElem hi]
  exact List.getElem_mem hi
theorem mix4 (s p : Int) : 0 ≤ mix s p 4 ∧ mix s p 4 < 4 := ⟨mix_lo _ (by omega), mix_hi _ (by omega)⟩
theorem mix997 (s p : Int) : 0 ≤ mix s p 997 ∧ mix s p 997 ≤ 996 := ⟨mix_lo _ (by omega), by have := mix_hi s (p := p) (m := 997) (by omega); omega⟩
theorem termS_leaf {nm : List Str} (h4 : nm.length = 4) (s : Int) : (if mix s 9901 9 % 3 = 0 then Tm.num (mix s 9887 997) else .nam (nameAt nm (mix s 9883 4))).ok nm ∧ (if mix s 9901 9 % 3 = 0 then Tm.num (mix s 9887 997) else .nam (nameAt nm (mix s 9883 4))).depth = 0 := by
  have := mix4 s 9883
  split
  · exact ⟨mix997 _ _, rfl⟩
  · exact ⟨nameAt_mem this.1 (by omega), rfl⟩
theorem termS_ok {nm : List Str} (h4 : nm.length = 4) : ∀ (n : Nat) (s : Int), (termS nm n s).ok nm ∧ (termS nm n s).depth ≤ n
  | 0, s => ⟨(termS_leaf h4 s).1, Nat.le_of_eq (termS_leaf h4 s).2⟩
  | n + 1, s => by
    unfold termS
    by_cases h : mix s 9901 9 < 3
    · rw [if_pos h]
      exact ⟨(termS_leaf h4 s).1, by rw [(termS_leaf h4 s).2]; omega⟩
    · rw [if_neg h]
      have h1 := termS_ok h4 n (s * 3 + 1)
      have h2 := termS_ok h4 n (s * 5 + 2)
      exact ⟨⟨h1.1, h2.1⟩, by show max _ _ + 1 ≤ n + 1; omega⟩
/-- the level of a name, by its place -/
def lvOf (nm : List Str) (lv : List Int) (x : Str) : Int := lv.getD (nm.idxOf x) 0
def highOf (nm : List Str) (lv : List Int) (t : Tm) (need : Int) : Int := ((t.names.map (lvOf nm lv)).foldr max need)
/-- which places may be put to -/
def someOf (lv : List Int) (hon : Bool) (high : Int) : List Int := ((List.range 4).filter fun k => decide (lv.getD k 0 ≥ high) || !hon).map fun (k : Nat) => (k : Int)
def moreD (nm : List Str) : Dd := .put (nameAt nm 0) (.bin .sum (.nam (nameAt nm 0)) (.num 1))
def manyOf (c : Int) : Nat := (1 + mix c 9839 2).toNat
def deedS (nm : List Str) (lv : List Int) (hon : Bool) : Nat → Int → Int → Dd
  | deep, c, need =>
    let t := termS nm (1 + c % 2).toNat c
    let high := highOf nm lv t need
    let last : Dd :=
      if mix c 9871 9 < 7 ∧ someOf lv hon high ≠ [] then .put (nameAt nm ((someOf lv hon high).getD (mix c 9857 (someOf lv hon high).length).toNat 0)) t
      else .shw (max (mix c 9851 3) (high * (if hon then 1 else 0))) t
    match deep with
    | 0 => last
    | deep + 1 =>
      if mix c 9871 9 < 2 then
        .ite t ((List.range (manyOf (c * 3 + 1))).map fun (k : Nat) => deedS nm lv hon deep ((c * 3 + 1) * 7 + 11 * (k : Int)) high)
          ((List.range (manyOf (c * 5 + 2))).map fun (k : Nat) => deedS nm lv hon deep ((c * 5 + 2) * 7 + 11 * (k : Int)) high)
      else if mix c 9871 9 < 4 ∧ (need = 0 ∨ hon = false) then
        .whl (if hon then .bin .less (.nam (nameAt nm 0)) (.num (mix c 9859 6)) else t) (((List.range (manyOf (c * 3 + 1))).map fun (k : Nat) => deedS nm lv hon deep ((c * 3 + 1) * 7 + 11 * (k : Int)) need) ++ [moreD nm])
      else last
def blockS (nm : List Str) (lv : List Int) (hon : Bool) (deep : Nat) (c need : Int) : List Dd := (List.range (manyOf c)).map fun (k : Nat) => deedS nm lv hon deep (c * 7 + 11 * (k : Int)) need
end Wk
namespace Fw
open PySem PySem.Spec L2
section
variable {K : PySem.W.Frag} {Γ : List Ds} {d : PyData} {ds : List PyData} {te to ta tb : TE}
theorem idx_get {α : Type} [BEq α] [LawfulBEq α] {x : α} {xs : List α} (h : x ∈ xs) : xs[xs.idxOf x]? = some x := by
  have h1 := List.idxOf_lt_length_iff.mpr h
  rw [List.getElem?_eq_getElem h1, List.getElem_idxOf]
theorem idx_first {α : Type} [BEq α] [LawfulBEq α] {x z : α} {xs : List α} {m : Nat} (h : m < xs.idxOf x) (hz : xs[m]? = some z) : z ≠ x := by
  intro e
  subst e
  obtain ⟨hm, e⟩ := List.getElem?_eq_some_iff.mp hz
  have := List.not_of_lt_findIdx (p := (· == z)) (xs := xs) h
  rw [e] at this
  simp at this
instance : LawfulBEq Str := inferInstance
theorem ev_index {nm : List Str} {x : Str} (h : Ev K to Γ (.dat (.list (nm.map .str)))) (hx : Ev K te Γ (.dat (.str x))) (hm : x ∈ nm) : Ev K (tBM K "list" (rIndex K) to (tCons te tNil)) Γ (.dat (.int (nm.idxOf x : Nat))) := fun G0 H0 G H σ E Q q =>
  h G0 H0 G H σ E _ fun v G1 H1 e1 hv => by
    cases hv with
    | lst ha hs =>
      rename_i a vs
      have e0 := hs.strs
      subst e0
      refine ⟨.inl ⟨rfl, _, SqL.of (e1.i _ _ ha)⟩, hx G0 H0 G1 H1 σ (E.up e1) _ fun u G2 H2 e2 hu => ?_⟩
      cases hu
      refine ⟨a, _, .str x, nm.idxOf x, .str x, rfl, rfl, SqL.of (e2.h _ _ (e1.i _ _ ha)), rfl, ?_, ?_, ?_, ?_, q _ G2 H2 (e1.trans e2) (.int _)⟩
      · rw [List.all_map]
        exact List.all_eq_true.mpr fun _ _ => rfl
      · rw [List.getElem?_map, idx_get hm]
        rfl
      · simp [eqV]
      · intro m z' hmj hz
        rw [List.getElem?_map] at hz
        cases c : nm[m]? with
        | none => rw [c] at hz; cases hz
        | some y =>
          rw [c] at hz
          cases hz
          have := idx_first hmj c
          simp [eqV, this]
theorem evt_list (h : Ev K te Γ (.dat (.list ds))) : EvT K (tTruth K te) Γ (!ds.isEmpty) := fun G0 H0 G H σ E Q q =>
  h G0 H0 G H σ E _ fun v G1 H1 e1 hv => by
    cases hv with
    | lst ha hs =>
      rename_i a vs
      refine ⟨_, .inl ⟨vs, SqL.of (e1.i _ _ ha), rfl⟩, ?_⟩
      have e : vs.isEmpty = ds.isEmpty := by
        cases hs <;> rfl
      rw [e]
      exact q G1 H1 e1
theorem evt_tuple (h : Ev K te Γ (.dat (.tuple ds))) : EvT K (tTruth K te) Γ (!ds.isEmpty) := fun G0 H0 G H σ E Q q =>
  h G0 H0 G H σ E _ fun v G1 H1 e1 hv => by
    cases hv with
    | tup ha hs =>
      rename_i a vs
      refine ⟨_, .inr (.inl ⟨vs, (ha.up e1.i).sq, rfl⟩), ?_⟩
      have e : vs.isEmpty = ds.isEmpty := by
        cases hs <;> rfl
      rw [e]
      exact q G1 H1 e1
end
end Fw
namespace Wk
open PySem PySem.Spec L2 Fw
theorem max_fold {ns : List Int} {z m : Int} (h1 : m ∈ ns ++ [z]) (h2 : ∀ y ∈ ns ++ [z], y ≤ m) : m = ns.foldr max z := by
  induction ns generalizing m with
  | nil =>
    have := List.mem_singleton.mp h1
    exact this
  | cons a r ih =>
    show m = max a (r.foldr max z)
    have hf : (r.foldr max z) ∈ r ++ [z] ∧ ∀ y ∈ r ++ [z], y ≤ r.foldr max z := by
      clear ih h1 h2
      induction r with
      | nil => exact ⟨List.mem_singleton.mpr rfl, fun y hy => by have := List.mem_singleton.mp hy; subst this; exact Int.le_refl _⟩
      | cons b r ih =>
        show max b (r.foldr max z) ∈ b :: (r ++ [z]) ∧ ∀ y ∈ b :: (r ++ [z]), y ≤ max b (r.foldr max z)
        refine ⟨?_, fun y hy => ?_⟩
        · by_cases c : b ≤ r.foldr max z
          · rw [Int.max_eq_right c]
            exact List.mem_cons_of_mem _ ih.1
          · rw [Int.max_eq_left (by omega)]
            exact List.mem_cons_self
        · rcases List.mem_cons.mp hy with e | hy
          · subst e
            omega
          · have := ih.2 y hy
            omega
    have ha := h2 a List.mem_cons_self
    have hr := h2 _ (List.mem_cons_of_mem _ hf.1)
    rcases List.mem_cons.mp h1 with e | h1
    · omega
    · have := hf.2 m h1
      omega
theorem names_len : ∀ t : Tm, t.names.length ≤ 2 ^ t.depth
  | .num _ => Nat.zero_le _
  | .nam _ => Nat.le_refl _
  | .bin _ a b => by
    show (a.names ++ b.names).length ≤ 2 ^ (max a.depth b.depth + 1)
    have h1 := names_len a
    have h2 := names_len b
    have h3 : 2 ^ a.depth ≤ 2 ^ max a.depth b.depth := Nat.pow_le_pow_right (by decide) (Nat.le_max_left _ _)
    have h4 : 2 ^ b.depth ≤ 2 ^ max a.depth b.depth := Nat.pow_le_pow_right (by decide) (Nat.le_max_right _ _)
    rw [List.length_append, Nat.pow_succ]
    omega
theorem pow16 {n : Nat} (h : n ≤ 16) : 2 ^ n ≤ 65536 := Nat.le_trans (Nat.pow_le_pow_right (by decide : 0 < 2) h) (by decide)
theorem names_mem {nm : List Str} : ∀ {t : Tm}, t.ok nm → ∀ x ∈ t.names, x ∈ nm
  | .num _, _, _, h => by cases h
  | .nam _, h, x, hx => by
    have := List.mem_singleton.mp hx
    subst this
    exact h
  | .bin _ a b, h, x, hx => by
    rcases List.mem_append.mp hx with hx | hx
    · exact names_mem h.1 x hx
    · exact names_mem h.2 x hx
theorem op_at {i : Int} (h0 : 0 ≤ i) (h : i < 3) : atI [PyData.str "sum", .str "times", .str "less"] i = some (.str (opAt i).str) := by
  have : i = 0 ∨ i = 1 ∨ i = 2 := by omega
  rcases this with e | e | e <;> subst e <;> rfl
def PrTerm (n : Nat) : List Ds → PyData → Prop := fun xs d => ∃ (nm : List Str) (s : Int) (left : Nat), xs = [.dat (.list (nm.map .str)), .dat (.int s), .dat (.int (left : Nat))] ∧ nm.length = 4 ∧ left < n ∧ d = encT (termS nm left s)
def PrNin (n : Nat) : List Ds → PyData → Prop := fun xs d => ∃ t : Tm, xs = [.dat (encT t)] ∧ t.depth < n ∧ n ≤ 16 ∧ d = .list (t.names.map .str)
structure Plan (nm : List Str) (lv : List Int) : Prop where
  n4 : nm.length = 4
  l4 : lv.length = 4
  lo : ∀ z ∈ lv, 0 ≤ z ∧ z ≤ 2
def PrDeed (n : Nat) : List Ds → PyData → Prop := fun xs d => ∃ (nm : List Str) (lv : List Int) (hon : Bool) (c : Int) (deep : Nat) (need : Int),
  xs = [.dat (.tuple [.list (nm.map .str), .list (lv.map .int), .bool hon]), .dat (.int c), .dat (.int (deep : Nat)), .dat (.int need)] ∧ Plan nm lv ∧ (0 ≤ need ∧ need ≤ 2) ∧ deep < n ∧ d = encD (deedS nm lv hon deep c need)
def PrBlock (n : Nat) : List Ds → PyData → Prop := fun xs d => ∃ (nm : List Str) (lv : List Int) (hon : Bool) (c : Int) (deep : Nat) (need : Int),
  xs = [.dat (.tuple [.list (nm.map .str), .list (lv.map .int), .bool hon]), .dat (.int c), .dat (.int (deep : Nat)), .dat (.int need)] ∧ Plan nm lv ∧ (0 ≤ need ∧ need ≤ 2) ∧ deep < n ∧ d = encB (blockS nm lv hon deep c need)
theorem lv_at {nm : List Str} {lv : List Int} (p : Plan nm lv) {x : Str} (h : x ∈ nm) : atI (lv.map PyData.int) (nm.idxOf x : Nat) = some (.int (lvOf nm lv x)) := by
  have h1 := List.idxOf_lt_length_iff.mpr h
  have h2 : nm.idxOf x < lv.length := by rw [p.l4, ← p.n4]; exact h1
  refine atI_nat ?_
  unfold lvOf
  rw [List.getElem?_map, List.getElem?_eq_getElem h2, List.getD_eq_getElem?_getD, List.getElem?_eq_getElem h2]
  rfl
theorem lvOf_lo {nm : List Str} {lv : List Int} (p : Plan nm lv) (x : Str) : 0 ≤ lvOf nm lv x ∧ lvOf nm lv x ≤ 2 := by
  unfold lvOf
  rw [List.getD_eq_getElem?_getD]
  cases c : lv[nm.idxOf x]? with
  | none => exact ⟨Int.le_refl _, by decide⟩
  | some z => exact p.lo z (List.mem_of_getElem? c)
theorem highOf_lo {nm : List Str} {lv : List Int} (p : Plan nm lv) (t : Tm) {need : Int} (h : 0 ≤ need ∧ need ≤ 2) : (0 ≤ highOf nm lv t need ∧ highOf nm lv t need ≤ 2) ∧ need ≤ highOf nm lv t need := by
  unfold highOf
  induction t.names with
  | nil => exact ⟨h, Int.le_refl _⟩
  | cons x r ih =>
    have := lvOf_lo p x
    show (0 ≤ max (lvOf nm lv x) _ ∧ max (lvOf nm lv x) _ ≤ 2) ∧ need ≤ max (lvOf nm lv x) _
    omega
end Wk
namespace Wk
open PySem PySem.Spec L2 Fw
def termOf (nm : List Str) (c : Int) : Tm := termS nm (1 + c % 2).toNat c
def lastD (nm : List Str) (lv : List Int) (hon : Bool) (c high : Int) : Dd :=
  if mix c 9871 9 < 7 ∧ someOf lv hon high ≠ [] then .put (nameAt nm ((someOf lv hon high).getD (mix c 9857 (someOf lv hon high).length).toNat 0)) (termOf nm c)
  else .shw (max (mix c 9851 3) (high * (if hon then 1 else 0))) (termOf nm c)
theorem deedS_0 {nm : List Str} {lv : List Int} {hon : Bool} {c need : Int} : deedS nm lv hon 0 c need = lastD nm lv hon c (highOf nm lv (termOf nm c) need) := rfl
theorem deedS_1 {nm : List Str} {lv : List Int} {hon : Bool} {n : Nat} {c need : Int} : deedS nm lv hon (n + 1) c need =
    if mix c 9871 9 < 2 then .ite (termOf nm c) (blockS nm lv hon n (c * 3 + 1) (highOf nm lv (termOf nm c) need)) (blockS nm lv hon n (c * 5 + 2) (highOf nm lv (termOf nm c) need))
    else if mix c 9871 9 < 4 ∧ (need = 0 ∨ hon = false) then .whl (if hon then .bin .less (.nam (nameAt nm 0)) (.num (mix c 9859 6)) else termOf nm c) (blockS nm lv hon n (c * 3 + 1) need ++ [moreD nm])
    else lastD nm lv hon c (highOf nm lv (termOf nm c) need) := rfl
theorem deed_ite {nm : List Str} {lv : List Int} {hon : Bool} {n : Nat} {c need : Int} (h : mix c 9871 9 < 2) : deedS nm lv hon (n + 1) c need = .ite (termOf nm c) (blockS nm lv hon n (c * 3 + 1) (highOf nm lv (termOf nm c) need)) (blockS nm lv hon n (c * 5 + 2) (highOf nm lv (termOf nm c) need)) := by
  rw [deedS_1, if_pos h]
theorem deed_whl {nm : List Str} {lv : List Int} {hon : Bool} {n : Nat} {c need : Int} (h : ¬ mix c 9871 9 < 2) (h4 : mix c 9871 9 < 4 ∧ (need = 0 ∨ hon = false)) : deedS nm lv hon (n + 1) c need = .whl (if hon then .bin .less (.nam (nameAt nm 0)) (.num (mix c 9859 6)) else termOf nm c) (blockS nm lv hon n (c * 3 + 1) need ++ [moreD nm]) := by
  rw [deedS_1, if_neg h, if_pos h4]
theorem deed_last {nm : List Str} {lv : List Int} {hon : Bool} {n : Nat} {c need : Int} (h : ¬ ((n : Int) > 0 ∧ mix c 9871 9 < 2)) (h4 : ¬ ((n : Int) > 0 ∧ mix c 9871 9 < 4 ∧ (need = 0 ∨ hon = false))) : deedS nm lv hon n c need = lastD nm lv hon c (highOf nm lv (termOf nm c) need) := by
  cases n with
  | zero => rfl
  | succ n =>
    rw [deedS_1, if_neg (fun e => h ⟨by omega, e⟩), if_neg (fun e => h4 ⟨by omega, e⟩)]
theorem last_put {nm : List Str} {lv : List Int} {hon : Bool} {c high : Int} (h : mix c 9871 9 < 7 ∧ someOf lv hon high ≠ []) : lastD nm lv hon c high = .put (nameAt nm ((someOf lv hon high).getD (mix c 9857 (someOf lv hon high).length).toNat 0)) (termOf nm c) := by
  unfold lastD
  rw [if_pos h]
theorem last_shw {nm : List Str} {lv : List Int} {hon : Bool} {c high : Int} (h : ¬ (mix c 9871 9 < 7 ∧ someOf lv hon high ≠ [])) : lastD nm lv hon c high = .shw (max (mix c 9851 3) (high * (if hon then 1 else 0))) (termOf nm c) := by
  unfold lastD
  rw [if_neg h]
theorem some_lo {lv : List Int} {hon : Bool} {high : Int} : ∀ z ∈ someOf lv hon high, 0 ≤ z ∧ z < 4 := by
  intro z hz
  obtain ⟨k, hk, rfl⟩ := List.mem_map.mp hz
  have := List.mem_range.mp (List.mem_filter.mp hk).1
  omega
theorem some_len {lv : List Int} {hon : Bool} {high : Int} : (someOf lv hon high).length ≤ 4 := by
  unfold someOf
  rw [List.length_map]
  exact Nat.le_trans (List.length_filter_le _ _) (Nat.le_of_eq (List.length_range))
theorem some_data {lv : List Int} {hon : Bool} {high : Int} : (someOf lv hon high).map PyData.int = (((rangeD 0 4).filter fun d => match d with | .int k => decide (lv.getD k.toNat 0 ≥ high) || !hon | _ => false).map id) := by
  unfold someOf rangeD
  rw [List.map_id, List.map_map, List.filter_map]
  simp only [Function.comp_def, Int.zero_add, Int.toNat_natCast]
theorem getI {ns : List Int} {i : Int} (h0 : 0 ≤ i) (h : i < ns.length) : atI (ns.map PyData.int) i = some (.int (ns.getD i.toNat 0)) ∧ ns.getD i.toNat 0 ∈ ns := by
  have e : i = ((i.toNat : Nat) : Int) := by omega
  have hi : i.toNat < ns.length := by omega
  have q : atI (ns.map PyData.int) ((i.toNat : Nat) : Int) = some (.int (ns.getD i.toNat 0)) := atI_nat (by
    rw [List.getElem?_map, List.getD_eq_getElem?_getD, List.getElem?_eq_getElem hi]
    rfl)
  rw [← e] at q
  refine ⟨q, ?_⟩
  rw [List.getD_eq_getElem?_getD, List.getElem?_eq_getElem hi]
  exact List.getElem_mem hi
theorem encL_app (a b : List Dd) : encL (a ++ b) = encL a ++ encL b := by
  rw [encL_map, encL_map, encL_map, List.map_append]
theorem blockS_len {nm : List Str} {lv : List Int} {hon : Bool} {n : Nat} {c need : Int} : (blockS nm lv hon n c need).length ≤ 2 := by
  unfold blockS manyOf
  rw [List.length_map, List.length_range]
  have := mix_hi c (p := 9839) (m := 2) (by omega)
  omega
/-- which cells a program is made of -/
def cellsOf (ns : List Int) (k : Int) : List Int := cutI ns (some k) (some (k + 1 + cell ns 0 % 3))
def honS (ns : List Int) : Bool := decide (mix (cell ns 0) 9833 4 > 0)
def nmS (ns : List Int) : List Str := namesS (cell ns 0)
def lvS (ns : List Int) : List Int := levelsS (cell ns 1)
def progS (ns : List Int) (k : Int) : List Dd := (cellsOf ns k).map fun c => deedS (nmS ns) (lvS ns) (honS ns) 2 c 0
theorem plan_ok (ns : List Int) : Plan (nmS ns) (lvS ns) := by
  refine ⟨by simp [nmS, namesS], rfl, fun z hz => ?_⟩
  have h3 : ∀ c p, 0 ≤ mix c p 3 ∧ mix c p 3 ≤ 2 := fun c p => ⟨mix_lo _ (by omega), by have := mix_hi c (p := p) (m := 3) (by omega); omega⟩
  have hz : z ∈ [0, 2, mix (cell ns 1) 9923 3, mix (cell ns 1) 9907 3] := hz
  simp only [List.mem_cons, List.not_mem_nil, or_false] at hz
  rcases hz with e | e | e | e <;> subst e
  · decide
  · decide
  · exact h3 _ _
  · exact h3 _ _
theorem cells_len {ns : List Int} {k : Int} (h : ns.length ≤ 63) : (cellsOf ns k).length ≤ 63 := by
  unfold cellsOf cutI
  rw [List.length_take, List.length_drop]
  omega
def PrProg : List Ds → PyData → Prop := fun xs d => ∃ (ns : List Int) (k : Int), xs = [.scr ns, .dat (.int k)] ∧ ns.length ≤ 63 ∧ d = encB (progS ns k)
theorem pr_prog {ns : List Int} {k : Int} (h : ns.length ≤ 63) : PrProg [.scr ns, .dat (.int k)] (encB (progS ns k)) := ⟨ns, k, rfl, h, rfl⟩
end Wk
/-! ### the rules, the written part K named (a comprehension's block has another context, the same K) -/
namespace Fw
open PySem PySem.Spec L2
section
variable {X : Cx} (K : PySem.W.Frag) (h : X.K = K)
include h
theorem k_ixL : IxR X (rIxL K) := h ▸ ix_list
theorem k_ixT : IxR X (rIxT K) := h ▸ ix_tup
theorem k_slL : SlR X (rSlL K) := h ▸ sl_list
theorem k_slT : SlR X (rSlF K) := h ▸ sf_tup
theorem k_eqD (hu : X.A.units + 64 < cLine) : OpR X (compareOp .Eq) (rEqD K) := h ▸ op_eqD hu
theorem k_neD (hu : X.A.units + 64 < cLine) : OpR X (compareOp .NotEq) (rNeD K) := h ▸ op_neD hu
theorem k_inD (hu : X.A.units + 65 < cLine) : OpR X (compareOp .In) (rInD K) := h ▸ op_inD hu
theorem k_ninD (hu : X.A.units + 65 < cLine) : OpR X (compareOp .NotIn) (rNotInD K) := h ▸ op_notInD hu
theorem k_inQ : OpR X (compareOp .In) (rIn K false) := h ▸ op_in_seq
theorem k_ninQ : OpR X (compareOp .NotIn) (rIn K true) := h ▸ op_notIn_seq
theorem k_catT : OpR X (binaryOp .Add) (rCatF K) := h ▸ of_cat
theorem k_all (hc : X.calm = true) : CallR X (.builtin "all") (rAll K) := h ▸ cr_all hc
theorem k_any (hc : X.calm = true) : CallR X (.builtin "any") (rAny K) := h ▸ cr_any hc
theorem k_max (hc : X.calm = true) : CallR X (.builtin "max") (rMax K) := h ▸ cr_max hc
theorem k_tup : CallR X (.type "tuple") (rTupF K) := h ▸ cf_tup
theorem k_list : CallR X (.type "list") (rListOf K) := h ▸ cr_listOf
theorem k_len : CallR X (.builtin "len") (rLen K) := h ▸ call_len
theorem k_isi : CallR X (.builtin "isinstance") (rIsi K) := h ▸ call_isi
theorem k_pil {tg l : Expr} {tl : TE} (hl : PE X l tl) : PI X tg l (iList K tl) := h ▸ pi_list hl
theorem k_pit {tg l : Expr} {tl : TE} (hl : PE X l tl) : PI X tg l (iTup K tl) := h ▸ pi_tup hl
theorem k_enum {e : Expr} {ta : TA} {p pos tpos : Pos} {elts : List Expr} {kk : Nat} (hg : Gl X "enumerate") (hm : X.mg "enumerate" = none) (ha : PA X [e] ta) (hs : starEach [e] X.env = [(false, eval e X.env)] := by rfl) :
    PI X (.Tuple elts kk tpos) (.Call (.Name "enumerate" p) [e] [] pos) (iEnum K ta) := h ▸ pi_enum hg hm ha hs
theorem k_zip {e e2 : Expr} {ta : TA} {p pos tpos : Pos} {elts : List Expr} {kk : Nat} (hg : Gl X "zip") (hm : X.mg "zip" = none) (ha : PA X [e, e2] ta)
    (hs : starEach [e, e2] X.env = (false, eval e X.env) :: starEach [e2] X.env := by rfl) (hpl : (backTo pos (starEach [e2] X.env)).any (·.1) = false := by rfl) : PI X (.Tuple elts kk tpos) (.Call (.Name "zip" p) [e, e2] [] pos) (iZip K ta) := h ▸ pi_zip hg hm ha hs hpl
theorem k_gt {es : List Expr} {k : Nat} {t : TGs} {n : Nat} {pos : Pos} (hc : X.calm = true) (hp : PGs X es t) (hn : (assignEach es X.env).length = n := by rfl) (hst : (assignEach es X.env).findIdx? (·.1) = none := by rfl) : PG X (.Tuple es k pos) (gTup K n t) := h ▸ pg_tup hc hp hn hst
theorem k_bm {o e : Expr} {es : List Expr} {to : TE} {t : TA} {name : Str} {apos cpos : Pos} {T id : String} {r : V → List V → Hp → VK → Prop} (pa : PlainAttrs T) (slot : Slot T name id) (hty : typeOf (.builtin id) = pure (.type "method_descriptor")) (hm : MtR X id r) (ho : PE X o to) (ha : PA X (e :: es) t)
    (hbase : attributeBase o name X.env (eval o X.env) = eval o X.env := by rfl)
    (hfew : ((backTo cpos (starEach (e :: es) X.env)).all (fun x => !x.1) && (backToKw cpos (keywordEach [] X.env)).all (fun x => x.1.isSome)
      && decide ((e :: es).length + ([] : List Keyword).length + (if ([] : List Keyword).isEmpty then 0 else 1) < 30)) = true := by rfl)
    (hline : (apos.endLine == cpos.line) = true := by rfl) (hs : starEach (e :: es) X.env = (false, eval e X.env) :: starEach es X.env := by rfl) (hplain : (backTo cpos (starEach es X.env)).any (·.1) = false := by rfl) :
    PE X (.Call (.Attribute o name apos) (e :: es) [] cpos) (tBM K T r to t) := h ▸ pe_bm pa slot hty hm ho ha hbase hfew hline hs hplain
theorem k_index : MtR X "list.index" (rIndex K) := h ▸ mt_index
theorem k_truth {a : Expr} {ta : TE} (ha : PE X a ta) (he : ∀ whole, isTrue a X.env whole = (do let v ← whole; standAt a.pos; holding [v] (truthy v))) : PT X a (tTruth K ta) := h ▸ pt_truth ha he
theorem k_join {o e : Expr} {to te : TE} {apos pos : Pos} (ho : PE X o to) (he : PE X e te) (hs : starEach [e] X.env = [(false, eval e X.env)] := by rfl) (hbase : attributeBase o "join" X.env (eval o X.env) = eval o X.env := by rfl) (hline : (apos.endLine == pos.line) = true := by rfl) :
    PE X (.Call (.Attribute o "join" apos) [e] [] pos) (tJoin K to te) := h ▸ pe_join ho he hs hbase hline
end
end Fw
/-! ### sorted over data -/
namespace Fw
open PySem PySem.Spec L2
open PySem.W (dataLe dataLt alike AllAlike Sortable EachIs TotalLe)
def upD (ds : List PyData) : List PyData := ds.mergeSort (dataLe false id)
def rSortD : List V → Hp → VK → Prop := fun vs H Q => ∃ (a : Addr) (us : List V) (ds : List PyData) (G : Hp), vs = [V.ref a] ∧ H a = some (.lst us) ∧ Same G H ∧ DrAll G us ds ∧ AllAlike ds ∧ Sortable ds ∧ ds.length ≤ 100000 ∧ (∀ d ∈ ds, d.depth ≤ 50) ∧
  ∀ ws p, DrAll G ws (upD ds) → H p = none → Q (.ref p) (upd H p (.lst ws))
theorem each_vals {G : Hp} : ∀ {its : List Value} {us : List V} {ds : List PyData}, Vals us its → DrAll G us ds → EachIs (fun u d => ∃ v, RelV v u ∧ Dr G v d) its ds
  | _, _, _, .nil, .nil => .nil
  | _, _, _, .cons r t, .cons h hs => .cons ⟨_, r, h⟩ (each_vals t hs)
theorem vals_each {G : Hp} : ∀ {its : List Value} {ds : List PyData}, EachIs (fun u d => ∃ v, RelV v u ∧ Dr G v d) its ds → ∃ us, Vals us its ∧ DrAll G us ds
  | _, _, .nil => ⟨[], .nil, .nil⟩
  | _, _, .cons ⟨v, r, h⟩ t => by
    obtain ⟨us, h1, h2⟩ := vals_each t
    exact ⟨v :: us, .cons r h1, .cons h h2⟩
theorem each_mono' {α β : Type} {R S : α → β → Prop} (f : ∀ a b, R a b → S a b) {as : List α} {bs : List β} (h : EachIs R as bs) : EachIs S as bs := h.mono f
theorem cr_sortD {X : Cx} (hu : X.A.units + 100 < cLine) : CallR X (.builtin "sorted") rSortD := by
  intro pins s σ H vs us Q I r h
  obtain ⟨a, xs, ds, G, rfl, ha, sG, hd, hal, hk, hz, hdp, q⟩ := h
  obtain ⟨its, rv, hl, _⟩ := I.list (SqL.of ha)
  rw [Vals.ref1 r]
  have e1 := each_vals rv hd
  have e2 : EachIs (fun u d => ∃ as, Reads s.heap u (id d) as) its ds := e1.mono fun u d ⟨v, rv, hv⟩ => Dp.reads I d v u ((hv.up sG).dp) rv
  refine PySem.W.sorted_data (enc := id) hl.isList e1 e2 (by rw [List.map_id]; exact hal) (by rw [List.map_id]; exact hk) (Nat.le_trans hz (by decide)) (fun d hd => ?_) fun out h1 h2 => ?_
  · have := hdp d hd
    show X.A.units + 2 + d.depth < cLine
    omega
  · obtain ⟨ws, k1, k2⟩ := vals_each h2
    obtain ⟨ep, he'⟩ := PyProof.Rows.sortedAll_at s.heap its out.toArray
    have hlen : ws.length ≤ sizeLine := by
      rw [k1.length, h1]
      exact Nat.le_trans hz (by decide)
    exact ⟨.ref _, upd H (s.heap.objs.size + 1) (.lst ws), I.laid (t' := s.toks) (fun _ _ => PyProof.Rows.sortedAll_old) (Nat.le_succ _) ⟨hlen, out, ep, k1, he'⟩, rfl, q ws _ k2 (I.hok.fresh (Nat.le_succ _))⟩
theorem hu100 {k : Nat} {A : Around} (r : Room k A) : A.units + 100 < cLine := by
  have := r.un
  omega
section
variable {K : PySem.W.Frag} {Γ : List Ds} {ds : List PyData} {t : TE}
theorem ev_sortD (h : EvS K t Γ ds) (hal : AllAlike ds) (hk : Sortable ds) (hz : ds.length ≤ 100000) (hd : ∀ d ∈ ds, d.depth ≤ 50) : Ev K (tCB rSortD (tCons t tNil)) Γ (.dat (.list (upD ds))) := fun G0 H0 G H σ E Q q =>
  h G0 H0 G H σ E _ fun a vs G1 H1 e1 hp hs => ⟨a, vs, ds, G1, rfl, hp, e1.i, hs, hal, hk, hz, hd, fun ws p hw np => q _ _ _ (e1.trans (Ext.new e1.i np)) (.lst upd_same (hw.up (same_up (e1.i.free np))))⟩
end
/-! ### pairs of names and numbers -/
def encP (p : Str × Int) : PyData := .tuple [.str p.1, .int p.2]
def strLt (x y : Str) : Bool := decide (x.cps.toList < y.cps.toList)
theorem strLt_ne {x y : Str} (h : strLt x y = true) : x ≠ y := by
  rintro rfl
  exact absurd (of_decide_eq_true h) (List.lt_irrefl _)
theorem strLt_asymm {x y : Str} (h : strLt x y = true) : strLt y x = false :=
  decide_eq_false fun h' => List.lt_irrefl _ (List.lt_trans (of_decide_eq_true h) h')
theorem strLt_trans {x y z : Str} (h : strLt x y = true) (h' : strLt y z = true) : strLt x z = true := decide_eq_true (List.lt_trans (of_decide_eq_true h) (of_decide_eq_true h'))
theorem strLt_total {x y : Str} (h : strLt x y = false) (n : x ≠ y) : strLt y x = true := by
  refine decide_eq_true ?_
  have h1 : ¬ x.cps.toList < y.cps.toList := of_decide_eq_false h
  have h2 : y.cps.toList ≤ x.cps.toList := List.not_lt.mp h1
  rcases List.le_iff_lt_or_eq.mp h2 with h3 | h3
  · exact h3
  · exact absurd (PySem.W.str_of_cps h3).symm n
theorem alike_P (p q : Str × Int) : alike (encP p) (encP q) = true := by
  simp [encP, alike, PySem.W.alikeAll]
def pairLe (a b : Str × Int) : Bool := dataLe false encP a b
theorem eqv_str (x y : Str) : PyData.eqv (.str x) (.str y) = (x == y) := by simp [PyData.eqv]
theorem eqv_int (x y : Int) : PyData.eqv (.int x) (.int y) = (x == y) := by simp [PyData.eqv]
theorem pairLe_eq (a b : Str × Int) : pairLe a b = if b.1 = a.1 then decide (a.2 ≤ b.2) else !strLt b.1 a.1 := by
  unfold pairLe
  rw [PySem.W.dataLe_eq]
  show (!dataLt (encP b) (encP a)) = _
  unfold encP
  rw [PySem.W.dataLt_pair (by simp [alike]) (by simp [alike]), PySem.W.dataLt_int, PySem.W.dataLt_str, eqv_str, eqv_int]
  by_cases h : b.1 = a.1
  · rw [if_pos h, if_pos (by simp [h])]
    by_cases h2 : b.2 = a.2
    · simp [h2]
    · rw [if_neg (by simp [h2])]
      by_cases h3 : b.2 < a.2
      · have h4 : ¬ a.2 ≤ b.2 := by omega
        simp [h3, h4]
      · have h4 : a.2 ≤ b.2 := by omega
        simp [h3, h4]
  · rw [if_neg h, if_neg (by simp [h])]
    rfl
theorem pairLe_total : TotalLe pairLe := PySem.W.sortLe_total _ false _
/-- pairs, rising -/
def upP (ps : List (Str × Int)) : List (Str × Int) := ps.mergeSort pairLe
theorem upD_P (ps : List (Str × Int)) : upD (ps.map encP) = (upP ps).map encP := (PySem.W.sort_maps encP fun _ _ _ _ => rfl).symm
theorem upP_perm (ps : List (Str × Int)) : (upP ps).Perm ps := List.mergeSort_perm _ _
/-- rising by names, no name twice -/
def Rising (ps : List (Str × Int)) : Prop := ps.Pairwise fun a b => strLt a.1 b.1 = true
theorem upP_rising {ps : List (Str × Int)} (h : (ps.map (·.1)).Nodup) : Rising (upP ps) := by
  have h1 := PySem.W.sort_pairwise pairLe_total ps
  have h2 : ((upP ps).map (·.1)).Nodup := ((upP_perm ps).map _).nodup_iff.mpr h
  have h3 : (upP ps).Pairwise fun a b => a.1 ≠ b.1 := List.pairwise_map.mp h2
  refine (List.Pairwise.and h1 h3).imp fun {a b} ⟨q1, q2⟩ => ?_
  rw [pairLe_eq, if_neg fun e => q2 e.symm] at q1
  exact strLt_total (by simpa using q1) fun e => q2 e.symm
theorem sortable_P (ps : List (Str × Int)) : Sortable (ps.map encP) := Sortable.tuples fun b => ⟨.str b.1, [.int b.2], rfl⟩
theorem alikes_P (ps : List (Str × Int)) : AllAlike (ps.map encP) := AllAlike.of alike_P
theorem depth_P (ps : List (Str × Int)) : ∀ d ∈ ps.map encP, d.depth ≤ 50 := fun d hd => by
  obtain ⟨p, _, rfl⟩ := List.mem_map.mp hd
  simp [encP, PyData.depth, PyData.depthAll]
/-! ### texts, rising -/
theorem alikes_S (xs : List Str) : AllAlike (xs.map .str) := AllAlike.of fun _ _ => by simp [alike]
theorem sortable_S (xs : List Str) : Sortable (xs.map .str) := Sortable.others fun b => ⟨(by simp), fun xs e => by cases e⟩
theorem depth_S (xs : List Str) : ∀ d ∈ xs.map PyData.str, d.depth ≤ 50 := fun d hd => by
  obtain ⟨p, _, rfl⟩ := List.mem_map.mp hd
  simp [PyData.depth]
def upS (xs : List Str) : List Str := xs.mergeSort (dataLe false PyData.str)
theorem upD_S (xs : List Str) : upD (xs.map .str) = (upS xs).map .str := (PySem.W.sort_maps PyData.str fun _ _ _ _ => rfl).symm
end Fw
/-! ### stores and houses of the laws -/
namespace Wk
open PySem PySem.Spec L2 Fw
def encS (ps : List (Str × Int)) : PyData := .tuple (ps.map encP)
def numS (ns : List Int) (k n : Nat) : Int := if cell ns k % 4 = 0 then mix (cell ns k + 13 * (n : Int)) 9829 997 % 3 else mix (cell ns k + 13 * (n : Int)) 9829 997
def rawS (ns : List Int) (k : Nat) : List (Str × Int) := (List.range 4).map fun n => (nameS (cell ns 0) n, numS ns k n)
def storeS (ns : List Int) (k : Nat) : List (Str × Int) := upP (rawS ns k)
theorem numS_lo (ns : List Int) (k n : Nat) : 0 ≤ numS ns k n ∧ numS ns k n ≤ 996 := by
  have := mix997 (cell ns k + 13 * (n : Int)) 9829
  unfold numS
  split <;> omega
theorem raw_names (ns : List Int) (k : Nat) : (rawS ns k).map (·.1) = nmS ns := by
  unfold rawS nmS namesS
  rw [List.map_map]
  rfl
theorem nmS_nodup (ns : List Int) : (nmS ns).Nodup := by
  unfold nmS namesS
  refine List.pairwise_map.mpr ?_
  refine List.Pairwise.imp_of_mem ?_ (List.nodup_range (n := 4))
  intro a b ha hb hab h
  exact hab (nameS_inj (List.mem_range.mp ha) (List.mem_range.mp hb) h)
theorem nmS_len (ns : List Int) : (nmS ns).length = 4 := (plan_ok ns).n4
theorem store_rising (ns : List Int) (k : Nat) : Rising (storeS ns k) := upP_rising (by rw [raw_names]; exact nmS_nodup ns)
theorem store_perm (ns : List Int) (k : Nat) : (storeS ns k).Perm (rawS ns k) := upP_perm _
theorem store_ok (ns : List Int) (k : Nat) : ∀ p ∈ storeS ns k, p.1 ∈ nmS ns ∧ 0 ≤ p.2 ∧ p.2 ≤ 996 := fun p hp => by
  have h := (store_perm ns k).mem_iff.mp hp
  refine ⟨?_, ?_⟩
  · rw [← raw_names ns k]
    exact List.mem_map.mpr ⟨p, h, rfl⟩
  · obtain ⟨n, _, rfl⟩ := List.mem_map.mp h
    exact numS_lo ns k n
theorem store_len (ns : List Int) (k : Nat) : (storeS ns k).length = 4 := by
  rw [(store_perm ns k).length_eq, ← List.length_map (f := fun p : Str × Int => p.1), raw_names, nmS_len]
def PrStore : List Ds → PyData → Prop := fun xs d => ∃ (ns : List Int) (k : Int), xs = [.scr ns, .dat (.int k)] ∧ 0 ≤ k ∧ ns.length ≤ 63 ∧ d = encS (storeS ns k.toNat)
theorem pr_store {ns : List Int} {k : Int} (h0 : decide (0 ≤ k) = true) (h : ns.length ≤ 63) : PrStore [.scr ns, .dat (.int k)] (encS (storeS ns k.toNat)) := ⟨ns, k, rfl, of_decide_eq_true h0, h, rfl⟩
end Wk
/-! ### books: names and their numbers, as a dict holds them -/
namespace Wk
open PySem PySem.Spec L2 Fw
def look? (l : List (Str × Int)) (x : Str) : Option Int := (l.find? fun p => decide (p.1 = x)).map (·.2)
def look (l : List (Str × Int)) (x : Str) : Int := (look? l x).getD 0
def has (l : List (Str × Int)) (x : Str) : Bool := l.any fun p => decide (p.1 = x)
def dput (l : List (Str × Int)) (x : Str) (v : Int) : List (Str × Int) := if has l x = true then l.map (fun p => if p.1 = x then (p.1, v) else p) else l ++ [(x, v)]
def bk (l : List (Str × Int)) : List (Str × V) := l.map fun p => (p.1, V.int p.2)
theorem look?_pos {p : Str × Int} {r : List (Str × Int)} {x : Str} (e : p.1 = x) : look? (p :: r) x = some p.2 := by simp [look?, List.find?_cons, e]
theorem look?_neg {p : Str × Int} {r : List (Str × Int)} {x : Str} (e : ¬ p.1 = x) : look? (p :: r) x = look? r x := by simp [look?, List.find?_cons, e]
theorem kvl_bk (l : List (Str × Int)) : kvl (bk l) = l.map fun p => ((Sum.inr p.1 : Key), V.int p.2) := by
  unfold kvl bk
  rw [List.map_map]
  rfl
theorem inr_ne {a b : Str} (h : ¬ a = b) : ¬ (Sum.inr a : Key) = Sum.inr b := fun e => h (Sum.inr.inj e)
theorem valV_bk (l : List (Str × Int)) (x : Str) : valV (kvl (bk l)) (Sum.inr x : Key) = (look? l x).map V.int := by
  rw [kvl_bk]
  induction l with
  | nil => rfl
  | cons p r ih =>
    rw [List.map_cons]
    by_cases e : p.1 = x
    · rw [valV_pos (show ((Sum.inr p.1 : Key), V.int p.2).1 = Sum.inr x from congrArg Sum.inr e), look?_pos e]
      rfl
    · rw [valV_neg (p := ((Sum.inr p.1 : Key), V.int p.2)) (inr_ne e), look?_neg e]
      exact ih
theorem any_bk (l : List (Str × Int)) (x : Str) : ((kvl (bk l)).any fun kv => decide (kv.1 = (Sum.inr x : Key))) = has l x := by
  rw [kvl_bk, List.any_map]
  unfold has
  congr 1
  funext p
  show decide ((Sum.inr p.1 : Key) = Sum.inr x) = decide (p.1 = x)
  by_cases e : p.1 = x
  · rw [decide_eq_true e, decide_eq_true (congrArg Sum.inr e)]
  · rw [decide_eq_false e, decide_eq_false (inr_ne e)]
theorem putK_bk (l : List (Str × Int)) (x : Str) (v : Int) : putK (kvl (bk l)) (Sum.inr x : Key) (.int v) = kvl (bk (dput l x v)) := by
  unfold putK dput
  rw [any_bk]
  split
  · rw [kvl_bk, kvl_bk, List.map_map, List.map_map]
    refine List.map_congr_left fun p _ => ?_
    show (if (Sum.inr p.1 : Key) = Sum.inr x then ((Sum.inr p.1 : Key), V.int v) else (Sum.inr p.1, V.int p.2)) = (Sum.inr (if p.1 = x then (p.1, v) else p).1, V.int (if p.1 = x then (p.1, v) else p).2)
    by_cases e : p.1 = x
    · rw [if_pos (congrArg Sum.inr e), if_pos e]
    · rw [if_neg (inr_ne e), if_neg e]
  · rw [kvl_bk, kvl_bk, List.map_append]
    rfl
theorem map_int_inj {a b : Option Int} (h : a.map V.int = b.map V.int) : a = b := by
  cases a <;> cases b <;> simp_all
theorem look?_dput (l : List (Str × Int)) (x y : Str) (v : Int) : look? (dput l x v) y = if y = x then some v else look? l y := by
  have h := valV_put (kvl (bk l)) (Sum.inr x : Key) (Sum.inr y) (.int v)
  rw [putK_bk, valV_bk, valV_bk] at h
  refine map_int_inj ?_
  rw [h]
  by_cases e : y = x
  · rw [if_pos (congrArg Sum.inr e), if_pos e]
    rfl
  · rw [if_neg (inr_ne e), if_neg e]
theorem look_dput (l : List (Str × Int)) (x y : Str) (v : Int) : look (dput l x v) y = if y = x then v else look l y := by
  unfold look
  rw [look?_dput]
  split <;> rfl
theorem has_iff {l : List (Str × Int)} {x : Str} : has l x = true ↔ x ∈ l.map (·.1) := by
  unfold has
  rw [List.any_eq_true, List.mem_map]
  exact ⟨fun ⟨p, h, e⟩ => ⟨p, h, of_decide_eq_true e⟩, fun ⟨p, h, e⟩ => ⟨p, h, decide_eq_true e⟩⟩
theorem keys_dput (l : List (Str × Int)) (x : Str) (v : Int) : (dput l x v).map (·.1) = if has l x = true then l.map (·.1) else l.map (·.1) ++ [x] := by
  unfold dput
  split
  · rw [List.map_map]
    refine List.map_congr_left fun p _ => ?_
    show (if p.1 = x then (p.1, v) else p).1 = p.1
    split <;> rfl
  · rw [List.map_append]
    rfl
theorem nodup_dput {l : List (Str × Int)} {x : Str} {v : Int} (h : (l.map (·.1)).Nodup) : ((dput l x v).map (·.1)).Nodup := by
  rw [keys_dput]
  split
  · exact h
  · rename_i hn
    refine List.nodup_append.mpr ⟨h, List.nodup_cons.mpr ⟨List.not_mem_nil, List.nodup_nil⟩, fun a ha b hb e => ?_⟩
    have := List.mem_singleton.mp hb
    subst this
    subst e
    exact hn (has_iff.mpr ha)
theorem mem_dput {l : List (Str × Int)} {x y : Str} {v : Int} : y ∈ (dput l x v).map (·.1) ↔ y ∈ l.map (·.1) ∨ y = x := by
  rw [keys_dput]
  split
  · rename_i h
    exact ⟨.inl, fun q => q.elim id fun e => e ▸ has_iff.mp h⟩
  · rw [List.mem_append, List.mem_singleton]
theorem vals_dput {l : List (Str × Int)} {x : Str} {v : Int} {R : Int → Prop} (h : ∀ p ∈ l, R p.2) (hv : R v) : ∀ p ∈ dput l x v, R p.2 := by
  intro p hp
  unfold dput at hp
  split at hp
  · obtain ⟨q, hq, rfl⟩ := List.mem_map.mp hp
    split
    · exact hv
    · exact h q hq
  · rcases List.mem_append.mp hp with hp | hp
    · exact h p hp
    · have := List.mem_singleton.mp hp
      subst this
      exact hv
theorem len_dput (l : List (Str × Int)) (x : Str) (v : Int) : (dput l x v).length ≤ l.length + 1 := by
  unfold dput
  split
  · rw [List.length_map]
    omega
  · rw [List.length_append, List.length_singleton]
    exact Nat.le_refl _
theorem look?_none {l : List (Str × Int)} {x : Str} : look? l x = none ↔ x ∉ l.map (·.1) := by
  induction l with
  | nil => simp [look?]
  | cons p r ih =>
    rw [List.map_cons, List.mem_cons]
    by_cases e : p.1 = x
    · rw [look?_pos e]
      simp [e]
    · rw [look?_neg e, ih]
      exact ⟨fun h q => q.elim (fun z => e z.symm) h, fun h q => h (.inr q)⟩
theorem look?_mem {l : List (Str × Int)} {x : Str} {v : Int} (h : look? l x = some v) : (x, v) ∈ l := by
  induction l with
  | nil => simp [look?] at h
  | cons p r ih =>
    by_cases e : p.1 = x
    · rw [look?_pos e] at h
      cases h
      subst e
      exact List.mem_cons_self
    · rw [look?_neg e] at h
      exact List.mem_cons_of_mem _ (ih h)
theorem mem_look? {l : List (Str × Int)} (nd : (l.map (·.1)).Nodup) {x : Str} {v : Int} (h : (x, v) ∈ l) : look? l x = some v := by
  induction l with
  | nil => cases h
  | cons p r ih =>
    rw [List.map_cons, List.nodup_cons] at nd
    rcases List.mem_cons.mp h with e | h
    · subst e
      exact look?_pos rfl
    · have e : ¬ p.1 = x := fun e => nd.1 (by rw [e]; exact List.mem_map.mpr ⟨_, h, rfl⟩)
      rw [look?_neg e]
      exact ih nd.2 h
theorem look_in {l : List (Str × Int)} {x : Str} (h : x ∈ l.map (·.1)) : look? l x = some (look l x) := by
  cases c : look? l x with
  | none => exact absurd h (look?_none.mp c)
  | some v => unfold look; rw [c]; rfl
theorem look_lo {l : List (Str × Int)} (h : ∀ p ∈ l, 0 ≤ p.2 ∧ p.2 ≤ 996) (x : Str) : 0 ≤ look l x ∧ look l x ≤ 996 := by
  unfold look
  cases c : look? l x with
  | none => exact ⟨Int.le_refl _, by show (0 : Int) ≤ 996; decide⟩
  | some v => exact h _ (look?_mem c)
theorem dput_new {l : List (Str × Int)} {x : Str} {v : Int} (h : x ∉ l.map (·.1)) : dput l x v = l ++ [(x, v)] := by
  unfold dput
  rw [if_neg fun e => h (has_iff.mp e)]
theorem merge_new : ∀ {l acc : List (Str × Int)}, ((acc ++ l).map (·.1)).Nodup → mergeK (kvl (bk acc)) (kvl (bk l)) = kvl (bk (acc ++ l))
  | [], acc, _ => by rw [List.append_nil]; rfl
  | p :: r, acc, h => by
    have hx : p.1 ∉ acc.map (·.1) := by
      rw [List.map_append, List.map_cons] at h
      exact fun q => (List.nodup_append.mp h).2.2 _ q _ List.mem_cons_self rfl
    show mergeK (putK (kvl (bk acc)) (Sum.inr p.1 : Key) (.int p.2)) (kvl (bk r)) = _
    rw [putK_bk, dput_new hx, merge_new (l := r) (acc := acc ++ [(p.1, p.2)]) (by rw [List.append_assoc]; exact h), List.append_assoc]
    rfl
theorem merge_bk {l : List (Str × Int)} (h : (l.map (·.1)).Nodup) : mergeK [] (kvl (bk l)) = kvl (bk l) := merge_new (acc := []) h
/-! ### strictly rising lists -/
theorem rise_ext {α : Type} {lt : α → α → Prop} (asym : ∀ a b, lt a b → ¬ lt b a) : ∀ {xs ys : List α}, xs.Pairwise lt → ys.Pairwise lt → (∀ z, z ∈ xs ↔ z ∈ ys) → xs = ys
  | [], [], _, _, _ => rfl
  | [], y :: ys, _, _, h => by cases (h y).mpr List.mem_cons_self
  | x :: xs, [], _, _, h => by cases (h x).mp List.mem_cons_self
  | x :: xs, y :: ys, h1, h2, h => by
    obtain ⟨a1, a2⟩ := List.pairwise_cons.mp h1
    obtain ⟨b1, b2⟩ := List.pairwise_cons.mp h2
    have e : x = y := by
      rcases List.mem_cons.mp ((h x).mp List.mem_cons_self) with e | hx
      · exact e
      · rcases List.mem_cons.mp ((h y).mpr List.mem_cons_self) with e | hy
        · exact e.symm
        · exact absurd (a1 y hy) (asym _ _ (b1 x hx))
    subst e
    have irr : ∀ z, ¬ lt z z := fun z q => asym _ _ q q
    rw [rise_ext asym a2 b2 fun z => ⟨fun hz => ?_, fun hz => ?_⟩]
    · rcases List.mem_cons.mp ((h z).mp (List.mem_cons_of_mem _ hz)) with e | q
      · subst e
        exact absurd (a1 z hz) (irr z)
      · exact q
    · rcases List.mem_cons.mp ((h z).mpr (List.mem_cons_of_mem _ hz)) with e | q
      · subst e
        exact absurd (b1 z hz) (irr z)
      · exact q
def RisS (xs : List Str) : Prop := xs.Pairwise fun a b => strLt a b = true
theorem risS_ext {xs ys : List Str} (h1 : RisS xs) (h2 : RisS ys) (h : ∀ z, z ∈ xs ↔ z ∈ ys) : xs = ys :=
  rise_ext (fun a b q r => by rw [strLt_asymm q] at r; cases r) h1 h2 h
theorem rising_ext {xs ys : List (Str × Int)} (h1 : Rising xs) (h2 : Rising ys) (h : ∀ z, z ∈ xs ↔ z ∈ ys) : xs = ys :=
  rise_ext (lt := fun a b : Str × Int => strLt a.1 b.1 = true) (fun a b q r => by rw [strLt_asymm q] at r; cases r) h1 h2 h
theorem ris_of_risingS : ∀ (p : Str) (l : List Str), (p :: l).Nodup → PyProof.Rows.risingS p l = true → RisS (p :: l)
  | p, [], _, _ => List.pairwise_singleton _ _
  | p, x :: r, nd, h => by
    obtain ⟨h1, h2⟩ := Bool.and_eq_true_iff.mp (show (!ltCps x.cps.toList p.cps.toList && PyProof.Rows.risingS x r) = true from h)
    obtain ⟨n1, n2⟩ := List.nodup_cons.mp nd
    have ih := ris_of_risingS x r n2 h2
    have hx : strLt p x = true := by
      refine strLt_total ?_ fun e => n1 (e ▸ List.mem_cons_self)
      rw [PyProof.Rows.ltCps_eq] at h1
      unfold strLt
      simpa using h1
    refine List.pairwise_cons.mpr ⟨fun z hz => ?_, ih⟩
    rcases List.mem_cons.mp hz with e | hz
    · subst e
      exact hx
    · exact strLt_trans hx ((List.pairwise_cons.mp ih).1 z hz)
theorem ris_of_sortedS {l : List Str} (nd : l.Nodup) (h : PyProof.Rows.sortedS l = true) : RisS l := by
  cases l with
  | nil => exact .nil
  | cons x r => exact ris_of_risingS x r nd h
theorem risS_nodup {xs : List Str} (h : RisS xs) : xs.Nodup := List.Pairwise.imp (fun {a b} q => strLt_ne q) h
theorem upS_perm (xs : List Str) : (upS xs).Perm xs := List.mergeSort_perm _ _
theorem strLe_eq (a b : Str) : PySem.W.dataLe false PyData.str a b = !strLt b a := by
  rw [PySem.W.dataLe_eq]
  show (!PySem.W.dataLt (PyData.str b) (PyData.str a)) = _
  rw [PySem.W.dataLt_str]
  rfl
theorem upS_ris {xs : List Str} (nd : xs.Nodup) : RisS (upS xs) := by
  have tot : PySem.W.TotalLe (PySem.W.dataLe false PyData.str) := PySem.W.sortLe_total _ false _
  have h1 := PySem.W.sort_pairwise tot xs
  have h2 : (upS xs).Nodup := (upS_perm xs).nodup_iff.mpr nd
  refine (List.Pairwise.and h1 h2).imp fun {a b} ⟨q1, q2⟩ => ?_
  have q1 : PySem.W.dataLe false PyData.str a b = true := q1
  rw [strLe_eq] at q1
  exact strLt_total (by simpa using q1) fun e => q2 e.symm
theorem rising_nodup {xs : List (Str × Int)} (h : Rising xs) : (xs.map (·.1)).Nodup := List.pairwise_map.mpr (List.Pairwise.imp (fun {a b} q => strLt_ne q) h)
end Wk
/-! ### rules over books -/
namespace Fw
open PySem PySem.Spec L2 Wk
section
variable {K : PySem.W.Frag} {Γ : List Ds} {td ty te : TE} {l : List (Str × Int)} {x : Str}
theorem ev_get2 (h : Ev K td Γ (.dic (bk l))) (hk : Ev K ty Γ (.dat (.str x))) : Ev K (tDGet2 td ty (tC (.int 0))) Γ (.dat (.int (look l x))) := fun G0 H0 G H σ E Q q =>
  h G0 H0 G H σ E _ fun v G1 H1 e1 hv => by
    obtain ⟨a, rfl, ha⟩ := hv
    refine ⟨a, rfl, .inl ⟨_, .inl (e1.i _ _ ha)⟩, hk G0 H0 G1 H1 σ (E.up e1) _ fun y G2 H2 e2 hy => ?_⟩
    cases hy
    refine ⟨_, DGet.k (k := (Sum.inr x : Key)) (e2.h _ _ (e1.i _ _ ha)), ?_⟩
    rw [valV_bk]
    have e : ((look? l x).map V.int).getD (.int 0) = .int (look l x) := by
      unfold look
      cases look? l x <;> rfl
    rw [e]
    exact q _ G2 H2 (e1.trans e2) (.int _)
theorem ev_dget {v : Int} (h : Ev K td Γ (.dic (bk l))) (hk : Ev K ty Γ (.dat (.str x))) (hx : look? l x = some v) : Ev K (tDGet td ty) Γ (.dat (.int v)) := fun G0 H0 G H σ E Q q =>
  h G0 H0 G H σ E _ fun u G1 H1 e1 hv => by
    obtain ⟨a, rfl, ha⟩ := hv
    refine hk G0 H0 G1 H1 σ (E.up e1) _ fun y G2 H2 e2 hy => ?_
    cases hy
    refine ⟨a, .int v, rfl, ?_, q _ G2 H2 (e1.trans e2) (.int _)⟩
    have g := DGet.k (k := (Sum.inr x : Key)) (e2.h _ _ (e1.i _ _ ha))
    rw [valV_bk, hx] at g
    exact g
theorem pairs_tp {G : Hp} : ∀ {l : List (Str × Int)} {vs : List V}, DrAll G vs (l.map encP) → ∃ ps : List Addr, vs = ps.map V.ref ∧ Paired (fun p (kv : Key × V) => Tp G p [kV kv.1, kv.2]) ps (kvl (bk l))
  | [], vs, h => by
    cases h
    exact ⟨[], rfl, .nil⟩
  | p :: r, vs, h => by
    cases h with
    | cons h1 h2 =>
      obtain ⟨ps, e1, e2⟩ := pairs_tp h2
      cases h1 with
      | tup ha hs =>
        rename_i a us
        cases hs with
        | cons k1 k2 =>
          cases k2 with
          | cons k2 k3 =>
            cases k3
            cases k1
            cases k2
            exact ⟨a :: ps, by rw [e1]; rfl, .cons ha e2⟩
theorem paired_up {G H : Hp} (s : Same G H) : ∀ {ps : List Addr} {kvs : List (Key × V)}, Paired (fun p (kv : Key × V) => Tp G p [kV kv.1, kv.2]) ps kvs → Paired (fun p (kv : Key × V) => Tp H p [kV kv.1, kv.2]) ps kvs
  | _, _, .nil => .nil
  | _, _, .cons h t => .cons (h.up s) (paired_up s t)
theorem dict_at {G H : Hp} {v : V} {Q : VK} (s : Same G H) (h : Dr G v (encS l)) (nd : (l.map (·.1)).Nodup) (q : ∀ p, H p = none → Q (.ref p) (upd H p (.dK (kvl (bk l))))) : rDictT [v] H Q := by
  cases h with
  | tup ha hs =>
    rename_i a vs
    obtain ⟨ps, e1, e2⟩ := pairs_tp hs
    subst e1
    refine ⟨a, ps, kvl (bk l), rfl, ha.up s, paired_up s e2, fun p hp => ?_⟩
    rw [merge_bk nd]
    exact q p hp
theorem ev_dictT (h : Ev K te Γ (.dat (encS l))) (nd : (l.map (·.1)).Nodup) : Ev K (tCB rDictT (tCons te tNil)) Γ (.dic (bk l)) := fun G0 H0 G H σ E Q q =>
  h G0 H0 G H σ E _ fun v G1 H1 e1 hv => dict_at e1.i hv nd fun p hp => q _ _ _ (e1.trans (Ext.new e1.i hp)) ⟨p, rfl, upd_same⟩
/-- sorted of a dict whose keys are texts -/
def rSortK : List V → Hp → VK → Prop := fun xs H Q => ∃ (a : Addr) (kvs : List (Key × V)) (ks : List Str), xs = [.ref a] ∧ Rd H a (.dK kvs) ∧ kvs.map (·.1) = ks.map Sum.inr ∧ ks.length < 64 ∧
    ∀ ys p, ys.Perm ks → PyProof.Rows.sortedS ys = true → H p = none → Q (.ref p) (upd H p (.lst (ys.map V.str)))
theorem cr_sortK {X : Cx} (hc : X.calm = true) : CallR X (.builtin "sorted") rSortK := call_sortedD hc
theorem ev_sortK (h : Ev K td Γ (.dic (bk l))) (nd : (l.map (·.1)).Nodup) (hl : l.length < 64) : Ev K (tCB rSortK (tCons td tNil)) Γ (.dat (.list ((upS (l.map (·.1))).map .str))) := fun G0 H0 G H σ E Q q =>
  h G0 H0 G H σ E _ fun u G1 H1 e1 hv => by
    obtain ⟨a, rfl, ha⟩ := hv
    refine ⟨a, kvl (bk l), l.map (·.1), rfl, .inl (e1.i _ _ ha), ?_, by rw [List.length_map]; exact hl, fun ys p hp hs np => ?_⟩
    · rw [kvl_bk, List.map_map, List.map_map]
      rfl
    · have e : ys = upS (l.map (·.1)) := risS_ext (ris_of_sortedS (hp.nodup_iff.mpr nd) hs) (upS_ris nd) fun z => by rw [hp.mem_iff, (upS_perm _).mem_iff]
      subst e
      exact q _ _ _ (e1.trans (Ext.new e1.i np)) (.lst upd_same (drs_strs _))
/-- o.f, the object standing still -/
theorem ev_fld {i : Nat} {p C dx : Addr} {Gx : Hp} {fs : List (Str × V)} {f : Str} {v : V} {D : Ds} (h : Γ[i]? = some (.fix (.ref p) Gx)) (ho : Gx p = some (.ins C dx fs)) (c : Cls K C) (n : NoAttr K C f) (hl : fs.lookup f = some v) (hv : VOk K Gx v D) :
    Ev K (tFld K (tVar i) f) Γ D := fun G0 H0 G H σ E Q q => by
  obtain ⟨ov, h1, h2, h3⟩ := E.ok i _ h
  subst h2
  exact ⟨_, h1, p, C, dx, fs, v, rfl, E.s _ _ (h3 _ _ ho), c, n, hl, q v G H (Ext.refl E.s) (hv.up h3)⟩
theorem k_fld {X : Cx} (K : PySem.W.Frag) (h : X.K = K) {e : Expr} {ta : TE} {f : Str} {pos : Pos} (he : PE X e ta) (hb : attributeBase e f X.env (eval e X.env) = eval e X.env) : PE X (.Attribute e f pos) (tFld K ta f) := h ▸ pe_fld he hb
end
/-! ### methods -/
def MFnd (K : PySem.W.Frag) (C : Addr) (m q : Str) (st : Stmt) (ps : List Str) : Prop := ∃ f fd, Fun K m q st f fd ∧ Meth K C m f ∧ Binds K fd ps []
def MDfn (P : Program) (w : World) (K : PySem.W.Frag) (mg : Str → Option Value) (base : Heap) (C : Addr) (m : Str) (k : Nat) (ps : List Str) (sp : Sp) : Prop :=
  ∃ f fd, FnOk P w K mg base CX0 k f fd ps sp ∧ Meth K C m f ∧ Binds K fd ps []
section
variable {P : Program} {w : World} {K : PySem.W.Frag} {mg : Str → Option Value} {base : Heap} {C : Addr} {m q : Str} {st : Stmt} {ps N : List Str} {k : Nat} {sp : Sp}
theorem MDfn.mono {j : Nat} (D : MDfn P w K mg base C m j ps sp) (h : j ≤ k) : MDfn P w K mg base C m k ps sp := by
  obtain ⟨f, fd, F, r⟩ := D
  exact ⟨f, fd, F.mono h, r⟩
theorem MFnd.ok (F : MFnd K C m q st ps) (S : FnScope N ps (defScope st)) (len : ∀ vs H Q E, sp vs H Q E → vs.length = ps.length)
    (hbody : ∀ (f : Addr) (cdv : Value) (A : Around) (outer : List Env) (s : Shared) (H : Hp) (E : XK), Room k (A.deeper (PyProof.Rows.envOfC q (defScope st) s.heap.objs.size f cdv)) →
      ∃ t, PSs (cxOf CX0 P w K mg base N q (defScope st) f cdv A outer s H E).nox (defBody st) t ∧ ∀ (vs : List V) (Q : VK), sp vs H Q E → t { nx := fun _ H' => Q .non H', rt := Q } (L2.start N vs) H) : MDfn P w K mg base C m (k + 1) ps sp := by
  obtain ⟨f, fd, F, hm, hb⟩ := F
  exact ⟨f, fd, F.ok S len fun cdv A outer s H vs Q E hr h => by
    obtain ⟨t, h1, h2⟩ := hbody f cdv A outer s H E hr
    exact ⟨t, h1, h2 vs Q h⟩, hm, hb⟩
theorem MFnd.never (F : MFnd K C m q st ps) (h : ∀ vs H Q E, ¬ sp vs H Q E) : MDfn P w K mg base C m k ps sp := by
  obtain ⟨f, fd, F, hm, hb⟩ := F
  exact ⟨f, fd, ⟨fun vs H Q E hp => absurd hp (h _ _ _ _), fun A outer s H args us vs Q E _ _ _ _ hp => absurd hp (h _ _ _ _)⟩, hm, hb⟩
theorem pe_methD {X : Cx} {o e : Expr} {es : List Expr} {ta : TE} {t : TA} {apos pos : Pos} {pl : Sem Bool} (D : MDfn X.prog X.w X.K X.mg X.base C m k ps sp) (c : Cls X.K C) (he : PE X o ta) (hr : Room k X.A) (ha : PA X (e :: es) t)
    (hst : starEach (e :: es) X.env = (false, eval e X.env) :: starEach es X.env := by rfl) (hpl : (backTo pos (starEach es X.env)).any (·.1) = false := by rfl)
    (ht : eval (.Call (.Attribute o m apos) (e :: es) [] pos) X.env = (do
      let ov ← eval o X.env
      standAt apos.atName
      let (f, first) ← holding [ov] (getMethod ov m pl)
      callWith pos f first (backTo pos (starEach (e :: es) X.env)) (backToKw pos (keywordEach [] X.env))) := by rfl) :
    PE X (.Call (.Attribute o m apos) (e :: es) [] pos) (tMeth C m sp [] E0 ta t) := by
  obtain ⟨f, fd, F, hm, hb⟩ := D
  exact pe_meth he c hm F hr hb .nil pass0 ha hst hpl ht
end
end Fw
/-! ### runs -/
namespace Wk
open PySem PySem.Spec L2 Fw
def valT : Tm → (Str → Int) → Int
  | .num n, _ => n
  | .nam x, f => f x
  | .bin .sum a b, f => (valT a f + valT b f) % 997
  | .bin .times a b, f => valT a f * valT b f % 997
  | .bin .less a b, f => if valT a f < valT b f then 1 else 0
structure Ru where
  l : List (Str × Int)
  pg : Int → List Int
  t : Nat
def exW (m : Nat) (t : Tm) (body : Ru → Bool × Ru) : Nat → Ru → Bool × Ru
  | 0, s => (false, s)
  | n + 1, s => if valT t (look s.l) = 0 then (true, s) else if s.t = m then (false, s) else
      if (body { s with t := s.t + 1 }).1 = true then exW m t body n (body { s with t := s.t + 1 }).2 else (false, (body { s with t := s.t + 1 }).2)
def putR (s : Ru) (x : Str) (v : Int) : Ru := { s with l := dput s.l x v }
def shwR (s : Ru) (k v : Int) : Ru := { s with pg := fun j => if j = k then s.pg j ++ [v] else s.pg j }
mutual
def exD (m : Nat) : Dd → Ru → Bool × Ru
  | .put x t, s => (true, putR s x (valT t (look s.l)))
  | .shw k t, s => (true, shwR s k (valT t (look s.l)))
  | .ite t a b, s => if valT t (look s.l) ≠ 0 then exL m a s else exL m b s
  | .whl t a, s => exW m t (exL m a) (m + 1) s
def exL (m : Nat) : List Dd → Ru → Bool × Ru
  | [], s => (true, s)
  | d :: r, s => if (exD m d s).1 = true then exL m r (exD m d s).2 else (false, (exD m d s).2)
end
mutual
/-- how much it may write between two turns -/
def nD : Dd → Nat
  | .put _ _ => 1
  | .shw _ _ => 1
  | .ite _ a b => nL a + nL b
  | .whl _ a => nL a
def nL : List Dd → Nat
  | [] => 0
  | d :: r => nD d + nL r
end
def sz (s : Ru) : Nat := s.l.length + (s.pg 0).length + (s.pg 1).length + (s.pg 2).length
structure RuOk (nm : List Str) (m : Nat) (s : Ru) : Prop where
  nd : (s.l.map (·.1)).Nodup
  nm : ∀ x ∈ s.l.map (·.1), x ∈ nm
  lo : ∀ p ∈ s.l, 0 ≤ p.2 ∧ p.2 ≤ 996
  t : s.t ≤ m
  pg : ∀ k, ∀ z ∈ s.pg k, 0 ≤ z ∧ z ≤ 996
theorem valT_lo {nm : List Str} {f : Str → Int} (hf : ∀ x, 0 ≤ f x ∧ f x ≤ 996) : ∀ {t : Tm}, t.ok nm → 0 ≤ valT t f ∧ valT t f ≤ 996
  | .num n, h => h
  | .nam x, _ => hf x
  | .bin .sum a b, _ => by
    show 0 ≤ (valT a f + valT b f) % 997 ∧ (valT a f + valT b f) % 997 ≤ 996
    omega
  | .bin .times a b, _ => by
    show 0 ≤ valT a f * valT b f % 997 ∧ valT a f * valT b f % 997 ≤ 996
    omega
  | .bin .less a b, _ => by
    show 0 ≤ (if valT a f < valT b f then (1 : Int) else 0) ∧ (if valT a f < valT b f then (1 : Int) else 0) ≤ 996
    split <;> omega
theorem ru_put {nm : List Str} {m : Nat} {s : Ru} {x : Str} {v : Int} (h : RuOk nm m s) (hx : x ∈ nm) (hv : 0 ≤ v ∧ v ≤ 996) : RuOk nm m (putR s x v) where
  nd := nodup_dput h.nd
  nm := fun y hy => (mem_dput.mp hy).elim (h.nm y) fun e => e ▸ hx
  lo := vals_dput (R := fun z => 0 ≤ z ∧ z ≤ 996) h.lo hv
  t := h.t
  pg := h.pg
theorem ru_shw {nm : List Str} {m : Nat} {s : Ru} {k v : Int} (h : RuOk nm m s) (hv : 0 ≤ v ∧ v ≤ 996) : RuOk nm m (shwR s k v) where
  nd := h.nd
  nm := h.nm
  lo := h.lo
  t := h.t
  pg := fun j z hz => by
    have hz : z ∈ (if j = k then s.pg j ++ [v] else s.pg j) := hz
    split at hz
    · rcases List.mem_append.mp hz with hz | hz
      · exact h.pg j z hz
      · have := List.mem_singleton.mp hz
        subst this
        exact hv
    · exact h.pg j z hz
/-- what one step of a run keeps: the shape; turns only rise; it writes at most so much -/
structure Goes (nm : List Str) (m n : Nat) (s s' : Ru) : Prop where
  ok : RuOk nm m s'
  t : s.t ≤ s'.t
  z : sz s' ≤ sz s + n * (1 + (s'.t - s.t))
theorem sz_put (s : Ru) (x : Str) (v : Int) : sz (putR s x v) ≤ sz s + 1 := by
  have := len_dput s.l x v
  show (dput s.l x v).length + (s.pg 0).length + (s.pg 1).length + (s.pg 2).length ≤ _
  unfold sz
  omega
theorem sz_shw (s : Ru) (k v : Int) : sz (shwR s k v) ≤ sz s + 1 := by
  have key : ∀ j : Int, (if j = k then s.pg j ++ [v] else s.pg j).length = (s.pg j).length + if j = k then 1 else 0 := fun j => by
    split
    · rw [List.length_append, List.length_singleton]
    · rfl
  show s.l.length + (if (0 : Int) = k then s.pg 0 ++ [v] else s.pg 0).length + (if (1 : Int) = k then s.pg 1 ++ [v] else s.pg 1).length + (if (2 : Int) = k then s.pg 2 ++ [v] else s.pg 2).length ≤ _
  rw [key, key, key]
  unfold sz
  split <;> split <;> split <;> omega
theorem Goes.refl {nm : List Str} {m n : Nat} {s : Ru} (h : RuOk nm m s) : Goes nm m n s s := ⟨h, Nat.le_refl _, Nat.le_add_right _ _⟩
theorem goes_W {nm : List Str} {m n : Nat} {t : Tm} {body : Ru → Bool × Ru} (hb : ∀ s, RuOk nm m s → Goes nm m n s (body s).2) : ∀ (k : Nat) (s : Ru), RuOk nm m s → RuOk nm m (exW m t body k s).2 ∧ s.t ≤ (exW m t body k s).2.t ∧ sz (exW m t body k s).2 ≤ sz s + n * ((exW m t body k s).2.t - s.t)
  | 0, s, h => ⟨h, Nat.le_refl _, Nat.le_add_right _ _⟩
  | k + 1, s, h => by
    unfold exW
    by_cases h0 : valT t (look s.l) = 0
    · rw [if_pos h0]
      exact ⟨h, Nat.le_refl _, Nat.le_add_right _ _⟩
    · rw [if_neg h0]
      by_cases h1 : s.t = m
      · rw [if_pos h1]
        exact ⟨h, Nat.le_refl _, Nat.le_add_right _ _⟩
      · rw [if_neg h1]
        have h2 : RuOk nm m { s with t := s.t + 1 } := ⟨h.nd, h.nm, h.lo, by have := h.t; show s.t + 1 ≤ m; omega, h.pg⟩
        have g := hb _ h2
        have gt : s.t + 1 ≤ (body { s with t := s.t + 1 }).2.t := g.t
        have gz : sz (body { s with t := s.t + 1 }).2 ≤ sz s + n * (1 + ((body { s with t := s.t + 1 }).2.t - (s.t + 1))) := g.z
        have e1 : 1 + ((body { s with t := s.t + 1 }).2.t - (s.t + 1)) = (body { s with t := s.t + 1 }).2.t - s.t := by omega
        rw [e1] at gz
        split
        · obtain ⟨r1, r2, r3⟩ := goes_W hb k _ g.ok
          refine ⟨r1, by omega, Nat.le_trans r3 ?_⟩
          have e2 : (exW m t body k (body { s with t := s.t + 1 }).2).2.t - s.t = ((body { s with t := s.t + 1 }).2.t - s.t) + ((exW m t body k (body { s with t := s.t + 1 }).2).2.t - (body { s with t := s.t + 1 }).2.t) := by omega
          rw [e2, Nat.mul_add]
          omega
        · exact ⟨g.ok, Nat.le_trans (Nat.le_succ _) gt, gz⟩
theorem Goes.le {nm : List Str} {m n n' : Nat} {s s' : Ru} (g : Goes nm m n s s') (h : n ≤ n') : Goes nm m n' s s' := ⟨g.ok, g.t, Nat.le_trans g.z (Nat.add_le_add_left (Nat.mul_le_mul_right _ h) _)⟩
theorem Goes.trans {nm : List Str} {m a b : Nat} {s s' s'' : Ru} (g : Goes nm m a s s') (h : Goes nm m b s' s'') : Goes nm m (a + b) s s'' := by
  refine ⟨h.ok, Nat.le_trans g.t h.t, Nat.le_trans h.z ?_⟩
  have g1 := g.t
  have h1 := h.t
  have g2 := g.z
  have k1 : a * (1 + (s'.t - s.t)) ≤ a * (1 + (s''.t - s.t)) := Nat.mul_le_mul_left _ (by omega)
  have k2 : b * (1 + (s''.t - s'.t)) ≤ b * (1 + (s''.t - s.t)) := Nat.mul_le_mul_left _ (by omega)
  rw [Nat.add_mul]
  omega
mutual
theorem goes_D {nm : List Str} {m : Nat} : ∀ (d : Dd) (s : Ru), d.ok nm → RuOk nm m s → Goes nm m (nD d) s (exD m d s).2
  | .put x t, s, hd, h => by
    have hd : x ∈ nm ∧ t.ok nm := by simpa [Dd.ok] using hd
    rw [exD, nD]
    refine ⟨ru_put h hd.1 (valT_lo (look_lo h.lo) hd.2), Nat.le_refl _, ?_⟩
    have := sz_put s x (valT t (look s.l))
    show sz (putR s x (valT t (look s.l))) ≤ sz s + 1 * (1 + (s.t - s.t))
    omega
  | .shw k t, s, hd, h => by
    have hd : (0 ≤ k ∧ k ≤ 2) ∧ t.ok nm := by simpa [Dd.ok] using hd
    rw [exD, nD]
    refine ⟨ru_shw h (valT_lo (look_lo h.lo) hd.2), Nat.le_refl _, ?_⟩
    have := sz_shw s k (valT t (look s.l))
    show sz (shwR s k (valT t (look s.l))) ≤ sz s + 1 * (1 + (s.t - s.t))
    omega
  | .ite t a b, s, hd, h => by
    have hd : t.ok nm ∧ okL nm a ∧ okL nm b := by simpa [Dd.ok] using hd
    rw [exD, nD]
    split
    · exact (goes_L a s hd.2.1 h).le (Nat.le_add_right _ _)
    · exact (goes_L b s hd.2.2 h).le (Nat.le_add_left _ _)
  | .whl t a, s, hd, h => by
    have hd : t.ok nm ∧ okL nm a := by simpa [Dd.ok] using hd
    rw [exD, nD]
    obtain ⟨r1, r2, r3⟩ := goes_W (t := t) (body := exL m a) (fun s h => goes_L a s hd.2 h) (m + 1) s h
    exact ⟨r1, r2, Nat.le_trans r3 (Nat.add_le_add_left (Nat.mul_le_mul_left _ (by omega)) _)⟩
theorem goes_L {nm : List Str} {m : Nat} : ∀ (b : List Dd) (s : Ru), okL nm b → RuOk nm m s → Goes nm m (nL b) s (exL m b s).2
  | [], s, _, h => by
    rw [exL]
    exact Goes.refl h
  | d :: r, s, hd, h => by
    have hd : d.ok nm ∧ okL nm r := by simpa [okL] using hd
    rw [exL, nL]
    have g := goes_D d s hd.1 h
    split
    · exact g.trans (goes_L r _ hd.2 g.ok)
    · exact g.le (Nat.le_add_right _ _)
end
theorem exL_cons {m : Nat} {d : Dd} {r : List Dd} {s : Ru} : exL m (d :: r) s = if (exD m d s).1 = true then exL m r (exD m d s).2 else (false, (exD m d s).2) := by rw [exL]
theorem exL_nil {m : Nat} {s : Ru} : exL m [] s = (true, s) := by rw [exL]
/-- n rounds are enough when the turns run out first -/
theorem exW_step {m : Nat} {t : Tm} {body : Ru → Bool × Ru} {n : Nat} {s : Ru} : exW m t body (n + 1) s = if valT t (look s.l) = 0 then (true, s) else if s.t = m then (false, s) else
      if (body { s with t := s.t + 1 }).1 = true then exW m t body n (body { s with t := s.t + 1 }).2 else (false, (body { s with t := s.t + 1 }).2) := by rw [exW]
/-- where all begins -/
def start0 (l : List (Str × Int)) : Ru := ⟨l, fun _ => [], 0⟩
/-- what is left: names and numbers that are not nought, rising -/
def leftOf (l : List (Str × Int)) : List (Str × Int) := ((upS (l.map (·.1))).filter fun x => decide (look l x ≠ 0)).map fun x => (x, look l x)
def encT? : Option Int → PyData
  | none => .none
  | some i => .int i
def encPg (pg : Int → List Int) : PyData := .tuple [.tuple ((pg 0).map .int), .tuple ((pg 1).map .int), .tuple ((pg 2).map .int)]
def runT (m : Nat) (b : List Dd) (l : List (Str × Int)) : Option Int := if (exL m b (start0 l)).1 = true then some ((exL m b (start0 l)).2.t : Nat) else none
def runR (m : Nat) (b : List Dd) (l : List (Str × Int)) : Ru := (exL m b (start0 l)).2
def encR (m : Nat) (b : List Dd) (l : List (Str × Int)) : PyData := .tuple [encT? (runT m b l), encS (leftOf (runR m b l).l), encPg (runR m b l).pg]
theorem start_ok {nm : List Str} {m : Nat} {l : List (Str × Int)} (nd : (l.map (·.1)).Nodup) (hn : ∀ x ∈ l.map (·.1), x ∈ nm) (lo : ∀ p ∈ l, 0 ≤ p.2 ∧ p.2 ≤ 996) : RuOk nm m (start0 l) := ⟨nd, hn, lo, Nat.zero_le _, fun _ _ h => absurd h List.not_mem_nil⟩
theorem nodup_len {xs ys : List Str} (nd : xs.Nodup) (h : ∀ x ∈ xs, x ∈ ys) : xs.length ≤ ys.length := by
  induction xs generalizing ys with
  | nil => exact Nat.zero_le _
  | cons x r ih =>
    obtain ⟨n1, n2⟩ := List.nodup_cons.mp nd
    have hx := h x List.mem_cons_self
    have := ih (ys := ys.erase x) n2 fun z hz => (List.mem_erase_of_ne fun (e : z = x) => n1 (e ▸ hz)).mpr (h z (List.mem_cons_of_mem _ hz))
    rw [List.length_erase_of_mem hx] at this
    have hp := List.length_pos_of_mem hx
    rw [List.length_cons]
    omega
theorem ru_len {nm : List Str} {m : Nat} {s : Ru} (h : RuOk nm m s) (h4 : nm.length = 4) : s.l.length ≤ 4 := by
  have := nodup_len h.nd h.nm
  rw [List.length_map] at this
  omega
/-- a run's preconditions -/
structure RunOk (nm : List Str) (m : Nat) (b : List Dd) (l : List (Str × Int)) : Prop where
  n4 : nm.length = 4
  ok : okL nm b
  dp : depthL b ≤ 2
  td : tdepL b ≤ 2
  ri : Rising l
  nm : ∀ p ∈ l, p.1 ∈ nm
  lo : ∀ p ∈ l, 0 ≤ p.2 ∧ p.2 ≤ 996
  m : m ≤ 20
  z : nL b ≤ 4000
theorem RunOk.start {nm : List Str} {m : Nat} {b : List Dd} {l : List (Str × Int)} (h : RunOk nm m b l) : RuOk nm m (start0 l) := start_ok (rising_nodup h.ri) (fun x hx => by
  obtain ⟨p, hp, rfl⟩ := List.mem_map.mp hx
  exact h.nm p hp) h.lo
theorem RunOk.goes {nm : List Str} {m : Nat} {b : List Dd} {l : List (Str × Int)} (h : RunOk nm m b l) : Goes nm m (nL b) (start0 l) (runR m b l) := goes_L b _ h.ok h.start
def PrRun : List Ds → PyData → Prop := fun xs d => ∃ (nm : List Str) (m : Nat) (b : List Dd) (l : List (Str × Int)), xs = [.dat (encB b), .dat (encS l), .dat (.int (m : Nat))] ∧ RunOk nm m b l ∧ d = encR m b l
def PrReck (n : Nat) : List Ds → PyData → Prop := fun xs d => ∃ (nm : List Str) (t : Tm) (l : List (Str × Int)), xs = [.dat (encT t), .dic (bk l)] ∧ t.ok nm ∧ t.depth < n ∧ (∀ p ∈ l, 0 ≤ p.2 ∧ p.2 ≤ 996) ∧ d = .int (valT t (look l))
/-- the terms of the builders are at most two deep -/
theorem term_dep {nm : List Str} (h4 : nm.length = 4) (c : Int) : (termOf nm c).depth ≤ 2 := by
  unfold termOf
  have := (termS_ok h4 (1 + c % 2).toNat c).2
  omega
end Wk
/-! ### what the builders build is fit to be run -/
namespace Wk
open PySem PySem.Spec L2 Fw
structure DdOk (nm : List Str) (n : Nat) (d : Dd) : Prop where
  ok : d.ok nm
  dp : d.depth ≤ n
  td : d.tdep ≤ 2
  z : nD d ≤ 4 ^ n
structure LsOk (nm : List Str) (n k : Nat) (b : List Dd) : Prop where
  ok : okL nm b
  dp : depthL b ≤ n
  td : tdepL b ≤ 2
  z : nL b ≤ k * 4 ^ n
theorem ls_nil {nm : List Str} {n k : Nat} : LsOk nm n k [] := ⟨by simp [okL], by simp [depthL], by simp [tdepL], by simp [nL]⟩
theorem ls_cons {nm : List Str} {n k : Nat} {d : Dd} {r : List Dd} (h : DdOk nm n d) (t : LsOk nm n k r) : LsOk nm n (k + 1) (d :: r) := by
  refine ⟨?_, ?_, ?_, ?_⟩
  · rw [okL]; exact ⟨h.ok, t.ok⟩
  · rw [depthL]; have := h.dp; have := t.dp; omega
  · rw [tdepL]; have := h.td; have := t.td; omega
  · rw [nL, Nat.add_mul, Nat.one_mul]; have := h.z; have := t.z; omega
theorem ls_all {nm : List Str} {n : Nat} : ∀ {b : List Dd}, (∀ d ∈ b, DdOk nm n d) → LsOk nm n b.length b
  | [], _ => ls_nil
  | d :: r, h => ls_cons (h d List.mem_cons_self) (ls_all fun e he => h e (List.mem_cons_of_mem _ he))
theorem LsOk.le {nm : List Str} {n k k' : Nat} {b : List Dd} (h : LsOk nm n k b) (hk : k ≤ k') : LsOk nm n k' b := ⟨h.ok, h.dp, h.td, Nat.le_trans h.z (Nat.mul_le_mul_right _ hk)⟩
theorem nL_app : ∀ {a b : List Dd}, nL (a ++ b) = nL a + nL b
  | [], b => by simp [nL]
  | d :: r, b => by
    show nL (d :: (r ++ b)) = nL (d :: r) + nL b
    rw [nL, nL, nL_app]
    omega
theorem pow4 (n : Nat) : 1 ≤ 4 ^ n := Nat.pos_of_ne_zero (by
  have := Nat.pow_pos (n := n) (show 0 < 4 by decide)
  omega)
theorem last_ok {nm : List Str} {lv : List Int} {hon : Bool} {n : Nat} {c high : Int} (p : Plan nm lv) (hh : 0 ≤ high ∧ high ≤ 2) : DdOk nm n (lastD nm lv hon c high) := by
  have ht := (termS_ok p.n4 (1 + c % 2).toNat c).1
  have hd := term_dep p.n4 c
  by_cases h : mix c 9871 9 < 7 ∧ someOf lv hon high ≠ []
  · rw [last_put h]
    have hpos : 0 < (someOf lv hon high).length := List.length_pos_iff.mpr h.2
    have hmx : 0 ≤ mix c 9857 (someOf lv hon high).length ∧ mix c 9857 (someOf lv hon high).length < (someOf lv hon high).length := ⟨mix_lo _ (by omega), mix_hi _ (by omega)⟩
    have g3 := some_lo _ (getI hmx.1 hmx.2).2
    refine ⟨?_, by simp [Dd.depth], by simp only [Dd.tdep]; exact hd, by simp only [nD]; exact pow4 n⟩
    simp only [Dd.ok]
    exact ⟨nameAt_mem g3.1 (by rw [p.n4]; omega), ht⟩
  · rw [last_shw h]
    have h3 : 0 ≤ mix c 9851 3 ∧ mix c 9851 3 < 3 := ⟨mix_lo _ (by omega), mix_hi _ (by omega)⟩
    refine ⟨?_, by simp [Dd.depth], by simp only [Dd.tdep]; exact hd, by simp only [nD]; exact pow4 n⟩
    simp only [Dd.ok]
    refine ⟨?_, ht⟩
    cases hon
    · simp only [Bool.false_eq_true, if_false, Int.mul_zero]
      omega
    · simp only [if_true, Int.mul_one]
      omega
theorem deed_ok {nm : List Str} {lv : List Int} {hon : Bool} (p : Plan nm lv) : ∀ (n : Nat) (c need : Int), 0 ≤ need ∧ need ≤ 2 → DdOk nm n (deedS nm lv hon n c need)
  | 0, c, need, h => by
    rw [deed_last (fun e => absurd e.1 (by decide)) (fun e => absurd e.1 (by decide))]
    exact last_ok p (highOf_lo p (termOf nm c) h).1
  | n + 1, c, need, h => by
    have hh := highOf_lo p (termOf nm c) h
    have ht := (termS_ok p.n4 (1 + c % 2).toNat c).1
    have hd := term_dep p.n4 c
    have blk : ∀ c' need', 0 ≤ need' ∧ need' ≤ 2 → LsOk nm n 2 (blockS nm lv hon n c' need') := fun c' need' h' => by
      refine (ls_all fun d hd => ?_).le blockS_len
      obtain ⟨k, _, rfl⟩ := List.mem_map.mp hd
      exact deed_ok p n _ _ h'
    have pw : 4 ^ (n + 1) = 4 * 4 ^ n := by rw [Nat.pow_succ]; omega
    by_cases h2 : mix c 9871 9 < 2
    · rw [deed_ite h2]
      have b1 := blk (c * 3 + 1) _ hh.1
      have b2 := blk (c * 5 + 2) _ hh.1
      refine ⟨?_, ?_, ?_, ?_⟩
      · simp only [Dd.ok]; exact ⟨ht, b1.ok, b2.ok⟩
      · simp only [Dd.depth]; have := b1.dp; have := b2.dp; omega
      · simp only [Dd.tdep]; have := b1.td; have := b2.td; omega
      · simp only [nD]; have := b1.z; have := b2.z; omega
    · by_cases h4 : mix c 9871 9 < 4 ∧ (need = 0 ∨ hon = false)
      · rw [deed_whl h2 h4]
        have b1 := blk (c * 3 + 1) _ h
        have hm : DdOk nm n (moreD nm) := by
          have : nameAt nm 0 ∈ nm := nameAt_mem (by decide) (by rw [p.n4]; decide)
          refine ⟨?_, by simp [moreD, Dd.depth], by simp [moreD, Dd.tdep, Tm.depth], by simp only [moreD, nD]; exact pow4 n⟩
          simp only [moreD, Dd.ok, Tm.ok]
          exact ⟨this, this, by decide, by decide⟩
        have hl : LsOk nm n 1 [moreD nm] := ls_cons (k := 0) hm ls_nil
        have h6 : 0 ≤ mix c 9859 6 ∧ mix c 9859 6 < 6 := ⟨mix_lo _ (by omega), mix_hi _ (by omega)⟩
        have tt : (if hon then Tm.bin .less (.nam (nameAt nm 0)) (.num (mix c 9859 6)) else termOf nm c).ok nm ∧ (if hon then Tm.bin .less (.nam (nameAt nm 0)) (.num (mix c 9859 6)) else termOf nm c).depth ≤ 2 := by
          cases hon
          · exact ⟨ht, hd⟩
          · simp only [if_true, Tm.ok, Tm.depth]
            exact ⟨⟨nameAt_mem (by decide) (by rw [p.n4]; decide), by omega, by omega⟩, by decide⟩
        refine ⟨?_, ?_, ?_, ?_⟩
        · simp only [Dd.ok]; exact ⟨tt.1, okL_app.mpr ⟨b1.ok, hl.ok⟩⟩
        · simp only [Dd.depth]; rw [depthL_app]; have := b1.dp; have := hl.dp; omega
        · simp only [Dd.tdep]; rw [tdepL_app]; have := b1.td; have := hl.td; have := tt.2; omega
        · simp only [nD]; rw [nL_app]; have := b1.z; have := hl.z; omega
      · rw [deed_last (fun e => h2 e.2) (fun e => h4 e.2)]
        exact last_ok p hh.1
theorem prog_ok (ns : List Int) (k : Int) (h : ns.length ≤ 63) : LsOk (nmS ns) 2 63 (progS ns k) := by
  refine (ls_all fun d hd => ?_).le (by
    show (progS ns k).length ≤ 63
    unfold progS
    rw [List.length_map]
    exact cells_len h)
  obtain ⟨c, _, rfl⟩ := List.mem_map.mp hd
  exact deed_ok (plan_ok ns) 2 _ _ (by decide)
theorem run_ok {ns : List Int} {k j : Int} {m : Nat} {l : List (Str × Int)} (h : ns.length ≤ 63) (hm : m ≤ 20) (ri : Rising l) (hn : ∀ p ∈ l, p.1 ∈ nmS ns ∧ 0 ≤ p.2 ∧ p.2 ≤ 996) : RunOk (nmS ns) m (progS ns k) l := by
  have p := prog_ok ns k h
  exact ⟨nmS_len ns, p.ok, p.dp, p.td, ri, fun q hq => (hn q hq).1, fun q hq => (hn q hq).2, hm, Nat.le_trans p.z (by decide)⟩
end Wk
/-! ### the object of a run in the heap -/
namespace Fw
open PySem PySem.Spec L2
section
variable {K : PySem.W.Frag} {Γ : List Ds} {G0 H0 G H : Hp} {σ : St}
/-- the heap changed where nothing of this is -/
theorem En.swap {H' : Hp} (E : En K G0 H0 G H σ Γ) (hn : (Γ.all fun D => !isOwn D) = true) (s : Same G H') (s0 : Same H0 H') : En K G0 H0 G H' σ Γ := by
  refine ⟨⟨E.x.g, s0, s, E.x.n⟩, E.l, fun i D h => ?_, E.ap⟩
  obtain ⟨ov, h1, h2⟩ := E.ok i D h
  refine ⟨ov, h1, ?_⟩
  have hD : isOwn D = false := by
    have := List.all_eq_true.mp hn D (List.mem_of_getElem? h)
    simpa using this
  cases D with
  | any => trivial
  | dat d => exact h2
  | dic l => exact h2
  | scr ns => exact h2
  | val v => exact h2
  | own ds => cases hD
  | ownD l => cases hD
  | fix v Gx => exact h2
theorem EvT.at (h : EvT K tt Γ b) (E : En K G0 H0 G H σ Γ) {Q : Bool → Hp → Prop} (q : ∀ G' H', Ext G H G' H' → Q b H') : tt σ H Q := h G0 H0 G H σ E Q q
theorem ifs_yes {c : TT} {ts tz tv : TS} {D : Ends} (hc : EvT K c Γ true) (E : En K G0 H0 G H σ Γ) (h : ∀ G' H', Ext G H G' H' → tSeq ts tz D σ H') : tSeq (tIfS c ts tv) tz D σ H := hc G0 H0 G H σ E _ fun G' H' e => h G' H' e
theorem ifs_no {c : TT} {ts tz tv : TS} {D : Ends} (hc : EvT K c Γ false) (E : En K G0 H0 G H σ Γ) (h : ∀ G' H', Ext G H G' H' → tSeq tv tz D σ H') : tSeq (tIfS c ts tv) tz D σ H := hc G0 H0 G H σ E _ fun G' H' e => h G' H' e
/-- a promise of a def with its class -/
def MkD (P : Program) (w : World) (K : PySem.W.Frag) (mg : Str → Option Value) (base : Heap) (C : Addr) (k : Nat) (ps : List Str) (sp : Sp) : Prop := ∃ f fd, FnOk P w K mg base CX0 k f fd ps sp ∧ Mk K C f ∧ Binds K fd ps []
def MkFnd (K : PySem.W.Frag) (C : Addr) (q : Str) (st : Stmt) (ps : List Str) : Prop := ∃ f fd, Fun K "__init__" q st f fd ∧ Mk K C f ∧ Binds K fd ps []
theorem MkFnd.ok {P : Program} {w : World} {mg : Str → Option Value} {base : Heap} {C : Addr} {q : Str} {st : Stmt} {ps N : List Str} {k : Nat} {sp : Sp} (F : MkFnd K C q st ps) (S : FnScope N ps (defScope st)) (len : ∀ vs H Q E, sp vs H Q E → vs.length = ps.length)
    (hbody : ∀ (f : Addr) (cdv : Value) (A : Around) (outer : List Env) (s : Shared) (H : Hp) (E : XK), Room k (A.deeper (PyProof.Rows.envOfC q (defScope st) s.heap.objs.size f cdv)) →
      ∃ t, PSs (cxOf CX0 P w K mg base N q (defScope st) f cdv A outer s H E).nox (defBody st) t ∧ ∀ (vs : List V) (Q : VK), sp vs H Q E → t { nx := fun _ H' => Q .non H', rt := Q } (L2.start N vs) H) : MkD P w K mg base C (k + 1) ps sp := by
  obtain ⟨f, fd, F, hm, hb⟩ := F
  exact ⟨f, fd, F.ok S len fun cdv A outer s H vs Q E hr h => by
    obtain ⟨t, h1, h2⟩ := hbody f cdv A outer s H E hr
    exact ⟨t, h1, h2 vs Q h⟩, hm, hb⟩
theorem pe_makeD {X : Cx} {C : Addr} {x : Str} {k : Nat} {ps : List Str} {sp : Sp} {p pos : Pos} {e : Expr} {es : List Expr} {t : TA} (D : MkD X.prog X.w X.K X.mg X.base C k ps sp) (hr : Room (k + 1) X.A) (hg : Gl X x) (hm : X.mg x = some (.ref C))
    (ha : PA X (e :: es) t) (hdb : (x == ("__debug__" : Str)) = false := by decide) (he : starEach (e :: es) X.env = (false, eval e X.env) :: starEach es X.env := by rfl) (hpl : (backTo pos (starEach es X.env)).any (·.1) = false := by rfl) :
    PE X (.Call (.Name x p) (e :: es) [] pos) (tMake C sp [] E0 t) := by
  obtain ⟨f, fd, F, hk, hb⟩ := D
  exact pe_make hk F hr hg hm hb .nil pass0 ha hdb he hpl
end
end Fw
namespace Wk
open PySem PySem.Spec L2 Fw
def fldsR (b g : Addr) (t m : Int) : List (Str × V) := [("book", .ref b), ("pages", .ref g), ("turns", .int t), ("most", .int m)]
theorem fl_book (b g : Addr) (t m : Int) : (fldsR b g t m).lookup ("book" : Str) = some (V.ref b) := by rfl
theorem fl_pages (b g : Addr) (t m : Int) : (fldsR b g t m).lookup ("pages" : Str) = some (V.ref g) := by rfl
theorem fl_turns (b g : Addr) (t m : Int) : (fldsR b g t m).lookup ("turns" : Str) = some (V.int t) := by rfl
theorem fl_most (b g : Addr) (t m : Int) : (fldsR b g t m).lookup ("most" : Str) = some (V.int m) := by rfl
theorem fl_block (b g : Addr) (t m : Int) : (fldsR b g t m).lookup ("block" : Str) = none := by rfl
theorem fl_deed (b g : Addr) (t m : Int) : (fldsR b g t m).lookup ("deed" : Str) = none := by rfl
theorem fl_rounds (b g : Addr) (t m : Int) : (fldsR b g t m).lookup ("rounds" : Str) = none := by rfl
theorem fl_new (b g : Addr) (t m : Int) : putF "most" (.int m) (putF "turns" (.int t) (putF "pages" (.ref g) (putF "book" (.ref b) []))) = fldsR b g t m := by rfl
theorem fl_turn (b g : Addr) (t t' m : Int) : putF "turns" (.int t') (fldsR b g t m) = fldsR b g t' m := by rfl
structure Ob where
  C : Addr
  p : Addr
  dx : Addr
  b : Addr
  g : Addr
  q : Int → Addr
structure RunAt (H : Hp) (o : Ob) (m : Nat) (s : Ru) : Prop where
  ob : H o.p = some (.ins o.C o.dx (fldsR o.b o.g (s.t : Nat) (m : Nat)))
  bo : H o.b = some (.dK (kvl (bk s.l)))
  pgs : H o.g = some (.lst [.ref (o.q 0), .ref (o.q 1), .ref (o.q 2)])
  pg : ∀ k, 0 ≤ k → k ≤ 2 → H (o.q k) = some (.lst ((s.pg k).map V.int))
structure ObOk (o : Ob) : Prop where
  qg : ∀ k, 0 ≤ k → k ≤ 2 → o.q k ≠ o.g
  qq : ∀ j k, 0 ≤ j → j ≤ 2 → 0 ≤ k → k ≤ 2 → o.q j = o.q k → j = k
structure Out (G : Hp) (o : Ob) : Prop where
  p : G o.p = none
  b : G o.b = none
  g : G o.g = none
  q : ∀ k, 0 ≤ k → k ≤ 2 → G (o.q k) = none
theorem RunAt.up {H H' : Hp} {o : Ob} {m : Nat} {s : Ru} (h : RunAt H o m s) (e : Same H H') : RunAt H' o m s := ⟨e _ _ h.ob, e _ _ h.bo, e _ _ h.pgs, fun k h0 h2 => e _ _ (h.pg k h0 h2)⟩
theorem ne_at {H : Hp} {a b : Addr} {x y : HO} (ha : H a = some x) (hb : H b = some y) (h : x ≠ y) : a ≠ b := fun e => by
  subst e
  exact h (Option.some.inj (ha.symm.trans hb))
theorem RunAt.put {H : Hp} {o : Ob} {m : Nat} {s : Ru} (h : RunAt H o m s) (x : Str) (v : Int) : RunAt (upd H o.b (.dK (putK (kvl (bk s.l)) (Sum.inr x : Key) (.int v)))) o m (putR s x v) where
  ob := by rw [upd_ne (ne_at h.ob h.bo (by simp))]; exact h.ob
  bo := by rw [upd_same, putK_bk]; rfl
  pgs := by rw [upd_ne (ne_at h.pgs h.bo (by simp))]; exact h.pgs
  pg := fun k h0 h2 => by rw [upd_ne (ne_at (h.pg k h0 h2) h.bo (by simp))]; exact h.pg k h0 h2
theorem RunAt.shw {H : Hp} {o : Ob} {m : Nat} {s : Ru} (h : RunAt H o m s) (oo : ObOk o) {k : Int} (h0 : 0 ≤ k) (h2 : k ≤ 2) (v : Int) : RunAt (upd H (o.q k) (.lst ((s.pg k).map V.int ++ [.int v]))) o m (shwR s k v) where
  ob := by rw [upd_ne (ne_at h.ob (h.pg k h0 h2) (by simp))]; exact h.ob
  bo := by rw [upd_ne (ne_at h.bo (h.pg k h0 h2) (by simp))]; exact h.bo
  pgs := by rw [upd_ne (oo.qg k h0 h2).symm]; exact h.pgs
  pg := fun j j0 j2 => by
    show _ = some (HO.lst ((if j = k then s.pg j ++ [v] else s.pg j).map V.int))
    by_cases e : j = k
    · subst e
      rw [upd_same, if_pos rfl, List.map_append]
      rfl
    · rw [upd_ne (fun q => e (oo.qq j k j0 j2 h0 h2 q)), if_neg e]
      exact h.pg j j0 j2
theorem RunAt.turn {H : Hp} {o : Ob} {m : Nat} {s : Ru} (h : RunAt H o m s) : RunAt (upd H o.p (.ins o.C o.dx (putF "turns" (.int ((s.t : Int) + 1)) (fldsR o.b o.g (s.t : Nat) (m : Nat))))) o m { s with t := s.t + 1 } where
  ob := by rw [upd_same, fl_turn]; rfl
  bo := by rw [upd_ne (ne_at h.bo h.ob (by simp))]; exact h.bo
  pgs := by rw [upd_ne (ne_at h.pgs h.ob (by simp))]; exact h.pgs
  pg := fun k h0 h2 => by rw [upd_ne (ne_at (h.pg k h0 h2) h.ob (by simp))]; exact h.pg k h0 h2
theorem Out.up {G H G' H' : Hp} {o : Ob} {m : Nat} {s : Ru} (h : Out G o) (a : RunAt H o m s) (e : Ext G H G' H') : Out G' o :=
  ⟨e.n _ (by rw [a.ob]; simp) h.p, e.n _ (by rw [a.bo]; simp) h.b, e.n _ (by rw [a.pgs]; simp) h.g, fun k h0 h2 => e.n _ (by rw [a.pg k h0 h2]; simp) (h.q k h0 h2)⟩
theorem same_out {G H : Hp} {a : Addr} {o : HO} (s : Same G H) (ha : G a = none) : Same G (upd H a o) := fun b u e => by
  rw [upd_ne (ne_of_none e ha)]
  exact s b u e
/-- within a method: the frame and the object -/
structure Live (K : PySem.W.Frag) (nm : List Str) (m : Nat) (G0 G H : Hp) (σ : St) (Γ : List Ds) (o : Ob) (s : Ru) : Prop where
  E : En K G0 G0 G H σ Γ
  at_ : RunAt H o m s
  oo : ObOk o
  out : Out G o
  ok : RuOk nm m s
section
variable {K : PySem.W.Frag} {nm : List Str} {m : Nat} {G0 G H G' H' : Hp} {σ : St} {Γ : List Ds} {o : Ob} {s s' : Ru}
theorem Live.up (L : Live K nm m G0 G H σ Γ o s) (e : Ext G H G' H') : Live K nm m G0 G' H' σ Γ o s := ⟨L.E.up e, L.at_.up e.h, L.oo, L.out.up L.at_ e, L.ok⟩
theorem Live.go (L : Live K nm m G0 G H σ Γ o s) (hn : (Γ.all fun D => !isOwn D) = true) (e : Same G H') (a : RunAt H' o m s') (k : RuOk nm m s') : Live K nm m G0 G H' σ Γ o s' := ⟨L.E.swap hn e (L.E.x.g.trans e), a, L.oo, L.out, k⟩
theorem Live.sm0 (L : Live K nm m G0 G H σ Γ o s) : Same G0 H := L.E.x.h
end
theorem Live.begin {K : PySem.W.Frag} {nm : List Str} {m : Nat} {G H : Hp} {vs : List V} {xs : List Ds} {N : List Str} {o : Ob} {s : Ru} (e : Same G H) (a : RunAt H o m s) (oo : ObOk o) (out : Out G o) (ok : RuOk nm m s) (h : VsOk K G vs xs) (hn : (xs.all fun D => !isOwn D) = true) :
    Live K nm m G G H (L2.start N vs) (xs ++ List.replicate (N.length - xs.length) .any) o s := by
  have E := en_start (N := N) (Same.refl G) h
  refine ⟨E.swap ?_ e e, a, oo, out, ok⟩
  rw [List.all_append, hn]
  simp [isOwn]
/-- the promises of the methods -/
structure RunCls (K : PySem.W.Frag) (mg : Str → Option Value) (C : Addr) : Prop where
  cl : Cls K C
  nB : NoAttr K C "book"
  nP : NoAttr K C "pages"
  nT : NoAttr K C "turns"
  nM : NoAttr K C "most"
  mgC : mg "Run" = some (.ref C)
structure RunPre (nm : List Str) (m n : Nat) (G H : Hp) (C : Addr) (o : Ob) (s : Ru) : Prop where
  sm : Same G H
  at_ : RunAt H o m s
  oo : ObOk o
  out : Out G o
  ok : RuOk nm m s
  c : o.C = C
  z : sz s + n * (1 + (m - s.t)) ≤ 100000
def spBlock (C : Addr) (n : Nat) : Sp := fun vs H Q _ => ∃ (nm : List Str) (m : Nat) (o : Ob) (s : Ru) (G : Hp) (ds : List Dd) (v : V), vs = [.ref o.p, v] ∧ RunPre nm m (nL ds) G H C o s ∧ Dr G v (encB ds) ∧ okL nm ds ∧ depthL ds < n ∧ tdepL ds ≤ 2 ∧
  ∀ H', Same G H' → RunAt H' o m (exL m ds s).2 → Q (.bl (exL m ds s).1) H'
def spDeed (C : Addr) (n : Nat) : Sp := fun vs H Q _ => ∃ (nm : List Str) (m : Nat) (o : Ob) (s : Ru) (G : Hp) (d : Dd) (v : V), vs = [.ref o.p, v] ∧ RunPre nm m (nD d) G H C o s ∧ Dr G v (encD d) ∧ d.ok nm ∧ d.depth < n ∧ d.tdep ≤ 2 ∧
  ∀ H', Same G H' → RunAt H' o m (exD m d s).2 → Q (.bl (exD m d s).1) H'
def spRounds (C : Addr) (n : Nat) : Sp := fun vs H Q _ => ∃ (nm : List Str) (m : Nat) (o : Ob) (s : Ru) (G : Hp) (t : Tm) (a : List Dd) (v : V), vs = [.ref o.p, v] ∧ RunPre nm m (nL a) G H C o s ∧ Dr G v (encD (.whl t a)) ∧ t.ok nm ∧ okL nm a ∧ depthL a < n ∧ t.depth ≤ 2 ∧ tdepL a ≤ 2 ∧
  ∀ H', Same G H' → RunAt H' o m (exD m (.whl t a) s).2 → Q (.bl (exD m (.whl t a) s).1) H'
def spInit (C : Addr) : Sp := fun vs H Q _ => ∃ (p dx : Addr) (v : V) (m : Nat) (G : Hp) (l : List (Str × Int)), vs = [.ref p, v, .int (m : Nat)] ∧ H p = some (.ins C dx []) ∧ Same G H ∧ Dr G v (encS l) ∧ (l.map (·.1)).Nodup ∧
  ∀ (o : Ob) (H' : Hp), o.p = p → o.C = C → RunAt H' o m (start0 l) → ObOk o → (H o.b = none ∧ H o.g = none ∧ ∀ k, 0 ≤ k → k ≤ 2 → H (o.q k) = none) → (∀ a u, H a = some u → a ≠ p → H' a = some u) → Q .non H'
section
variable {K : PySem.W.Frag} {mg : Str → Option Value} {C : Addr} {nm : List Str} {m : Nat} {G0 G H G' H' : Hp} {σ : St} {Γ : List Ds} {o : Ob} {s s' : Ru} {i : Nat} {te : TE}
theorem fld_at {f : Str} {v : V} {Q : VK} (T : RunCls K mg C) (L : RunAt H o m s) (hc : o.C = C) (h0 : σ[i]? = some (some (.ref o.p))) (n : NoAttr K C f) (hl : (fldsR o.b o.g (s.t : Nat) (m : Nat)).lookup f = some v) (q : Q v H) : tFld K (tVar i) f σ H Q := by
  subst hc
  exact ⟨_, h0, o.p, o.C, o.dx, _, v, rfl, L.ob, T.cl, n, hl, q⟩
theorem reck_at {t : Tm} {Q : VK} {E : XK} (T : RunCls K mg C) (L : Live K nm m G0 G H σ Γ o s) (hc : o.C = C) (h0 : σ[i]? = some (some (.ref o.p))) (ht : Ev K te Γ (.dat (encT t))) (hok : t.ok nm) (hd : t.depth ≤ 2)
    (q : ∀ G' H', Ext G H G' H' → Q (.int (valT t (look s.l))) H') : tCall (spP K (PrReck 3)) [] E (tCons te (tCons (tFld K (tVar i) "book") tNil)) σ H Q :=
  ht G0 G0 G H σ L.E _ fun v G1 H1 e1 hv => by
    have L1 := L.up e1
    refine fld_at T L1.at_ hc h0 T.nB (fl_book _ _ _ _) ?_
    have hb : Same (upd G1 o.b (.dK (kvl (bk s.l)))) H1 := fun b u e => by
      unfold upd at e
      split at e
      · rename_i hb
        subst hb
        rw [L1.at_.bo]
        exact e
      · exact L1.E.s b u e
    refine ⟨upd G1 o.b (.dK (kvl (bk s.l))), [.dat (encT t), .dic (bk s.l)], .int (valT t (look s.l)), hb, .cons (Dr.up hv (same_up L1.out.b)) (.cons ⟨o.b, rfl, upd_same⟩ .nil), ⟨nm, t, s.l, rfl, hok, by omega, L1.ok.lo, rfl⟩, fun u G2 H2 e2 hu => ?_⟩
    cases hu
    exact q G1 H2 (e1.trans ⟨Same.refl _, e2.h, L1.E.s.trans e2.h, fun _ _ h => h⟩)
/-- self.block(..) -/
theorem block_at {n : Nat} {ds : List Dd} {Q : VK} {E : XK} (T : RunCls K mg C) (L : Live K nm m G0 G H σ Γ o s) (hc : o.C = C) (h0 : σ[i]? = some (some (.ref o.p))) (hv : Ev K te Γ (.dat (encB ds))) (hok : okL nm ds) (hd : depthL ds < n) (ht : tdepL ds ≤ 2) (hz : sz s + nL ds * (1 + (m - s.t)) ≤ 100000)
    (q : ∀ H', Same G H' → RunAt H' o m (exL m ds s).2 → Q (.bl (exL m ds s).1) H') : tMeth C "block" (spBlock C n) [] E (tVar i) (tCons te tNil) σ H Q := by
  subst hc
  refine ⟨_, h0, o.p, o.dx, _, rfl, L.at_.ob, fl_block _ _ _ _, hv G0 G0 G H σ L.E _ fun v G1 H1 e1 hv => ?_⟩
  have L1 := L.up e1
  exact ⟨nm, m, o, s, G1, ds, v, rfl, ⟨L1.E.s, L1.at_, L1.oo, L1.out, L1.ok, rfl, hz⟩, hv, hok, hd, ht, fun H' e a => q H' (e1.g.trans e) a⟩
end
/-! ### raw steps -/
theorem ifs_op {r : R2} {ta tb : TE} {ts tz tv : TS} {D : Ends} {σ : St} {H : Hp} (h : ta σ H fun u H1 => tb σ H1 fun v H2 => r u v H2 fun x H' => ∃ k, x = .bl k ∧ (if k = true then tSeq ts tz D σ H' else tSeq tv tz D σ H')) : tSeq (tIfS (tTest (tOp r ta tb)) ts tv) tz D σ H := h
theorem sfld_op {K : PySem.W.Frag} {r : R2} {ta tb to : TE} {tz : TS} {f : Str} {D : Ends} {σ : St} {H : Hp} (h : ta σ H fun u H1 => tb σ H1 fun v H2 => r u v H2 fun y H3 => to σ H3 fun x H2 => ∃ a C dx fs, x = .ref a ∧ H2 a = some (.ins C dx fs) ∧ Cls K C ∧ NoAttr K C f ∧ fs.length < 1000 ∧ tz D σ (upd H2 a (.ins C dx (putF f y fs)))) :
    tSeq (sFld K to (tOp r ta tb) f) tz D σ H := h
theorem skip_at {tz : TS} {D : Ends} {σ : St} {H : Hp} (h : tz D σ H) : tSeq tNext tz D σ H := h
theorem assoc_at {ta tb tz : TS} {D : Ends} {σ : St} {H : Hp} (h : tSeq ta (tSeq tb tz) D σ H) : tSeq (tSeq ta tb) tz D σ H := h
theorem dput_at {td ty tv : TE} {tz : TS} {D : Ends} {σ : St} {H : Hp} (h : tv σ H fun v H1 => td σ H1 fun x H2 => ty σ H2 fun y H3 => ∃ a H4, x = .ref a ∧ DPut H3 a y v H4 ∧ tz D σ H4) : tSeq (sDPut td ty tv) tz D σ H := h
theorem drop_at {te : TE} {tz : TS} {D : Ends} {σ : St} {H : Hp} (h : te σ H fun _ H1 => tz D σ H1) : tSeq (tDrop te) tz D σ H := h
theorem ret_at {te : TE} {D : Ends} {σ : St} {H : Hp} (h : te σ H D.rt) : tRet te D σ H := h
theorem rets_at {te : TE} {tz : TS} {D : Ends} {σ : St} {H : Hp} (h : te σ H D.rt) : tSeq (tRet te) tz D σ H := h
theorem ifV_at {te : TE} {ts tz tv : TS} {D : Ends} {σ : St} {H : Hp} (h : te σ H fun x H' => ∃ k, x = .bl k ∧ (if k = true then tSeq ts tz D σ H' else tSeq tv tz D σ H')) : tSeq (tIfS (tB te) ts tv) tz D σ H := h
theorem asg_at {te : TE} {i : Nat} {tz : TS} {D : Ends} {σ : St} {H : Hp} (h : te σ H fun x H' => tz D (σ.set i (some x)) H') : tSeq (tAsg te (gName i)) tz D σ H := h
theorem bm_at {K : PySem.W.Frag} {T : String} {r : V → List V → Hp → VK → Prop} {to : TE} {t : TA} {σ : St} {H : Hp} {Q : VK} (h : to σ H fun x H1 => tyV K T x H1 ∧ t σ H1 fun xs H2 => r x xs H2 Q) : tBM K T r to t σ H Q := h
theorem opr_at {r : R2} {ta tb : TE} {σ : St} {H : Hp} {Q : VK} (h : ta σ H fun u H1 => tb σ H1 fun v H2 => r u v H2 Q) : tOp r ta tb σ H Q := h
theorem cons1_at {te : TE} {σ : St} {H : Hp} {Q : List V → Hp → Prop} (h : te σ H fun v H1 => Q [v] H1) : tCons te tNil σ H Q := h
theorem join_at {c : Bool} {te : TE} {i : Nat} {tz : TS} {D : Ends} {σ : St} {H : Hp} {v : V} (h : ∀ Q : VK, Q v H → te σ H Q) (k : tz D (if c = true then σ.set i (some v) else σ) H) : if c = true then tSeq (tAsg te (gName i)) tz D σ H else tSeq tNext tz D σ H := by
  cases c with
  | true => exact h _ k
  | false => exact k
theorem upd_none {H : Hp} {a c : Addr} {o : HO} (h : upd H a o c = none) : H c = none := by
  unfold upd at h
  split at h
  · cases h
  · exact h
theorem tcb1 {r : List V → Hp → VK → Prop} {te : TE} {σ : St} {H : Hp} {Q : VK} (h : te σ H fun v H1 => r [v] H1 Q) : tCB r (tCons te tNil) σ H Q := h
theorem notb_at {te : TE} {ts tz tv : TS} {D : Ends} {σ : St} {H : Hp} (h : te σ H fun x H' => ∃ k, x = .bl k ∧ (if (!k) = true then tSeq ts tz D σ H' else tSeq tv tz D σ H')) : tSeq (tIfS (tNot (tB te)) ts tv) tz D σ H := h
end Wk
/-! ### data that can be compared; zip of tuples -/
namespace Fw
open PySem PySem.Spec L2
/-- plain data, at most n deep -/
def Shd (n : Nat) (d : PyData) : Prop := d.canLay0 = true ∧ d.depth ≤ n
theorem shd_none {n : Nat} : Shd n .none := ⟨by rfl, Nat.zero_le _⟩
theorem shd_int {n : Nat} (i : Int) : Shd n (.int i) := ⟨by rfl, Nat.zero_le _⟩
theorem shd_bool {n : Nat} (b : Bool) : Shd n (.bool b) := ⟨by rfl, Nat.zero_le _⟩
theorem shd_str {n : Nat} {x : Str} (h : PyData.strOk x = true) : Shd n (.str x) := ⟨by simpa [PyData.canLay0] using h, Nat.zero_le _⟩
theorem shd_all {n : Nat} : ∀ {ds : List PyData}, (∀ d ∈ ds, Shd n d) → PyData.canLayAll0 ds = true ∧ PyData.depthAll ds ≤ n
  | [], _ => ⟨by simp [PyData.canLayAll0], by simp [PyData.depthAll]⟩
  | d :: r, h => by
    obtain ⟨h1, h2⟩ := h d List.mem_cons_self
    obtain ⟨h3, h4⟩ := shd_all fun e he => h e (List.mem_cons_of_mem _ he)
    refine ⟨by rw [PyData.canLayAll0, h1, h3]; rfl, ?_⟩
    rw [PyData.depthAll]
    omega
theorem shd_tup {n : Nat} {ds : List PyData} (h : ∀ d ∈ ds, Shd n d) : Shd (n + 1) (.tuple ds) := by
  obtain ⟨h1, h2⟩ := shd_all h
  exact ⟨by rw [PyData.canLay0]; exact h1, by rw [PyData.depth]; omega⟩
theorem shd_lst {n : Nat} {ds : List PyData} (h : ∀ d ∈ ds, Shd n d) : Shd (n + 1) (.list ds) := by
  obtain ⟨h1, h2⟩ := shd_all h
  exact ⟨by rw [PyData.canLay0]; exact h1, by rw [PyData.depth]; omega⟩
theorem Shd.le {n m : Nat} {d : PyData} (h : Shd n d) (e : n ≤ m) : Shd m d := ⟨h.1, Nat.le_trans h.2 e⟩
theorem Shd.ok {n : Nat} {d : PyData} (h : Shd n d) (hn : n ≤ 64) : SeqAt.shaped d = true := by
  unfold SeqAt.shaped
  rw [h.1, decide_eq_true (Nat.le_trans h.2 hn)]
  rfl
theorem Shd.refl {n : Nat} {d : PyData} (h : Shd n d) : PyData.eqv d d = true := SeqAt.eqv_refl d h.1
section
variable {K : PySem.W.Frag} {Γ : List Ds} {d : PyData} {ds : List PyData} {ta tb : TE}
/-- the same thing is equal -/
theorem ev_eqS {n : Nat} (ha : Ev K ta Γ (.dat d)) (hb : Ev K tb Γ (.dat d)) (h : Shd n d) (hn : n ≤ 64) : Ev K (tOp (rEqD K) ta tb) Γ (.dat (.bool true)) := by
  have := ev_eqD ha hb (h.ok hn) (h.ok hn)
  rwa [h.refl] at this
theorem ev_neS {n : Nat} (ha : Ev K ta Γ (.dat d)) (hb : Ev K tb Γ (.dat d)) (h : Shd n d) (hn : n ≤ 64) : Ev K (tOp (rNeD K) ta tb) Γ (.dat (.bool false)) := by
  have := ev_neD ha hb (h.ok hn) (h.ok hn)
  rwa [h.refl] at this
theorem k_zipA {X : Cx} (K : PySem.W.Frag) (h : X.K = K) {e e2 : Expr} {ta : TA} {p pos tpos : Pos} {elts : List Expr} {kk : Nat} (hg : Gl X "zip") (hm : X.mg "zip" = none) (ha : PA X [e, e2] ta)
    (hs : starEach [e, e2] X.env = (false, eval e X.env) :: starEach [e2] X.env := by rfl) (hpl : (backTo pos (starEach [e2] X.env)).any (·.1) = false := by rfl) :
    PI X (.Tuple elts kk tpos) (.Call (.Name "zip" p) [e, e2] [] pos) (RZ.iZipA K ta) := h ▸ RZ.pi_zipA hg hm ha hs hpl
theorem walk_zipT {K : PySem.W.Frag} {a b : Addr} {xs ys : List V} {n : Nat} (hn : n = min xs.length ys.length) : Walk (RZ.ItzT K a b) n (fun H => SqT K H a xs ∧ SqT K H b ys) (YPair (fun i => xs[i]?) (fun i => ys[i]?)) := by
  subst hn
  refine ⟨fun i H hi q => ?_, fun _ q => ⟨xs, ys, q.1, q.2, by omega⟩, fun i H v H' _ q y => ?_⟩
  · have h1 : i < xs.length := by omega
    have h2 : i < ys.length := by omega
    exact ⟨xs, ys, xs[i], ys[i], q.1, q.2, List.getElem?_eq_getElem h1, List.getElem?_eq_getElem h2⟩
  · obtain ⟨t, x, z, h1, h2, h3, h4, h5⟩ := y
    exact ⟨t, x, z, h1, h2, h3, h4 xs q.1, h5 ys q.2⟩
theorem evi_zipT {xs ys : List PyData} (h : Ev K ta Γ (.dat (.tuple xs))) (h' : Ev K tb Γ (.dat (.tuple ys))) : EvI K (RvP K) (RZ.iZipA K (tCons ta (tCons tb tNil))) Γ (zipD xs ys) := fun G0 H0 G H σ E R r =>
  h G0 H0 G H σ E _ fun u G1 H1 e1 hu => h' G0 H0 G1 H1 σ (E.up e1) _ fun v G2 H2 e2 hv => by
    have hu := Dr.up hu e2.g
    cases hu with
    | tup ha hs =>
      cases hv with
      | tup hb ht =>
        refine ⟨_, _, _, _, rfl, .inr ⟨(ha.up e2.i).sq, (hb.up e2.i).sq, r _ G2 H2 (e1.trans e2) ?_⟩⟩
        refine (walk_zipT (n := (zipD xs ys).length) (by rw [zipD_len, hs.len, ht.len])).mono (fun H' s => ⟨(ha.up s).sq, (hb.up s).sq⟩) fun i H' x H'' _ s y => yd_pair (fun u v h1 h2 => ?_) _ _ _ y
        obtain ⟨d, k1, k2⟩ := hs.of h1
        obtain ⟨e, l1, l2⟩ := ht.of h2
        exact ⟨d, e, zipD_get k1 l1, k2, l2⟩
theorem evi_zipL {xs ys : List PyData} (h : Ev K ta Γ (.dat (.list xs))) (h' : Ev K tb Γ (.dat (.list ys))) : EvI K (RvP K) (RZ.iZipA K (tCons ta (tCons tb tNil))) Γ (zipD xs ys) := fun G0 H0 G H σ E R r =>
  h G0 H0 G H σ E _ fun u G1 H1 e1 hu => h' G0 H0 G1 H1 σ (E.up e1) _ fun v G2 H2 e2 hv => by
    have hu := Dr.up hu e2.g
    cases hu with
    | lst ha hs =>
      cases hv with
      | lst hb ht =>
        refine ⟨_, _, _, _, rfl, .inl ⟨SqL.of (e2.i _ _ ha), SqL.of (e2.i _ _ hb), r _ G2 H2 (e1.trans e2) ?_⟩⟩
        refine (walk_zip (n := (zipD xs ys).length) (by rw [zipD_len, hs.len, ht.len])).mono (fun H' s => ⟨SqL.of (s _ _ ha), SqL.of (s _ _ hb)⟩) fun i H' x H'' _ s y => yd_pair (fun u v h1 h2 => ?_) _ _ _ y
        obtain ⟨d, k1, k2⟩ := hs.of h1
        obtain ⟨e, l1, l2⟩ := ht.of h2
        exact ⟨d, e, zipD_get k1 l1, k2, l2⟩
/-- is None -/
def isNon : PyData → Bool
  | .none => true
  | _ => false
def rIsNone : R2 := fun x y H Q => y = .non ∧ Q (.bl (decide (x = .non))) H
def rNotNone : R2 := fun x y H Q => y = .non ∧ Q (.bl (!decide (x = .non))) H
theorem op_isNone {X : Cx} : OpR X (compareOp .Is) rIsNone := op_isN
theorem op_notNone {X : Cx} : OpR X (compareOp .IsNot) rNotNone := op_notN
theorem non_of {G : Hp} {v : V} (h : Dr G v d) : decide (v = .non) = isNon d := by
  cases h <;> simp [isNon]
theorem ev_isNone (ha : Ev K ta Γ (.dat d)) : Ev K (tOp rIsNone ta (tC .non)) Γ (.dat (.bool (isNon d))) :=
  ev_bin ha ev_cnon fun G H u v s hu hv Q q => by
    cases hv
    refine ⟨rfl, ?_⟩
    rw [non_of hu]
    exact q _ G H (Ext.refl s) (.bl _)
theorem ev_notNone (ha : Ev K ta Γ (.dat d)) : Ev K (tOp rNotNone ta (tC .non)) Γ (.dat (.bool (!isNon d))) :=
  ev_bin ha ev_cnon fun G H u v s hu hv Q q => by
    cases hv
    refine ⟨rfl, ?_⟩
    rw [non_of hu]
    exact q _ G H (Ext.refl s) (.bl _)
end
end Fw
/-! ### plain laws of runs -/
namespace Wk
open PySem PySem.Spec L2 Fw
theorem exL_app {m : Nat} : ∀ {a b : List Dd} {s : Ru}, exL m (a ++ b) s = if (exL m a s).1 = true then exL m b (exL m a s).2 else (false, (exL m a s).2)
  | [], b, s => by
    rw [exL_nil]
    rfl
  | d :: r, b, s => by
    show exL m (d :: (r ++ b)) s = _
    rw [exL_cons, exL_cons]
    cases h : (exD m d s).1 with
    | true =>
      simp only [if_true]
      exact exL_app
    | false => rfl
/-- turns and pages only grow -/
structure Mo (m : Nat) (s s' : Ru) : Prop where
  t : s.t ≤ s'.t
  tm : s.t ≤ m → s'.t ≤ m
  pg : ∀ k, ∃ z, s'.pg k = s.pg k ++ z
theorem Mo.refl {m : Nat} (s : Ru) : Mo m s s := ⟨Nat.le_refl _, id, fun _ => ⟨[], (List.append_nil _).symm⟩⟩
theorem Mo.trans {m : Nat} {s s' s'' : Ru} (a : Mo m s s') (b : Mo m s' s'') : Mo m s s'' := ⟨Nat.le_trans a.t b.t, fun h => b.tm (a.tm h), fun k => by
  obtain ⟨z, h⟩ := a.pg k
  obtain ⟨y, h'⟩ := b.pg k
  exact ⟨z ++ y, by rw [h', h, List.append_assoc]⟩⟩
theorem mo_W {m : Nat} {t : Tm} {body : Ru → Bool × Ru} (hb : ∀ s, Mo m s (body s).2) : ∀ (k : Nat) (s : Ru), Mo m s (exW m t body k s).2
  | 0, s => Mo.refl s
  | k + 1, s => by
    rw [exW_step]
    split
    · exact Mo.refl s
    · split
      · exact Mo.refl s
      · rename_i h1
        have h := hb { s with t := s.t + 1 }
        have h2 : Mo m s (body { s with t := s.t + 1 }).2 := ⟨Nat.le_trans (Nat.le_succ _) h.t, fun q => h.tm (by show s.t + 1 ≤ m; omega), h.pg⟩
        split
        · exact h2.trans (mo_W hb k _)
        · exact h2
mutual
theorem mo_D {m : Nat} : ∀ (d : Dd) (s : Ru), Mo m s (exD m d s).2
  | .put x t, s => by
    rw [exD]
    exact ⟨Nat.le_refl _, id, fun k => ⟨[], (List.append_nil _).symm⟩⟩
  | .shw k t, s => by
    rw [exD]
    refine ⟨Nat.le_refl _, id, fun j => ?_⟩
    show ∃ z, (if j = k then s.pg j ++ [_] else s.pg j) = s.pg j ++ z
    split
    · exact ⟨_, rfl⟩
    · exact ⟨[], (List.append_nil _).symm⟩
  | .ite t a b, s => by
    rw [exD]
    split
    · exact mo_L a s
    · exact mo_L b s
  | .whl t a, s => by
    rw [exD]
    exact mo_W (mo_L a) _ s
theorem mo_L {m : Nat} : ∀ (b : List Dd) (s : Ru), Mo m s (exL m b s).2
  | [], s => by
    rw [exL_nil]
    exact Mo.refl s
  | d :: r, s => by
    rw [exL_cons]
    split
    · exact (mo_D d s).trans (mo_L r _)
    · exact mo_D d s
end
/-! ### a run from the middle, and one from the start -/
structure Sim (P : Int → List Int) (t0 : Nat) (s s' : Ru) : Prop where
  lk : ∀ x, look s.l x = look s'.l x
  pg : ∀ k, s.pg k = P k ++ s'.pg k
  t : s.t = t0 + s'.t
def SimR (P : Int → List Int) (t0 : Nat) (r r' : Bool × Ru) : Prop := r.1 = r'.1 ∧ Sim P t0 r.2 r'.2
theorem sim_val {P : Int → List Int} {t0 : Nat} {s s' : Ru} (h : Sim P t0 s s') (t : Tm) : valT t (look s.l) = valT t (look s'.l) := by
  rw [show look s.l = look s'.l from funext h.lk]
theorem sim_W {P : Int → List Int} {t0 m m' : Nat} (hm : m = t0 + m') {t : Tm} {body body' : Ru → Bool × Ru} (mo : ∀ s, Mo m s (body s).2) (hb : ∀ s s', Sim P t0 s s' → s.t ≤ m → SimR P t0 (body s) (body' s')) :
    ∀ (j j' : Nat) (s s' : Ru), Sim P t0 s s' → s.t ≤ m → m - s.t < j → m' - s'.t < j' → SimR P t0 (exW m t body j s) (exW m' t body' j' s')
  | 0, _, _, _, _, _, h, _ => absurd h (Nat.not_lt_zero _)
  | _ + 1, 0, _, _, _, _, _, h => absurd h (Nat.not_lt_zero _)
  | j + 1, j' + 1, s, s', h, ht, h1, h2 => by
    have et := h.t
    rw [exW_step, exW_step, sim_val h t]
    by_cases h0 : valT t (look s'.l) = 0
    · rw [if_pos h0, if_pos h0]
      exact ⟨rfl, h⟩
    · rw [if_neg h0, if_neg h0]
      by_cases hs : s.t = m
      · rw [if_pos hs, if_pos (show s'.t = m' by omega)]
        exact ⟨rfl, h⟩
      · rw [if_neg hs, if_neg (show ¬ s'.t = m' by omega)]
        have h3 : Sim P t0 { s with t := s.t + 1 } { s' with t := s'.t + 1 } := ⟨h.lk, h.pg, by show s.t + 1 = t0 + (s'.t + 1); omega⟩
        have ht3 : ({ s with t := s.t + 1 } : Ru).t ≤ m := by show s.t + 1 ≤ m; omega
        obtain ⟨q1, q2⟩ := hb _ _ h3 ht3
        have q3 := mo { s with t := s.t + 1 }
        have q4 : s.t + 1 ≤ _ := q3.t
        have q5 := q3.tm ht3
        have q6 := q2.t
        rw [← q1]
        split
        · exact sim_W hm mo hb j j' _ _ q2 q5 (by omega) (by omega)
        · exact ⟨rfl, q2⟩
mutual
theorem sim_D {P : Int → List Int} {t0 m m' : Nat} (hm : m = t0 + m') : ∀ (d : Dd) (s s' : Ru), Sim P t0 s s' → s.t ≤ m → SimR P t0 (exD m d s) (exD m' d s')
  | .put x t, s, s', h, _ => by
    rw [exD, exD, sim_val h t]
    refine ⟨rfl, fun y => ?_, h.pg, h.t⟩
    show look (dput s.l x _) y = look (dput s'.l x _) y
    rw [look_dput, look_dput, h.lk]
  | .shw k t, s, s', h, _ => by
    rw [exD, exD, sim_val h t]
    refine ⟨rfl, h.lk, fun j => ?_, h.t⟩
    show (if j = k then s.pg j ++ [_] else s.pg j) = P j ++ (if j = k then s'.pg j ++ [_] else s'.pg j)
    rw [h.pg j]
    split
    · rw [List.append_assoc]
    · rfl
  | .ite t a b, s, s', h, ht => by
    rw [exD, exD, sim_val h t]
    split
    · exact sim_L hm a s s' h ht
    · exact sim_L hm b s s' h ht
  | .whl t a, s, s', h, ht => by
    rw [exD, exD]
    exact sim_W hm (mo_L a) (sim_L hm a) _ _ s s' h ht (by omega) (by omega)
theorem sim_L {P : Int → List Int} {t0 m m' : Nat} (hm : m = t0 + m') : ∀ (b : List Dd) (s s' : Ru), Sim P t0 s s' → s.t ≤ m → SimR P t0 (exL m b s) (exL m' b s')
  | [], s, s', h, _ => by
    rw [exL_nil, exL_nil]
    exact ⟨rfl, h⟩
  | d :: r, s, s', h, ht => by
    obtain ⟨q1, q2⟩ := sim_D hm d s s' h ht
    rw [exL_cons, exL_cons, ← q1]
    split
    · exact sim_L hm r _ _ q2 ((mo_D d s).tm ht)
    · exact ⟨rfl, q2⟩
end
/-! ### what is left -/
theorem mem_leftOf {l : List (Str × Int)} {x : Str} {v : Int} : (x, v) ∈ leftOf l ↔ look l x = v ∧ v ≠ 0 := by
  unfold leftOf
  rw [List.mem_map]
  constructor
  · rintro ⟨y, hy, e⟩
    obtain ⟨h1, h2⟩ := List.mem_filter.mp hy
    cases e
    exact ⟨rfl, of_decide_eq_true h2⟩
  · rintro ⟨rfl, h⟩
    refine ⟨x, List.mem_filter.mpr ⟨(upS_perm _).mem_iff.mpr ?_, decide_eq_true h⟩, rfl⟩
    cases c : look? l x with
    | none =>
      exfalso
      apply h
      unfold look
      rw [c]
      rfl
    | some v => exact List.mem_map.mpr ⟨_, look?_mem c, rfl⟩
theorem leftOf_rising {l : List (Str × Int)} (nd : (l.map (·.1)).Nodup) : Rising (leftOf l) := by
  unfold leftOf Rising
  refine List.pairwise_map.mpr ?_
  exact (upS_ris nd).filter _
theorem look_leftOf {l : List (Str × Int)} (nd : (l.map (·.1)).Nodup) (x : Str) : look (leftOf l) x = look l x := by
  by_cases h : look l x = 0
  · cases c : look? (leftOf l) x with
    | none => unfold look at h ⊢; rw [c, h]; rfl
    | some v =>
      have := mem_leftOf.mp (look?_mem c)
      exact absurd (this.1.symm.trans h) this.2
  · have := mem_look? (rising_nodup (leftOf_rising nd)) (mem_leftOf.mpr ⟨rfl, h⟩)
    unfold look at this ⊢
    rw [this]
    rfl
theorem leftOf_ext {l l' : List (Str × Int)} (nd : (l.map (·.1)).Nodup) (nd' : (l'.map (·.1)).Nodup) (h : ∀ x, look l x = look l' x) : leftOf l = leftOf l' :=
  rising_ext (leftOf_rising nd) (leftOf_rising nd') fun ⟨x, v⟩ => by rw [mem_leftOf, mem_leftOf, h]
theorem leftOf_ok {nm : List Str} {m : Nat} {s : Ru} (h : RuOk nm m s) : ∀ p ∈ leftOf s.l, p.1 ∈ nm ∧ 0 ≤ p.2 ∧ p.2 ≤ 996 := by
  rintro ⟨x, v⟩ hp
  obtain ⟨h1, h2⟩ := mem_leftOf.mp hp
  cases c : look? s.l x with
  | none =>
    exfalso
    apply h2
    rw [← h1]
    unfold look
    rw [c]
    rfl
  | some w' =>
    have e : w' = v := by
      rw [← h1]
      unfold look
      rw [c]
      rfl
    subst e
    exact ⟨h.nm x (List.mem_map.mpr ⟨_, look?_mem c, rfl⟩), h.lo _ (look?_mem c)⟩
/-! ### one behind the other -/
theorem behind {nm : List Str} {m : Nat} {a b : List Dd} {l : List (Str × Int)} (h : RunOk nm m a l) (hb : okL nm b) :
    (runT m a l = none → encR m (a ++ b) l = encR m a l) ∧
    (∀ t1 : Nat, runT m a l = some (t1 : Int) → t1 ≤ m ∧ encR m (a ++ b) l = .tuple [encT? ((runT (m - t1) b (leftOf (runR m a l).l)).map fun t => (t1 : Int) + t), encS (leftOf (runR (m - t1) b (leftOf (runR m a l).l)).l), encPg fun k => (runR m a l).pg k ++ (runR (m - t1) b (leftOf (runR m a l).l)).pg k]) := by
  have g := h.goes
  constructor
  · intro h0
    unfold runT at h0
    split at h0
    · cases h0
    · rename_i h1
      unfold encR runT runR
      rw [exL_app, if_neg h1, if_neg h1]
      rfl
  · intro t1 h0
    unfold runT at h0
    split at h0
    · rename_i h1
      have et : (exL m a (start0 l)).2.t = t1 := by
        have := Option.some.inj h0
        omega
      have hm : t1 ≤ m := et ▸ g.ok.t
      refine ⟨hm, ?_⟩
      have hs : Sim (runR m a l).pg t1 (exL m a (start0 l)).2 (start0 (leftOf (runR m a l).l)) := ⟨fun x => (look_leftOf g.ok.nd x).symm, fun k => (List.append_nil _).symm, et⟩
      obtain ⟨q1, q2⟩ := sim_L (m := m) (m' := m - t1) (by omega) b _ _ hs g.ok.t
      have gb := goes_L b _ hb g.ok
      have sb : RuOk nm (m - t1) (start0 (leftOf (runR m a l).l)) := start_ok (rising_nodup (leftOf_rising g.ok.nd)) (fun x hx => by
        obtain ⟨p, hp, rfl⟩ := List.mem_map.mp hx
        exact (leftOf_ok g.ok p hp).1) fun p hp => (leftOf_ok g.ok p hp).2
      have gb' := goes_L b _ hb sb
      have e1 : exL m (a ++ b) (start0 l) = exL m b (exL m a (start0 l)).2 := by rw [exL_app, if_pos h1]
      have e2 : runT m (a ++ b) l = (runT (m - t1) b (leftOf (runR m a l).l)).map fun t => (t1 : Int) + t := by
        unfold runT
        rw [e1, q1]
        split
        · have := q2.t
          refine congrArg some ?_
          show (((exL m b (exL m a (start0 l)).2).2.t : Nat) : Int) = (t1 : Int) + (((exL (m - t1) b (start0 (leftOf (runR m a l).l))).2.t : Nat) : Int)
          omega
        · rfl
      have e3 : leftOf (runR m (a ++ b) l).l = leftOf (runR (m - t1) b (leftOf (runR m a l).l)).l := by
        unfold runR
        rw [e1]
        exact leftOf_ext gb.ok.nd gb'.ok.nd q2.lk
      have e4 : (runR m (a ++ b) l).pg = fun k => (runR m a l).pg k ++ (runR (m - t1) b (leftOf (runR m a l).l)).pg k := by
        funext k
        show (exL m (a ++ b) (start0 l)).2.pg k = _
        rw [e1]
        exact q2.pg k
      unfold encR
      rw [e2, e3, e4]
    · cases h0
/-! ### more turns -/
structure Longer (m : Nat) (r r' : Bool × Ru) : Prop where
  st : r.1 = false
  pg : ∀ k, ∃ z, r'.2.pg k = r.2.pg k ++ z
  t : r'.1 = true → m < r'.2.t
def More (m : Nat) (r r' : Bool × Ru) : Prop := (r.1 = true ∧ r' = r) ∨ Longer m r r'
theorem more_W {m m' : Nat} (hm : m ≤ m') {t : Tm} {body body' : Ru → Bool × Ru} (mo : ∀ s, Mo m s (body s).2) (mo' : ∀ s, Mo m' s (body' s).2) (hb : ∀ s, s.t ≤ m → More m (body s) (body' s)) :
    ∀ (j j' : Nat) (s : Ru), s.t ≤ m → m - s.t < j → m' - s.t < j' → More m (exW m t body j s) (exW m' t body' j' s)
  | 0, _, _, _, h, _ => absurd h (Nat.not_lt_zero _)
  | _ + 1, 0, _, _, _, h => absurd h (Nat.not_lt_zero _)
  | j + 1, j' + 1, s, ht, h1, h2 => by
    rw [exW_step, exW_step]
    by_cases h0 : valT t (look s.l) = 0
    · rw [if_pos h0, if_pos h0]
      exact .inl ⟨rfl, rfl⟩
    · rw [if_neg h0, if_neg h0]
      have m1 := mo' { s with t := s.t + 1 }
      have m2 : s.t + 1 ≤ _ := m1.t
      by_cases hs : s.t = m
      · rw [if_pos hs]
        refine .inr ?_
        split
        · exact ⟨rfl, fun k => ⟨[], (List.append_nil _).symm⟩, fun e => by cases e⟩
        · split
          · have m3 := mo_W (t := t) mo' j' (body' { s with t := s.t + 1 }).2
            refine ⟨rfl, (m1.trans m3).pg, fun _ => ?_⟩
            have := m3.t
            omega
          · exact ⟨rfl, m1.pg, fun e => by cases e⟩
      · rw [if_neg hs, if_neg (show ¬ s.t = m' by omega)]
        have ht3 : ({ s with t := s.t + 1 } : Ru).t ≤ m := by show s.t + 1 ≤ m; omega
        have q3 := mo { s with t := s.t + 1 }
        have q4 : s.t + 1 ≤ _ := q3.t
        rcases hb { s with t := s.t + 1 } ht3 with ⟨k1, k2⟩ | k
        · rw [k2, if_pos k1, if_pos k1]
          exact more_W hm mo mo' hb j j' _ (q3.tm ht3) (by omega) (by omega)
        · rw [if_neg (by rw [k.st]; decide)]
          refine .inr ?_
          split
          · rename_i hb1
            have m3 := mo_W (t := t) mo' j' (body' { s with t := s.t + 1 }).2
            refine ⟨rfl, fun i => ?_, fun _ => ?_⟩
            · obtain ⟨y, hy⟩ := k.pg i
              obtain ⟨z, hz⟩ := m3.pg i
              exact ⟨y ++ z, by rw [hz, hy, List.append_assoc]⟩
            · have := m3.t
              have := k.t hb1
              omega
          · exact ⟨rfl, k.pg, fun e => by cases e⟩
mutual
theorem more_D {m m' : Nat} (hm : m ≤ m') : ∀ (d : Dd) (s : Ru), s.t ≤ m → More m (exD m d s) (exD m' d s)
  | .put x t, s, _ => by
    rw [exD, exD]
    exact .inl ⟨rfl, rfl⟩
  | .shw k t, s, _ => by
    rw [exD, exD]
    exact .inl ⟨rfl, rfl⟩
  | .ite t a b, s, ht => by
    rw [exD, exD]
    split
    · exact more_L hm a s ht
    · exact more_L hm b s ht
  | .whl t a, s, ht => by
    rw [exD, exD]
    exact more_W hm (mo_L a) (mo_L a) (more_L hm a) _ _ s ht (by omega) (by omega)
theorem more_L {m m' : Nat} (hm : m ≤ m') : ∀ (b : List Dd) (s : Ru), s.t ≤ m → More m (exL m b s) (exL m' b s)
  | [], s, _ => by
    rw [exL_nil, exL_nil]
    exact .inl ⟨rfl, rfl⟩
  | d :: r, s, ht => by
    rw [exL_cons, exL_cons]
    rcases more_D hm d s ht with ⟨k1, k2⟩ | k
    · rw [k2, if_pos k1, if_pos k1]
      exact more_L hm r _ ((mo_D d s).tm ht)
    · rw [if_neg (by rw [k.st]; decide)]
      refine .inr ?_
      split
      · rename_i hb1
        have m3 := mo_L (m := m') r (exD m' d s).2
        refine ⟨rfl, fun i => ?_, fun _ => ?_⟩
        · obtain ⟨y, hy⟩ := k.pg i
          obtain ⟨z, hz⟩ := m3.pg i
          exact ⟨y ++ z, by rw [hz, hy, List.append_assoc]⟩
        · have := m3.t
          have := k.t hb1
          omega
      · exact ⟨rfl, k.pg, fun e => by cases e⟩
end
theorem more_run {m m' : Nat} (hm : m ≤ m') (b : List Dd) (l : List (Str × Int)) :
    (∀ t, runT m b l = some t → encR m' b l = encR m b l ∧ 0 ≤ t ∧ t ≤ m) ∧ (runT m b l = none → ∀ t, runT m' b l = some t → (m : Int) < t ∧ t ≤ m') ∧ ∀ k, ∃ z, (runR m' b l).pg k = (runR m b l).pg k ++ z := by
  have h := more_L hm b (start0 l) (Nat.zero_le _)
  have h1 := (mo_L (m := m) b (start0 l)).tm (Nat.zero_le _)
  have h2 := (mo_L (m := m') b (start0 l)).tm (Nat.zero_le _)
  refine ⟨fun t ht => ?_, fun h0 t ht => ?_, fun k => ?_⟩
  · unfold runT at ht
    split at ht
    · rename_i hb
      rcases h with ⟨_, e⟩ | k
      · refine ⟨?_, ?_⟩
        · unfold encR runT runR
          rw [e]
        · have := Option.some.inj ht
          omega
      · rw [k.st] at hb
        cases hb
    · cases ht
  · unfold runT at ht h0
    split at h0
    · cases h0
    · rename_i hb
      rcases h with ⟨e, _⟩ | k
      · exact absurd e hb
      · split at ht
        · rename_i hb'
          have := k.t hb'
          have := Option.some.inj ht
          omega
        · cases ht
  · rcases h with ⟨_, e⟩ | q
    · refine ⟨[], ?_⟩
      unfold runR
      rw [e, List.append_nil]
    · exact q.pg k
end Wk
/-! ### what runs give can be compared -/
namespace Wk
open PySem PySem.Spec L2 Fw
theorem abc_ok {l : List Nat} (h : ∀ c ∈ l, 97 ≤ c ∧ c < 123) : PyData.strOk (Sg l) = true := by
  unfold PyData.strOk Sg
  rw [← Array.all_toList]
  exact List.all_eq_true.mpr fun c hc => decide_eq_true (by have := h c hc; omega)
theorem nmS_ok {ns : List Int} : ∀ x ∈ nmS ns, PyData.strOk x = true := by
  intro x hx
  obtain ⟨k, _, rfl⟩ := List.mem_map.mp hx
  exact abc_ok (nameC_abc _ _)
theorem shd_P {p : Str × Int} (h : PyData.strOk p.1 = true) : Shd 1 (encP p) := shd_tup fun d hd => by
  simp only [List.mem_cons, List.not_mem_nil, or_false] at hd
  rcases hd with e | e <;> subst e
  · exact shd_str h
  · exact shd_int _
theorem shd_S {l : List (Str × Int)} (h : ∀ p ∈ l, PyData.strOk p.1 = true) : Shd 2 (encS l) := shd_tup fun d hd => by
  obtain ⟨p, hp, rfl⟩ := List.mem_map.mp hd
  exact shd_P (h p hp)
theorem shd_ints {n : Nat} (ns : List Int) : Shd (n + 1) (.tuple (ns.map .int)) := shd_tup fun d hd => by
  obtain ⟨p, hp, rfl⟩ := List.mem_map.mp hd
  exact shd_int _
theorem shd_pg (pg : Int → List Int) : Shd 2 (encPg pg) := shd_tup fun d hd => by
  simp only [List.mem_cons, List.not_mem_nil, or_false] at hd
  rcases hd with e | e | e <;> subst e <;> exact shd_ints _
theorem shd_T (x : Option Int) {n : Nat} : Shd n (encT? x) := by
  cases x
  · exact shd_none
  · exact shd_int _
theorem shd_run {x : Option Int} {l : List (Str × Int)} {pg : Int → List Int} (h : ∀ p ∈ l, PyData.strOk p.1 = true) : Shd 3 (.tuple [encT? x, encS l, encPg pg]) := shd_tup fun d hd => by
  simp only [List.mem_cons, List.not_mem_nil, or_false] at hd
  rcases hd with e | e | e <;> subst e
  · exact shd_T _
  · exact shd_S h
  · exact shd_pg _
theorem left_ok {ns : List Int} {m : Nat} {b : List Dd} {l : List (Str × Int)} (h : RunOk (nmS ns) m b l) : ∀ p ∈ leftOf (runR m b l).l, PyData.strOk p.1 = true := fun p hp => nmS_ok _ (leftOf_ok h.goes.ok p hp).1
theorem shd_R {ns : List Int} {m : Nat} {b : List Dd} {l : List (Str × Int)} (h : RunOk (nmS ns) m b l) : Shd 3 (encR m b l) := shd_run (left_ok h)
theorem pg_len {nm : List Str} {m : Nat} {b : List Dd} {l : List (Str × Int)} (h : RunOk nm m b l) : ((runR m b l).pg 0).length ≤ 90000 ∧ ((runR m b l).pg 1).length ≤ 90000 ∧ ((runR m b l).pg 2).length ≤ 90000 := by
  have g := h.goes
  have h1 := ru_len h.start h.n4
  have h3 : sz (start0 l) = l.length := rfl
  have h1 : l.length ≤ 4 := h1
  have hz := g.z
  have h2 : nL b * (1 + ((runR m b l).t - (start0 l).t)) ≤ 4000 * 21 := Nat.mul_le_mul h.z (by have := h.m; have := g.ok.t; omega)
  have h4 : sz (runR m b l) ≤ 90000 := by omega
  unfold sz at h4
  omega
theorem run_left {ns : List Int} {m m' : Nat} {b : List Dd} {l : List (Str × Int)} (h : RunOk (nmS ns) m b l) {k : Int} (h63 : ns.length ≤ 63) (hm : m' ≤ 20) : RunOk (nmS ns) m' (progS ns k) (leftOf (runR m b l).l) :=
  run_ok (j := 0) h63 hm (leftOf_rising h.goes.ok.nd) (leftOf_ok h.goes.ok)
theorem pr_run {nm : List Str} {m : Nat} {b : List Dd} {l : List (Str × Int)} (h : RunOk nm m b l) : PrRun [.dat (encB b), .dat (encS l), .dat (.int (m : Nat))] (encR m b l) := ⟨nm, m, b, l, rfl, h, rfl⟩
theorem run_store {ns : List Int} {k : Int} {j m : Nat} (h63 : ns.length ≤ 63) (hm : m ≤ 20) : RunOk (nmS ns) m (progS ns k) (storeS ns j) := run_ok (j := 0) h63 hm (store_rising ns j) (store_ok ns j)
theorem run_both {ns : List Int} {k k2 : Int} {j m : Nat} (h63 : ns.length ≤ 63) (hm : m ≤ 20) : RunOk (nmS ns) m (progS ns k ++ progS ns k2) (storeS ns j) := by
  have a := prog_ok ns k h63
  have b := prog_ok ns k2 h63
  refine ⟨nmS_len ns, okL_app.mpr ⟨a.ok, b.ok⟩, ?_, ?_, store_rising ns j, fun q hq => (store_ok ns j q hq).1, fun q hq => (store_ok ns j q hq).2, hm, ?_⟩
  · rw [depthL_app]; have := a.dp; have := b.dp; omega
  · rw [tdepL_app]; have := a.td; have := b.td; omega
  · rw [nL_app]
    have h1 := a.z
    have h2 := b.z
    have : 63 * 4 ^ 2 = 1008 := by decide
    omega
/-- a law: a script of at most 63 whole numbers is handed in, True comes out -/
def PrLaw : List Ds → PyData → Prop := fun xs d => ∃ ns : List Int, xs = [.scr ns] ∧ ns.length ≤ 63 ∧ d = .bool true
def spLaw (K : PySem.W.Frag) : Sp := fun vs H Q _ => ∃ (a : Addr) (ns : List Int), vs = [.ref a] ∧ SqL K H a (ns.map V.int) ∧ ns.length ≤ 63 ∧ ∀ H', Q (.bl true) H'
theorem law_of {P : Program} {w : World} {K : PySem.W.Frag} {mg : Str → Option Value} {base : Heap} {x : Str} {k : Nat} {ps : List Str} (D : Dfn P w K mg base x k ps (spP K PrLaw)) : Dfn P w K mg base x k ps (spLaw K) :=
  D.imp fun vs H Q E ⟨a, ns, h1, h2, h3, h4⟩ => ⟨H, [.scr ns], .bool true, Same.refl _, by rw [h1]; exact .cons ⟨a, rfl, h2⟩ .nil, ⟨ns, rfl, h3, rfl⟩, fun v G' H' _ hv => by cases hv; exact h4 H'⟩
def catP : PyData → PyData
  | .tuple [.tuple a, .tuple b] => .tuple (a ++ b)
  | _ => .none
theorem zip_pages {K : PySem.W.Frag} {Γ : List Ds} {p q : Int → List Int} (f : Int → List Int) (hf : ∀ k, f k = p k ++ q k) (hp : (p 0).length ≤ 90000 ∧ (p 1).length ≤ 90000 ∧ (p 2).length ≤ 90000) (hq : (q 0).length ≤ 90000 ∧ (q 1).length ≤ 90000 ∧ (q 2).length ≤ 90000) {ta tb te : TE} {i j : Nat} {vs : List Nat}
    (h1 : Ev K ta Γ (.dat (encPg p))) (h2 : Ev K tb Γ (.dat (encPg q)))
    (h : ∀ x y : List Int, x.length ≤ 90000 → y.length ≤ 90000 → ∃ js Γ1, EvG K (RvP K) (gTup K 2 (gCons (gName i) (gCons (gName j) gNil))) (wipeD Γ vs) (.tuple [.tuple (x.map .int), .tuple (y.map .int)]) js Γ1 ∧ (∀ j ∈ js, j ∈ vs) ∧ Ev K te Γ1 (.dat (.tuple ((x ++ y).map .int)))) :
    Ev K (tLc (RZ.iZipA K (tCons ta (tCons tb tNil))) (gTup K 2 (gCons (gName i) (gCons (gName j) gNil))) tYes te vs) Γ (.dat (.list [.tuple ((f 0).map .int), .tuple ((f 1).map .int), .tuple ((f 2).map .int)])) := by
  refine ev_is (ev_lcM catP (evi_zipT h1 h2) (by show 3 ≤ 100000; decide) fun n d hd => ?_) ?_
  · have hm : d = .tuple [.tuple ((p 0).map .int), .tuple ((q 0).map .int)] ∨ d = .tuple [.tuple ((p 1).map .int), .tuple ((q 1).map .int)] ∨ d = .tuple [.tuple ((p 2).map .int), .tuple ((q 2).map .int)] := by
      have := List.mem_of_getElem? hd
      simpa [zipD] using this
    have key : ∀ x y : List Int, x.length ≤ 90000 → y.length ≤ 90000 → d = .tuple [.tuple (x.map .int), .tuple (y.map .int)] → ∃ js Γ1, EvG K (RvP K) (gTup K 2 (gCons (gName i) (gCons (gName j) gNil))) (wipeD Γ vs) d js Γ1 ∧ (∀ j ∈ js, j ∈ vs) ∧ Ev K te Γ1 (.dat (catP d)) := fun x y hx hy e => by
      subst e
      obtain ⟨js, Γ1, k1, k2, k3⟩ := h x y hx hy
      refine ⟨js, Γ1, k1, k2, ?_⟩
      rw [List.map_append] at k3
      exact k3
    rcases hm with e | e | e
    · exact key _ _ hp.1 hq.1 e
    · exact key _ _ hp.2.1 hq.2.1 e
    · exact key _ _ hp.2.2 hq.2.2 e
  · rw [hf, hf, hf, List.map_append, List.map_append, List.map_append]
    rfl
end Wk
/-! ### the law's own run: its dict "hand" in the heap -/
namespace Wk
open PySem PySem.Spec L2 Fw
def handK (b g : Addr) (t m : Int) : List (Key × V) := [(Sum.inr "book", .ref b), (Sum.inr "pages", .ref g), (Sum.inr "turns", .int t), (Sum.inr "most", .int m)]
theorem hk_book (b g : Addr) (t m : Int) : valV (handK b g t m) (Sum.inr "book" : Key) = some (V.ref b) := by rfl
theorem hk_pages (b g : Addr) (t m : Int) : valV (handK b g t m) (Sum.inr "pages" : Key) = some (V.ref g) := by rfl
theorem hk_turns (b g : Addr) (t m : Int) : valV (handK b g t m) (Sum.inr "turns" : Key) = some (V.int t) := by rfl
theorem hk_most (b g : Addr) (t m : Int) : valV (handK b g t m) (Sum.inr "most" : Key) = some (V.int m) := by rfl
theorem hand_turn (b g : Addr) (t t' m : Int) : putK (handK b g t m) (Sum.inr "turns" : Key) (.int t') = handK b g t' m := by rfl
theorem hand_new (b g : Addr) (t m : Int) : mergeK [] (handK b g t m) = handK b g t m := by rfl
structure HandAt (H : Hp) (o : Ob) (m : Nat) (s : Ru) : Prop where
  ob : H o.p = some (.dK (handK o.b o.g (s.t : Nat) (m : Nat)))
  bo : H o.b = some (.dK (kvl (bk s.l)))
  pgs : H o.g = some (.lst [.ref (o.q 0), .ref (o.q 1), .ref (o.q 2)])
  pg : ∀ k, 0 ≤ k → k ≤ 2 → H (o.q k) = some (.lst ((s.pg k).map V.int))
  bp : o.b ≠ o.p
theorem HandAt.up {H H' : Hp} {o : Ob} {m : Nat} {s : Ru} (h : HandAt H o m s) (e : Same H H') : HandAt H' o m s := ⟨e _ _ h.ob, e _ _ h.bo, e _ _ h.pgs, fun k h0 h2 => e _ _ (h.pg k h0 h2), h.bp⟩
theorem HandAt.put {H : Hp} {o : Ob} {m : Nat} {s : Ru} (h : HandAt H o m s) (x : Str) (v : Int) : HandAt (upd H o.b (.dK (putK (kvl (bk s.l)) (Sum.inr x : Key) (.int v)))) o m (putR s x v) where
  ob := by rw [upd_ne h.bp.symm]; exact h.ob
  bo := by rw [upd_same, putK_bk]; rfl
  pgs := by rw [upd_ne (ne_at h.pgs h.bo (by simp))]; exact h.pgs
  pg := fun k h0 h2 => by rw [upd_ne (ne_at (h.pg k h0 h2) h.bo (by simp))]; exact h.pg k h0 h2
  bp := h.bp
theorem HandAt.shw {H : Hp} {o : Ob} {m : Nat} {s : Ru} (h : HandAt H o m s) (oo : ObOk o) {k : Int} (h0 : 0 ≤ k) (h2 : k ≤ 2) (v : Int) : HandAt (upd H (o.q k) (.lst ((s.pg k).map V.int ++ [.int v]))) o m (shwR s k v) where
  ob := by rw [upd_ne (ne_at h.ob (h.pg k h0 h2) (by simp))]; exact h.ob
  bo := by rw [upd_ne (ne_at h.bo (h.pg k h0 h2) (by simp))]; exact h.bo
  pgs := by rw [upd_ne (oo.qg k h0 h2).symm]; exact h.pgs
  pg := fun j j0 j2 => by
    show _ = some (HO.lst ((if j = k then s.pg j ++ [v] else s.pg j).map V.int))
    by_cases e : j = k
    · subst e
      rw [upd_same, if_pos rfl, List.map_append]
      rfl
    · rw [upd_ne (fun q => e (oo.qq j k j0 j2 h0 h2 q)), if_neg e]
      exact h.pg j j0 j2
  bp := h.bp
theorem HandAt.turn {H : Hp} {o : Ob} {m : Nat} {s : Ru} (h : HandAt H o m s) : HandAt (upd H o.p (.dK (putK (handK o.b o.g (s.t : Nat) (m : Nat)) (Sum.inr "turns" : Key) (.int ((s.t : Int) + 1))))) o m { s with t := s.t + 1 } where
  ob := by rw [upd_same, hand_turn]; rfl
  bo := by rw [upd_ne (h.bp)]; exact h.bo
  pgs := by rw [upd_ne (ne_at h.pgs h.ob (by simp))]; exact h.pgs
  pg := fun k h0 h2 => by rw [upd_ne (ne_at (h.pg k h0 h2) h.ob (by simp))]; exact h.pg k h0 h2
  bp := h.bp
theorem Out.upH {G H G' H' : Hp} {o : Ob} {m : Nat} {s : Ru} (h : Out G o) (a : HandAt H o m s) (e : Ext G H G' H') : Out G' o :=
  ⟨e.n _ (by rw [a.ob]; simp) h.p, e.n _ (by rw [a.bo]; simp) h.b, e.n _ (by rw [a.pgs]; simp) h.g, fun k h0 h2 => e.n _ (by rw [a.pg k h0 h2]; simp) (h.q k h0 h2)⟩
/-- within a method: the frame and the object -/
structure HLive (K : PySem.W.Frag) (nm : List Str) (m : Nat) (G0 G H : Hp) (σ : St) (Γ : List Ds) (o : Ob) (s : Ru) : Prop where
  E : En K G0 G0 G H σ Γ
  at_ : HandAt H o m s
  oo : ObOk o
  out : Out G o
  ok : RuOk nm m s
section
variable {K : PySem.W.Frag} {nm : List Str} {m : Nat} {G0 G H G' H' : Hp} {σ : St} {Γ : List Ds} {o : Ob} {s s' : Ru}
theorem HLive.up (L : HLive K nm m G0 G H σ Γ o s) (e : Ext G H G' H') : HLive K nm m G0 G' H' σ Γ o s := ⟨L.E.up e, L.at_.up e.h, L.oo, L.out.upH L.at_ e, L.ok⟩
theorem HLive.go (L : HLive K nm m G0 G H σ Γ o s) (hn : (Γ.all fun D => !isOwn D) = true) (e : Same G H') (a : HandAt H' o m s') (k : RuOk nm m s') : HLive K nm m G0 G H' σ Γ o s' := ⟨L.E.swap hn e (L.E.x.g.trans e), a, L.oo, L.out, k⟩
theorem HLive.sm0 (L : HLive K nm m G0 G H σ Γ o s) : Same G0 H := L.E.x.h
end
theorem HLive.begin {K : PySem.W.Frag} {nm : List Str} {m : Nat} {G H : Hp} {vs : List V} {xs : List Ds} {N : List Str} {o : Ob} {s : Ru} (e : Same G H) (a : HandAt H o m s) (oo : ObOk o) (out : Out G o) (ok : RuOk nm m s) (h : VsOk K G vs xs) (hn : (xs.all fun D => !isOwn D) = true) :
    HLive K nm m G G H (L2.start N vs) (xs ++ List.replicate (N.length - xs.length) .any) o s := by
  have E := en_start (N := N) (Same.refl G) h
  refine ⟨E.swap ?_ e e, a, oo, out, ok⟩
  rw [List.all_append, hn]
  simp [isOwn]
structure HandPre (nm : List Str) (m n : Nat) (G H : Hp) (o : Ob) (s : Ru) : Prop where
  sm : Same G H
  at_ : HandAt H o m s
  oo : ObOk o
  out : Out G o
  ok : RuOk nm m s
  z : sz s + n * (1 + (m - s.t)) ≤ 100000
def spLRun (n : Nat) : Sp := fun vs H Q _ => ∃ (nm : List Str) (m : Nat) (o : Ob) (s : Ru) (G : Hp) (ds : List Dd) (v : V), vs = [v, .ref o.p] ∧ HandPre nm m (nL ds) G H o s ∧ Dr G v (encB ds) ∧ okL nm ds ∧ depthL ds < n ∧ tdepL ds ≤ 2 ∧
  ∀ H', Same G H' → HandAt H' o m (exL m ds s).2 → Q (.bl (exL m ds s).1) H'
section
variable {K : PySem.W.Frag} {nm : List Str} {m : Nat} {G0 G H G' H' : Hp} {σ : St} {Γ : List Ds} {o : Ob} {s s' : Ru} {i : Nat} {te : TE}
theorem dget_at {f : Str} {v : V} {Q : VK} (L : HandAt H o m s) (h0 : σ[i]? = some (some (.ref o.p))) (hl : valV (handK o.b o.g (s.t : Nat) (m : Nat)) (Sum.inr f : Key) = some v) (q : Q v H) : tDGet (tVar i) (tC (.str f)) σ H Q := by
  refine ⟨_, h0, o.p, v, rfl, ?_, q⟩
  have g := DGet.k (k := (Sum.inr f : Key)) L.ob
  rw [hl] at g
  exact g
theorem hval_at {t : Tm} {Q : VK} {E : XK} (L : HLive K nm m G0 G H σ Γ o s) (h0 : σ[i]? = some (some (.ref o.p))) (ht : Ev K te Γ (.dat (encT t))) (hok : t.ok nm) (hd : t.depth ≤ 2)
    (q : ∀ G' H', Ext G H G' H' → Q (.int (valT t (look s.l))) H') : tCall (spP K (PrReck 3)) [] E (tCons te (tCons (tDGet (tVar i) (tC (.str "book"))) tNil)) σ H Q :=
  ht G0 G0 G H σ L.E _ fun v G1 H1 e1 hv => by
    have L1 := L.up e1
    refine dget_at L1.at_ h0 (hk_book _ _ _ _) ?_
    have hb : Same (upd G1 o.b (.dK (kvl (bk s.l)))) H1 := fun b u e => by
      unfold upd at e
      split at e
      · rename_i hb
        subst hb
        rw [L1.at_.bo]
        exact e
      · exact L1.E.s b u e
    refine ⟨upd G1 o.b (.dK (kvl (bk s.l))), [.dat (encT t), .dic (bk s.l)], .int (valT t (look s.l)), hb, .cons (Dr.up hv (same_up L1.out.b)) (.cons ⟨o.b, rfl, upd_same⟩ .nil), ⟨nm, t, s.l, rfl, hok, by omega, L1.ok.lo, rfl⟩, fun u G2 H2 e2 hu => ?_⟩
    cases hu
    exact q G1 H2 (e1.trans ⟨Same.refl _, e2.h, L1.E.s.trans e2.h, fun _ _ h => h⟩)
/-- _law_run(.., hand) -/
theorem lrun_at {n : Nat} {ds : List Dd} {Q : VK} {E : XK} (L : HLive K nm m G0 G H σ Γ o s) (h0 : σ[i]? = some (some (.ref o.p))) (hv : Ev K te Γ (.dat (encB ds))) (hok : okL nm ds) (hd : depthL ds < n) (ht : tdepL ds ≤ 2) (hz : sz s + nL ds * (1 + (m - s.t)) ≤ 100000)
    (q : ∀ H', Same G H' → HandAt H' o m (exL m ds s).2 → Q (.bl (exL m ds s).1) H') : tCall (spLRun n) [] E (tCons te (tCons (tVar i) tNil)) σ H Q :=
  hv G0 G0 G H σ L.E _ fun v G1 H1 e1 hv => by
    have L1 := L.up e1
    exact ⟨_, h0, nm, m, o, s, G1, ds, v, rfl, ⟨L1.E.s, L1.at_, L1.oo, L1.out, L1.ok, hz⟩, hv, hok, hd, ht, fun H' e a => q H' (e1.g.trans e) a⟩
end
end Wk
/-! ### all that is new is shown -/
namespace Fw
open PySem PySem.Spec L2 Wk
section
variable {K : PySem.W.Frag} {Γ : List Ds} {G0 H0 G H H3 : Hp} {σ : St}
def vis (G0 H0 H3 : Hp) : Hp := fun q => if H0 q = none then H3 q else G0 q
theorem vis_new {q : Addr} (h : H0 q = none) : vis G0 H0 H3 q = H3 q := if_pos h
theorem vis_same (x : Ext G0 H0 G H) (s : Same H H3) : Same G (vis G0 H0 H3) := fun a u e => by
  unfold vis
  split
  · exact s _ _ (x.i _ _ e)
  · rename_i h
    cases c : G0 a with
    | none =>
      have := x.n a h c
      rw [this] at e
      cases e
    | some y => rw [← e, x.g _ _ c]
theorem vis_ext (x : Ext G0 H0 G H) (s : Same H H3) : Ext G0 H0 (vis G0 H0 H3) H3 := by
  refine ⟨x.g.trans (vis_same x s), x.h.trans s, fun a u e => ?_, fun q q1 q2 => ?_⟩
  · unfold vis at e
    split at e
    · exact e
    · exact s _ _ (x.i _ _ (x.g _ _ e))
  · unfold vis
    rw [if_neg q1]
    exact q2
theorem En.all (E : En K G0 H0 G H σ Γ) (hn : (Γ.all fun D => !isOwn D) = true) (s : Same H H3) : En K G0 H0 (vis G0 H0 H3) H3 σ Γ := by
  refine ⟨vis_ext E.x s, E.l, fun i D h => ?_, E.ap⟩
  obtain ⟨ov, h1, h2⟩ := E.ok i D h
  refine ⟨ov, h1, ?_⟩
  have hD : isOwn D = false := by
    have := List.all_eq_true.mp hn D (List.mem_of_getElem? h)
    simpa using this
  have sv := vis_same E.x s
  cases D with
  | any => trivial
  | dat d => obtain ⟨v, e1, e2⟩ := h2; exact ⟨v, e1, e2.up sv⟩
  | dic l => obtain ⟨a, e1, e2⟩ := h2; exact ⟨a, e1, sv _ _ e2⟩
  | scr ns => obtain ⟨a, e1, e2⟩ := h2; exact ⟨a, e1, sv.seq e2⟩
  | val v => exact h2
  | own ds => cases hD
  | ownD l => cases hD
  | fix v Gx => exact ⟨h2.1, h2.2.trans sv⟩
/-- d[".."], the dict standing still -/
theorem ev_hfld {i : Nat} {p : Addr} {Gx : Hp} {kvs : List (Key × V)} {f : Str} {v : V} {D : Ds} (h : Γ[i]? = some (.fix (.ref p) Gx)) (ho : Gx p = some (.dK kvs)) (hl : valV kvs (Sum.inr f : Key) = some v) (hv : VOk K Gx v D) :
    Ev K (tDGet (tVar i) (tC (.str f))) Γ D := fun G0 H0 G H σ E Q q => by
  obtain ⟨ov, h1, h2, h3⟩ := E.ok i _ h
  subst h2
  refine ⟨_, h1, p, v, rfl, ?_, q v G H (Ext.refl E.s) (hv.up h3)⟩
  have g := DGet.k (k := (Sum.inr f : Key)) (E.s _ _ (h3 _ _ ho))
  rw [hl] at g
  exact g
end
end Fw
namespace Wk
open PySem PySem.Spec L2 Fw
/-- the dict "hand" is made -/
theorem hand_at {G H : Hp} {σ : St} {l : List (Str × Int)} {v : V} {m : Nat} {Q : VK} (sG : Same G H) (hv : Dr G v (encS l)) (nd : (l.map (·.1)).Nodup) (h2 : σ[2]? = some (some v)) (h3 : σ[3]? = some (some (.int (m : Nat))))
    (q : ∀ (o : Ob) (H' : Hp), HandAt H' o m (start0 l) → ObOk o → Out H o → Same H H' → Q (.ref o.p) H') :
    tDisp [(tC (.str "book"), tCB rDictT (tCons (tVar 2) tNil)), (tC (.str "pages"), tLst (tCons (tLst tNil) (tCons (tLst tNil) (tCons (tLst tNil) tNil)))), (tC (.str "turns"), tC (.int 0)), (tC (.str "most"), tVar 3)] σ H Q := by
  intro p np
  refine tcb1 ⟨v, h2, dict_at (sG.trans (same_up np)) hv nd fun b nb => ?_⟩
  have pb : p ≠ b := ne_of_none (show upd _ p _ p = _ from upd_same) nb
  refine ⟨Nat.zero_le _, fun q0 n0 => ⟨Nat.zero_le _, fun q1 n1 => ⟨Nat.zero_le _, fun q2 n2 => ⟨Fw.sz (by rfl), fun g ng => ?_⟩⟩⟩⟩
  have b0 : b ≠ q0 := ne_of_none (show upd _ b _ b = _ from upd_same) n0
  have p0 : p ≠ q0 := ne_of_none (show upd _ b _ p = _ from by rw [upd_ne pb]; exact upd_same) n0
  have b1 : b ≠ q1 := ne_of_none (show upd _ q0 _ b = _ from by rw [upd_ne b0]; exact upd_same) n1
  have p1 : p ≠ q1 := ne_of_none (show upd _ q0 _ p = _ from by rw [upd_ne p0, upd_ne pb]; exact upd_same) n1
  have q01 : q0 ≠ q1 := ne_of_none (show upd _ q0 _ q0 = _ from upd_same) n1
  have b2 : b ≠ q2 := ne_of_none (show upd _ q1 _ b = _ from by rw [upd_ne b1, upd_ne b0]; exact upd_same) n2
  have p2 : p ≠ q2 := ne_of_none (show upd _ q1 _ p = _ from by rw [upd_ne p1, upd_ne p0, upd_ne pb]; exact upd_same) n2
  have q02 : q0 ≠ q2 := ne_of_none (show upd _ q1 _ q0 = _ from by rw [upd_ne q01]; exact upd_same) n2
  have q12 : q1 ≠ q2 := ne_of_none (show upd _ q1 _ q1 = _ from upd_same) n2
  have bg : b ≠ g := ne_of_none (show upd _ q2 _ b = _ from by rw [upd_ne b2, upd_ne b1, upd_ne b0]; exact upd_same) ng
  have pg : p ≠ g := ne_of_none (show upd _ q2 _ p = _ from by rw [upd_ne p2, upd_ne p1, upd_ne p0, upd_ne pb]; exact upd_same) ng
  have q0g : q0 ≠ g := ne_of_none (show upd _ q2 _ q0 = _ from by rw [upd_ne q02, upd_ne q01]; exact upd_same) ng
  have q1g : q1 ≠ g := ne_of_none (show upd _ q2 _ q1 = _ from by rw [upd_ne q12]; exact upd_same) ng
  have q2g : q2 ≠ g := ne_of_none (show upd _ q2 _ q2 = _ from upd_same) ng
  have nb' : H b = none := by rw [upd_ne pb.symm] at nb; exact nb
  have n0' : H q0 = none := by rw [upd_ne b0.symm, upd_ne p0.symm] at n0; exact n0
  have n1' : H q1 = none := by rw [upd_ne q01.symm, upd_ne b1.symm, upd_ne p1.symm] at n1; exact n1
  have n2' : H q2 = none := by rw [upd_ne q12.symm, upd_ne q02.symm, upd_ne b2.symm, upd_ne p2.symm] at n2; exact n2
  have ng' : H g = none := by rw [upd_ne q2g.symm, upd_ne q1g.symm, upd_ne q0g.symm, upd_ne bg.symm, upd_ne pg.symm] at ng; exact ng
  refine ⟨_, h3, ?_, handK b g 0 (m : Nat), rfl, (by show 4 ≤ 15; decide), ?_⟩
  · rw [upd_ne pg, upd_ne p2, upd_ne p1, upd_ne p0, upd_ne pb]
    exact upd_same
  rw [hand_new]
  refine q ⟨0, p, 0, b, g, fun i => if i = 0 then q0 else if i = 1 then q1 else q2⟩ _ ⟨upd_same, ?_, ?_, ?_, pb.symm⟩ ⟨?_, ?_⟩ ⟨np, nb', ng', ?_⟩ ?_
  · show upd _ p _ b = _
    rw [upd_ne pb.symm, upd_ne bg, upd_ne b2, upd_ne b1, upd_ne b0]
    exact upd_same
  · show upd _ p _ g = _
    rw [upd_ne pg.symm]
    exact upd_same
  · intro i h0 h2
    have : i = 0 ∨ i = 1 ∨ i = 2 := by omega
    rcases this with e | e | e <;> subst e
    · show upd _ p _ q0 = _
      rw [upd_ne p0.symm, upd_ne q0g, upd_ne q02, upd_ne q01]
      exact upd_same
    · show upd _ p _ q1 = _
      rw [upd_ne p1.symm, upd_ne q1g, upd_ne q12]
      exact upd_same
    · show upd _ p _ q2 = _
      rw [upd_ne p2.symm, upd_ne q2g]
      exact upd_same
  · intro i h0 h2
    have : i = 0 ∨ i = 1 ∨ i = 2 := by omega
    rcases this with e | e | e <;> subst e
    · exact q0g
    · exact q1g
    · exact q2g
  · intro i j i0 i2 j0 j2 e
    have h1 : i = 0 ∨ i = 1 ∨ i = 2 := by omega
    have h2 : j = 0 ∨ j = 1 ∨ j = 2 := by omega
    rcases h1 with h1 | h1 | h1 <;> rcases h2 with h2 | h2 | h2 <;> subst h1 <;> subst h2 <;> first
      | rfl
      | exact absurd (show q0 = q1 from e) q01 | exact absurd (show q0 = q2 from e) q02 | exact absurd (show q1 = q2 from e) q12
      | exact absurd (show q1 = q0 from e) q01.symm | exact absurd (show q2 = q0 from e) q02.symm | exact absurd (show q2 = q1 from e) q12.symm
  · intro i h0 h2
    have : i = 0 ∨ i = 1 ∨ i = 2 := by omega
    rcases this with e | e | e <;> subst e
    · exact n0'
    · exact n1'
    · exact n2'
  · intro a u ha
    have ap := ne_of_none ha np
    show upd _ p _ a = _
    rw [upd_ne ap, upd_ne (ne_of_none ha ng'), upd_ne (ne_of_none ha n2'), upd_ne (ne_of_none ha n1'), upd_ne (ne_of_none ha n0'), upd_ne (ne_of_none ha nb'), upd_ne ap]
    exact ha
def PrWhole : List Ds → PyData → Prop := fun xs d => ∃ i : Int, xs = [.dat (.int i)] ∧ d = .bool true
end Wk
/-! ### list(zip(xs, ys)) -/
namespace Fz
open PySem PySem.Spec PyProof.Rows
/-- a zip that has handed out the pair at a, which is kept -/
abbrev ZipB (h : Heap) (z TI TO a : Addr) (f : Bool) : Prop :=
  h.get? z = some { cls := .type "zip", dict := none, data := .fields #[rawInt a, .bool f, .bool false, .ref TI, .ref TO], slots := #[] }
section
variable {prog : Program} {w : World} {A : Around} {E : Value → Shared → Prop} {s : Shared}
theorem zb_item {z TI TO i1 i2 l1 l2 a : Addr} {f : Bool} {oa : Obj} {k1 k2 : Nat} {xs ys : Array Value} {x y : Value} {Q : Value → Shared → Prop} (D : ZipApart z TI TO i1 i2 l1 l2)
    (hz : ZipB s.heap z TI TO a f) (hTI : IsPair s.heap TI (.ref i1) (.ref i2)) (ha : s.heap.get? a = some oa) (haz : a ≠ z) 
    (h1 : s.heap.IsListIter i1 l1 k1) (h2 : s.heap.IsListIter i2 l2 k2) (hl1 : s.heap.IsList l1 xs) (hl2 : s.heap.IsList l2 ys) (hx : xs[k1]? = some x) (hy : ys[k2]? = some y)
    (hQ : ∀ h', ZipB h' z TI TO a true → h'.IsListIter i1 l1 (k1 + 1) → h'.IsListIter i2 l2 (k2 + 1) → IsPair h' s.heap.objs.size x y → h'.objs.size = s.heap.objs.size + 1 →
      (∀ c o, c ≠ z → c ≠ i1 → c ≠ i2 → s.heap.get? c = some o → h'.get? c = some o) → Q (.ref s.heap.objs.size) { s with heap := h' }) :
    wpAny (model prog w) A (Builtin.«zip.__next__» ⟨[.ref z], []⟩) (fun fin s' => ∃ v, fin = .done (.ret v) ∧ Q v s') E s := by
  show wpAny _ _ (field (.ref z) 2 >>= _) _ _ _
  refine wpAny_bind (wpAny_field hz rfl (x := .bool false) rfl ?_)
  show wpAny _ _ (field (.ref z) 3 >>= _) _ _ _
  refine wpAny_bind (wpAny_field hz rfl (x := .ref TI) rfl (wpAny_bind (wpAny_seqItems hTI rfl ?_)))
  show wpAny _ _ (Builtin.SmallTypes.ownedTupleIsFree (.ref z) >>= _) _ _ _
  refine wpAny_bind ?_
  unfold Builtin.SmallTypes.ownedTupleIsFree
  refine wpAny_bind (wpAny_field hz rfl (x := rawInt a) rfl ?_)
  show wpAny _ _ (loadIfAlive ((a : Int).toNat) >>= _) _ _ _
  rw [Int.toNat_natCast]
  refine wpAny_bind (PySem.W.kdx_alive ha ?_)
  simp only [Option.isNone_some, Bool.false_eq_true, if_false]
  refine wpAny_bind (wpAny_field hz rfl (x := .bool f) rfl ?_)
  refine wpAny_mono (Q := fun b s₁ => b = false ∧ ∃ h₀, s₁ = { s with heap := h₀ } ∧ ZipB h₀ z TI TO a true ∧ Heap.SameBut z s.heap h₀) ?_ (fun b s₁ hb => ?_) fun _ _ e => e
  · cases f with
    | true => exact wpAny_pure ⟨rfl, s.heap, rfl, hz, Heap.SameBut.refl _ _⟩
    | false => exact wpAny_bind (wpAny_setField_rec hz (by simp) fun h₀ hz₀ hs₀ => wpAny_pure ⟨rfl, h₀, rfl, hz₀, hs₀⟩)
  obtain ⟨rfl, h₀, rfl, hz₀, hs₀⟩ := hb
  simp only [Bool.false_eq_true, if_false, ← Array.forIn_toList, List.forIn_cons, List.forIn_nil]
  have a1 : h₀.IsListIter i1 l1 k1 := h1.extBut hs₀.extBut D.i1z
  have b1 : h₀.IsList l1 xs := hl1.extBut hs₀.extBut D.l1z
  refine wpAny_bind (wpAny_bind (wpAny_bind (wpAny_holding ?_)))
  show wpAny _ _ (Builtin.SmallTypes.nextOf (.ref i1) >>= _) _ _ _
  refine wpAny_bind (wpAny_nextOf_list_item a1 b1 hx fun h₂ c1 hs₂ => wpAny_pure (wpAny_pure ?_))
  have a2 : h₂.IsListIter i2 l2 k2 := (h2.extBut hs₀.extBut D.i2z).extBut hs₂.extBut D.i12.symm
  have b2 : h₂.IsList l2 ys := (hl2.extBut hs₀.extBut D.l2z).extBut hs₂.extBut D.l2i1
  refine wpAny_bind (wpAny_bind (wpAny_holding ?_))
  show wpAny _ _ (Builtin.SmallTypes.nextOf (.ref i2) >>= _) _ _ _
  refine wpAny_bind (wpAny_nextOf_list_item a2 b2 hy fun h₄ c2 hs₄ => wpAny_pure (wpAny_pure (wpAny_pure ?_)))
  show wpAny _ _ (newTuple [x, y] >>= fun v => ret v) _ _ _
  refine wpAny_bind (wpAny_newTuple ?_)
  have hsz : h₄.objs.size = s.heap.objs.size := by rw [hs₄.1, hs₂.1, hs₀.1]
  have hk : ∀ c o, c ≠ z → c ≠ i1 → c ≠ i2 → s.heap.get? c = some o → h₄.get? c = some o := fun c o d1 d2 d3 e => hs₄.extBut c o d3 (hs₂.extBut c o d2 (hs₀.extBut c o d1 e))
  have push : ∀ c o, h₄.get? c = some o → (h₄.push { cls := .type "tuple", data := .seq #[x, y] }).get? c = some o := fun c o e => Heap.get?_push_of_some _ e
  refine wpAny_pure ⟨_, rfl, ?_⟩
  have hT : IsPair (h₄.push { cls := .type "tuple", data := .seq #[x, y] }) h₄.objs.size x y := Heap.get?_push_size _ rfl
  have hQ' := hQ (h₄.push { cls := .type "tuple", data := .seq #[x, y] }) (push _ _ (hs₄.extBut _ _ D.i2z.symm (hs₂.extBut _ _ D.i1z.symm hz₀))) ((c1.extBut hs₄.extBut D.i12).at fun o e => push _ o e) (c2.at fun o e => push _ o e) (by rw [← hsz]; exact hT)
    (by rw [Heap.size_push, hsz]) fun c o d1 d2 d3 e => push c o (hk c o d1 d2 d3 e)
  rw [← hsz] at hQ'
  exact hQ'
theorem zb_end {z TI TO i1 i2 l1 l2 a : Addr} {f : Bool} {oa : Obj} {k1 k2 : Nat} {xs ys : Array Value} {Q : Fin → Shared → Prop} (hh : A.handled = none) (D : ZipApart z TI TO i1 i2 l1 l2)
    (hz : ZipB s.heap z TI TO a f) (hTI : IsPair s.heap TI (.ref i1) (.ref i2)) (ha : s.heap.get? a = some oa)
    (h1 : s.heap.IsListIter i1 l1 k1) (h2 : s.heap.IsListIter i2 l2 k2) (hl1 : s.heap.IsList l1 xs) (hl2 : s.heap.IsList l2 ys) (hend : xs[k1]? = none ∨ ys[k2]? = none)
    (hE : ∀ h' e, (∀ c o, c ≠ z → c ≠ i1 → c ≠ i2 → s.heap.get? c = some o → h'.get? c = some o) → (∃ o, h'.get? e = some o ∧ o.cls = .type "StopIteration") → E (.ref e) { s with heap := h' }) :
    wpAny (model prog w) A (Builtin.«zip.__next__» ⟨[.ref z], []⟩) Q E s := by
  show wpAny _ _ (field (.ref z) 2 >>= _) _ _ _
  refine wpAny_bind (wpAny_field hz rfl (x := .bool false) rfl ?_)
  show wpAny _ _ (field (.ref z) 3 >>= _) _ _ _
  refine wpAny_bind (wpAny_field hz rfl (x := .ref TI) rfl (wpAny_bind (wpAny_seqItems hTI rfl ?_)))
  show wpAny _ _ (Builtin.SmallTypes.ownedTupleIsFree (.ref z) >>= _) _ _ _
  refine wpAny_bind ?_
  unfold Builtin.SmallTypes.ownedTupleIsFree
  refine wpAny_bind (wpAny_field hz rfl (x := rawInt a) rfl ?_)
  show wpAny _ _ (loadIfAlive ((a : Int).toNat) >>= _) _ _ _
  rw [Int.toNat_natCast]
  refine wpAny_bind (PySem.W.kdx_alive ha ?_)
  simp only [Option.isNone_some, Bool.false_eq_true, if_false]
  refine wpAny_bind (wpAny_field hz rfl (x := .bool f) rfl ?_)
  refine wpAny_mono (Q := fun b s₁ => b = false ∧ ∃ h₀, s₁ = { s with heap := h₀ } ∧ Heap.SameBut z s.heap h₀) ?_ (fun b s₁ hb => ?_) fun _ _ e => e
  · cases f with
    | true => exact wpAny_pure ⟨rfl, s.heap, rfl, Heap.SameBut.refl _ _⟩
    | false => exact wpAny_bind (wpAny_setField_rec hz (by simp) fun h₀ _ hs₀ => wpAny_pure ⟨rfl, h₀, rfl, hs₀⟩)
  obtain ⟨rfl, h₀, rfl, hs₀⟩ := hb
  simp only [Bool.false_eq_true, if_false, ← Array.forIn_toList, List.forIn_cons, List.forIn_nil]
  have a1 : h₀.IsListIter i1 l1 k1 := h1.extBut hs₀.extBut D.i1z
  have b1 : h₀.IsList l1 xs := hl1.extBut hs₀.extBut D.l1z
  refine wpAny_bind (wpAny_bind (wpAny_bind (wpAny_holding ?_)))
  show wpAny _ _ (Builtin.SmallTypes.nextOf (.ref i1) >>= _) _ _ _
  cases hx : xs[k1]? with
  | none =>
    refine wpAny_bind (wpAny_nextOf_list_end hh a1 b1 hx fun h₂ e hs₂ he => hE h₂ e (fun c o d1 d2 _ q => hs₂ _ _ d2 (hs₀.extBut c o d1 q)) he)
  | some x =>
    have hy : ys[k2]? = none := by
      rcases hend with h | h
      · rw [hx] at h; cases h
      · exact h
    refine wpAny_bind (wpAny_nextOf_list_item a1 b1 hx fun h₂ c1 hs₂ => wpAny_pure (wpAny_pure ?_))
    have a2 : h₂.IsListIter i2 l2 k2 := (h2.extBut hs₀.extBut D.i2z).extBut hs₂.extBut D.i12.symm
    have b2 : h₂.IsList l2 ys := (hl2.extBut hs₀.extBut D.l2z).extBut hs₂.extBut D.l2i1
    refine wpAny_bind (wpAny_bind (wpAny_holding ?_))
    show wpAny _ _ (Builtin.SmallTypes.nextOf (.ref i2) >>= _) _ _ _
    exact wpAny_bind (wpAny_nextOf_list_end hh a2 b2 hy fun h₄ e hs₄ he => hE h₄ e (fun c o d1 d2 d3 q => hs₄ _ _ d3 (hs₂.extBut c o d2 (hs₀.extBut c o d1 q))) he)
/-- where a zip of two lists stands before its i-th item -/
structure ZS (xs ys : Array Value) (z TI TO i1 i2 l1 l2 S : Addr) (h : Heap) (i : Nat) : Prop where
  st : (i = 0 ∧ IsZip h z TI TO .none) ∨ ∃ a f oa, ZipB h z TI TO a f ∧ h.get? a = some oa ∧ a ≠ z ∧ a ≠ i1 ∧ a ≠ i2 ∧ a ≠ S
  ti : IsPair h TI (.ref i1) (.ref i2)
  to : ∃ a b, IsPair h TO a b
  j1 : h.IsListIter i1 l1 i
  j2 : h.IsListIter i2 l2 i
  m1 : h.IsList l1 xs
  m2 : h.IsList l2 ys
theorem ZS.keep {xs ys : Array Value} {z TI TO i1 i2 l1 l2 S : Addr} {h h' : Heap} {i : Nat} (g : ZS xs ys z TI TO i1 i2 l1 l2 S h i) (hk : ∀ c o, c ≠ S → h.get? c = some o → h'.get? c = some o)
    (n1 : z ≠ S) (n2 : TI ≠ S) (n3 : TO ≠ S) (n4 : i1 ≠ S) (n5 : i2 ≠ S) (n6 : l1 ≠ S) (n7 : l2 ≠ S) : ZS xs ys z TI TO i1 i2 l1 l2 S h' i := by
  refine ⟨?_, hk _ _ n2 g.ti, ?_, g.j1.at fun o e => hk _ o n4 e, g.j2.at fun o e => hk _ o n5 e, g.m1.at fun o e => hk _ o n6 e, g.m2.at fun o e => hk _ o n7 e⟩
  · rcases g.st with ⟨e, hz⟩ | ⟨a, f, oa, hz, ha, d1, d2, d3, d4⟩
    · exact .inl ⟨e, hk _ _ n1 hz⟩
    · exact .inr ⟨a, f, oa, hk _ _ n1 hz, hk _ _ d4 ha, d1, d2, d3, d4⟩
  · obtain ⟨a, b, e⟩ := g.to
    exact ⟨a, b, hk _ _ n3 e⟩
theorem zs_item {xs ys : Array Value} {z TI TO i1 i2 l1 l2 S : Addr} {i : Nat} {x y : Value} {Q : Option Value → Shared → Prop} (D : ZipApart z TI TO i1 i2 l1 l2) (g : ZS xs ys z TI TO i1 i2 l1 l2 S s.heap i) (hS : S < s.heap.objs.size) (hx : xs[i]? = some x) (hy : ys[i]? = some y)
    (hQ : ∀ h', ZS xs ys z TI TO i1 i2 l1 l2 S h' (i + 1) → IsPair h' s.heap.objs.size x y → h'.objs.size = s.heap.objs.size + 1 → (∀ c o, c ≠ z → c ≠ TO → c ≠ i1 → c ≠ i2 → s.heap.get? c = some o → h'.get? c = some o) → Q (some (.ref s.heap.objs.size)) { s with heap := h' }) :
    wpAny (model prog w) A (pyNext (.ref z)) Q E s := by
  have old : ∀ {c o}, s.heap.get? c = some o → s.heap.objs.size ≠ c := fun e => Nat.ne_of_gt (Heap.lt_size e)
  have e1 : s.heap.objs.size ≠ i1 := by obtain ⟨_, e, _⟩ := g.j1; exact old e
  have e2 : s.heap.objs.size ≠ i2 := by obtain ⟨_, e, _⟩ := g.j2; exact old e
  rcases g.st with ⟨_, hz⟩ | ⟨a, f, oa, hz, ha, d1, d2, d3, d4⟩
  · obtain ⟨ta, tb, hto⟩ := g.to
    exact wpAny_pyNext_zip_item D hz g.ti hto g.j1 g.j2 g.m1 g.m2 hx hy fun h' k1 k2 k3 k4 k5 k6 k7 => hQ h' ⟨.inr ⟨_, false, _, k1, k5, old hz, e1, e2, Nat.ne_of_gt hS⟩, k7 _ _ D.TIz D.TITO D.TIi1 D.TIi2 g.ti, ⟨_, _, k2⟩, k3, k4, g.m1.at fun o e => k7 _ o D.l1z D.l1TO D.l1i1 D.l1i2 e, g.m2.at fun o e => k7 _ o D.l2z D.l2TO D.l2i1 D.l2i2 e⟩ k5 k6 k7
  · have hT : s.TypeIs (.ref z) "zip" := ⟨_, hz, rfl⟩
    unfold pyNext
    exact wpAny_bind (wpAny_attempt (wpAny_callSpecial?_slot (name := Str.ofString "__next__") hT F.slot_zip_next (wpAny_call_entry F.slot_zip_next hT F.entry_zip_next (zb_item D hz g.ti ha d1 g.j1 g.j2 g.m1 g.m2 hx hy fun h' k1 k3 k4 k5 k6 k7 => wpAny_pure (hQ h' ⟨.inr ⟨a, true, oa, k1, k7 _ _ d1 d2 d3 ha, d1, d2, d3, d4⟩, k7 _ _ D.TIz D.TIi1 D.TIi2 g.ti,
      (by obtain ⟨ta, tb, hto⟩ := g.to; exact ⟨ta, tb, k7 _ _ D.TOz D.TOi1 D.TOi2 hto⟩), k3, k4, g.m1.at fun o e => k7 _ o D.l1z D.l1i1 D.l1i2 e, g.m2.at fun o e => k7 _ o D.l2z D.l2i1 D.l2i2 e⟩ k5 k6 fun c o c1 _ c3 c4 e => k7 c o c1 c3 c4 e)) (F.args_zip_next_1 _))))
theorem zs_done {xs ys : Array Value} {z TI TO i1 i2 l1 l2 S : Addr} {i : Nat} {Q : Option Value → Shared → Prop} (hh : A.handled = none) (D : ZipApart z TI TO i1 i2 l1 l2) (g : ZS xs ys z TI TO i1 i2 l1 l2 S s.heap i) (hend : xs[i]? = none ∨ ys[i]? = none)
    (hQ : ∀ h', (∀ c o, c ≠ z → c ≠ TO → c ≠ i1 → c ≠ i2 → s.heap.get? c = some o → h'.get? c = some o) → Q none { s with heap := h' }) : wpAny (model prog w) A (pyNext (.ref z)) Q E s := by
  rcases g.st with ⟨_, hz⟩ | ⟨a, f, oa, hz, ha, d1, d2, d3, d4⟩
  · obtain ⟨ta, tb, hto⟩ := g.to
    exact wpAny_pyNext_zip_end hh D hz g.ti hto g.j1 g.j2 g.m1 g.m2 hend hQ
  · have hT : s.TypeIs (.ref z) "zip" := ⟨_, hz, rfl⟩
    unfold pyNext
    refine wpAny_bind (wpAny_attempt (wpAny_callSpecial?_slot (name := Str.ofString "__next__") hT F.slot_zip_next (wpAny_call_entry F.slot_zip_next hT F.entry_zip_next (zb_end hh D hz g.ti ha g.j1 g.j2 g.m1 g.m2 hend fun h' e hk he => ?_) (F.args_zip_next_1 _))))
    obtain ⟨o, ho, hc⟩ := he
    exact wpAny_bind (wpAny_isInstance (T := "StopIteration") (b := true) ⟨o, ho, hc⟩ isSubtype_stop (wpAny_pure (hQ h' fun c o c1 _ c3 c4 e => hk c o c1 c3 c4 e)))
/-- the pairs that were made -/
structure ZG (xs ys : Array Value) (lo : Addr) (h : Heap) (as : List Addr) : Prop where
  rise : as.Pairwise fun a b => a < b
  above : ∀ a ∈ as, lo < a
  pairs : ∀ (j : Nat) (a : Addr), as[j]? = some a → ∃ x y, xs[j]? = some x ∧ ys[j]? = some y ∧ IsPair h a x y
end
section
variable {prog : Program} {w : World} {A : Around} {s : Shared} {R : Result → Shared → Prop} {xs ys : Array Value} {z TI TO i1 i2 l1 l2 S : Addr}
theorem z_loop (hh : A.handled = none) (D : ZipApart z TI TO i1 i2 l1 l2) (n1 : z < S) (n2 : TI < S) (n3 : TO < S) (n4 : i1 < S) (n5 : i2 < S) (n6 : l1 < S) (n7 : l2 < S) (hn : min xs.size ys.size ≤ sizeLine) (res : Value) {h₁ : Heap}
    (hR : ∀ h' tk acc c as, (∀ b o, b ≠ S → b ≠ z → b ≠ TO → b ≠ i1 → b ≠ i2 → h₁.get? b = some o → h'.get? b = some o) → h'.get? S = some { cls := .type "list", dict := none, data := .seq acc c, slots := #[] } → as.length = min xs.size ys.size → ZG xs ys S h' as →
      acc.toList = as.map Value.ref → R (.ok (.ret res)) { s with heap := h', toks := tk }) :
    ∀ (k i : Nat) (h : Heap) (tk c : Nat) (acc : Array Value) (as : List Addr), min xs.size ys.size - i = k → i ≤ min xs.size ys.size → ZS xs ys z TI TO i1 i2 l1 l2 S h i → (∀ b o, b ≠ S → b ≠ z → b ≠ TO → b ≠ i1 → b ≠ i2 → h₁.get? b = some o → h.get? b = some o) →
      h.get? S = some { cls := .type "list", dict := none, data := .seq acc c, slots := #[] } → acc.toList = as.map Value.ref → as.length = i → ZG xs ys S h as → S < h.objs.size →
      codeAny (model prog w) A (.builtin "list.extend.loop" ⟨[.ref S, .ref z, res], []⟩) R { s with heap := h, toks := tk } := by
  intro k
  induction k with
  | zero =>
    intro i h tk c acc as hk hi g hkeep hS hacc hal hG hIs
    refine codeAny_builtin PySem.F.entry_extend_loop ?_
    rw [Around.under_plainId PySem.F.plain_extend_loop _]; show wpAny _ A.in1 (pyNext (.ref z) >>= _) _ _ _
    have hend : xs[i]? = none ∨ ys[i]? = none := by
      rcases Nat.le_total xs.size ys.size with e | e
      · exact .inl (Array.getElem?_eq_none (by omega))
      · exact .inr (Array.getElem?_eq_none (by omega))
    refine wpAny_bind (zs_done (s := { s with heap := h, toks := tk }) (A := A.in1) hh D g hend fun h' he => wpAny_pure (hR h' tk acc c as (fun b o d1 d2 d3 d4 d5 e => he b o d2 d3 d4 d5 (hkeep b o d1 d2 d3 d4 d5 e)) (he S _ (Nat.ne_of_gt n1) (Nat.ne_of_gt n3) (Nat.ne_of_gt n4) (Nat.ne_of_gt n5) hS) (by omega) ⟨hG.rise, hG.above, fun j a hj => ?_⟩ hacc))
    obtain ⟨x, y, q1, q2, q3⟩ := hG.pairs j a hj
    have ab := hG.above a (List.mem_of_getElem? hj)
    exact ⟨x, y, q1, q2, he a _ (Nat.ne_of_gt (Nat.lt_trans n1 ab)) (Nat.ne_of_gt (Nat.lt_trans n3 ab)) (Nat.ne_of_gt (Nat.lt_trans n4 ab)) (Nat.ne_of_gt (Nat.lt_trans n5 ab)) q3⟩
  | succ k ih =>
    intro i h tk c acc as hk hi g hkeep hS hacc hal hG hIs
    have hlt : i < min xs.size ys.size := by omega
    have hx : xs[i]? = some (xs[i]'(by omega)) := Array.getElem?_eq_getElem (by omega)
    have hy : ys[i]? = some (ys[i]'(by omega)) := Array.getElem?_eq_getElem (by omega)
    generalize xs[i]'(by omega) = x at hx
    generalize ys[i]'(by omega) = y at hy
    have hsz : acc.size = i := by rw [← Array.length_toList, hacc, List.length_map, hal]
    refine codeAny_builtin PySem.F.entry_extend_loop ?_
    rw [Around.under_plainId PySem.F.plain_extend_loop _]; show wpAny _ A.in1 (pyNext (.ref z) >>= _) _ _ _
    refine wpAny_bind (zs_item (s := { s with heap := h, toks := tk }) D g hIs hx hy fun h' g' ht hz hkp => ?_)
    dsimp only at ht hz hkp ⊢
    have hS' := hkp S _ (Nat.ne_of_gt n1) (Nat.ne_of_gt n3) (Nat.ne_of_gt n4) (Nat.ne_of_gt n5) hS
    have up : ∀ b o, b ≠ S → h'.get? b = some o → (h'.update S (Obj.mapSeq (·.push (Value.ref h.objs.size)))).get? b = some o := fun b o hb e => (Heap.get?_update_other _ _ (Ne.symm hb)).trans e
    show wpAny _ A.in1 (updateSeq S (·.push (Value.ref h.objs.size)) >>= _) _ _ _
    refine wpAny_bind (wpAny_updateSeq hS' rfl (wpAny_pure ⟨plainId_quiet PySem.F.plain_extend_loop _, ih (i + 1) _ tk _ (acc.push (Value.ref h.objs.size)) (as ++ [h.objs.size]) (by omega) hlt (g'.keep up (Nat.ne_of_lt n1) (Nat.ne_of_lt n2) (Nat.ne_of_lt n3) (Nat.ne_of_lt n4) (Nat.ne_of_lt n5) (Nat.ne_of_lt n6) (Nat.ne_of_lt n7))
      (fun b o d1 d2 d3 d4 d5 e => up b o d1 (hkp b o d2 d3 d4 d5 (hkeep b o d1 d2 d3 d4 d5 e))) (Heap.get?_update_self _ hS' rfl) (by rw [Array.toList_push, hacc, List.map_append]; rfl) (by rw [List.length_append, hal]; rfl) ⟨?_, ?_, ?_⟩ ?_⟩) (by rw [hsz]; omega) (by show (acc.push (Value.ref h.objs.size)).size ≤ sizeLine + 1; rw [Array.size_push, hsz]; omega))
    · refine List.pairwise_append.mpr ⟨hG.rise, List.pairwise_singleton _ _, fun a ha b hb => ?_⟩
      rw [List.mem_singleton.mp hb]
      obtain ⟨j, hj⟩ := List.mem_iff_getElem?.mp ha
      obtain ⟨_, _, _, _, e⟩ := hG.pairs j a hj
      exact Heap.lt_size e
    · intro a ha
      rcases List.mem_append.mp ha with ha | ha
      · exact hG.above a ha
      · rw [List.mem_singleton.mp ha]; exact hIs
    · intro j b hj
      rcases Nat.lt_trichotomy j as.length with e1 | e1 | e1
      · rw [List.getElem?_append_left e1] at hj
        obtain ⟨x', y', q1, q2, q3⟩ := hG.pairs j b hj
        have hb := hG.above b (List.mem_of_getElem? hj)
        exact ⟨x', y', q1, q2, up b _ (Nat.ne_of_gt hb) (hkp b _ (Nat.ne_of_gt (Nat.lt_trans n1 hb)) (Nat.ne_of_gt (Nat.lt_trans n3 hb)) (Nat.ne_of_gt (Nat.lt_trans n4 hb)) (Nat.ne_of_gt (Nat.lt_trans n5 hb)) q3)⟩
      · subst e1
        have hb : h.objs.size = b := by simpa using hj
        subst hb
        exact ⟨x, y, by rw [hal]; exact hx, by rw [hal]; exact hy, up _ _ (Nat.ne_of_gt hIs) ht⟩
      · rw [List.getElem?_eq_none (by rw [List.length_append, List.length_singleton]; omega)] at hj
        cases hj
    · have e : (h'.update S (Obj.mapSeq (·.push (Value.ref h.objs.size)))).get? h.objs.size = _ := up _ _ (Nat.ne_of_gt hIs) ht
      exact Nat.lt_trans hIs (Heap.lt_size e)
end
theorem len_zip_none : typeLookup (.type "zip") "__len__" = pure none := by rw [typeLookup_type, builtinLookup_eq_fast]; kernel_rfl
theorem hint_zip_none : typeLookup (.type "zip") "__length_hint__" = pure none := by rw [typeLookup_type, builtinLookup_eq_fast]; kernel_rfl
section
variable {prog : Program} {w : World} {A : Around} {E : Value → Shared → Prop} {s : Shared} {xs ys : Array Value} {z TI TO i1 i2 l1 l2 : Addr}
theorem z_list {Q : Value → Shared → Prop} (hh : A.handled = none) (D : ZipApart z TI TO i1 i2 l1 l2) (hz : IsZip s.heap z TI TO .none) (hti : IsPair s.heap TI (.ref i1) (.ref i2)) (hto : ∃ a b, IsPair s.heap TO a b) (j1 : s.heap.IsListIter i1 l1 0) (j2 : s.heap.IsListIter i2 l2 0) (m1 : s.heap.IsList l1 xs) (m2 : s.heap.IsList l2 ys)
    (hn : min xs.size ys.size ≤ sizeLine)
    (hQ : ∀ h' tk acc c as, (∀ b o, b ≠ z → b ≠ TO → b ≠ i1 → b ≠ i2 → s.heap.get? b = some o → h'.get? b = some o) → h'.get? s.heap.objs.size = some { cls := .type "list", dict := none, data := .seq acc c, slots := #[] } → as.length = min xs.size ys.size → ZG xs ys s.heap.objs.size h' as →
      acc.toList = as.map Value.ref → Q (.ref s.heap.objs.size) { s with heap := h', toks := tk }) :
    wpAny (model prog w) A (call (.type "list") [.ref z]) Q E s := by
  have lt : ∀ {c o}, s.heap.get? c = some o → c < s.heap.objs.size := fun e => Heap.lt_size e
  have n1 := lt hz
  have n2 := lt hti
  have n3 : TO < s.heap.objs.size := by obtain ⟨_, _, e⟩ := hto; exact lt e
  have n4 : i1 < s.heap.objs.size := by obtain ⟨_, e, _⟩ := j1; exact lt e
  have n5 : i2 < s.heap.objs.size := by obtain ⟨_, e, _⟩ := j2; exact lt e
  have n6 : l1 < s.heap.objs.size := by obtain ⟨_, e, _⟩ := m1; exact lt e
  have n7 : l2 < s.heap.objs.size := by obtain ⟨_, e, _⟩ := m2; exact lt e
  refine callType_codes (Q₁ := fun obj s₁ => obj = .ref s.heap.objs.size ∧ s₁ = { s with heap := s.heap.push { cls := .type "list", data := .seq #[] } }) PySem.F.called_list (PySem.F.typeCall_list_1 _) PySem.F.entry_list_init (code_list_new _ ⟨rfl, rfl⟩) fun obj s₁ e₁ => ?_
  obtain ⟨rfl, rfl⟩ := e₁
  have gS : (s.heap.push { cls := .type "list", data := .seq #[] }).get? s.heap.objs.size = some { cls := .type "list", data := .seq #[] } := Heap.get?_push_size _ rfl
  refine ⟨⟨_, gS, rfl⟩, PySem.F.args_list_init_2 _ _, ?_⟩
  have ne : ∀ {c}, c < s.heap.objs.size → c ≠ s.heap.objs.size := fun e => Nat.ne_of_lt e
  have g0 : ZS xs ys z TI TO i1 i2 l1 l2 s.heap.objs.size s.heap 0 := ⟨.inl ⟨rfl, hz⟩, hti, hto, j1, j2, m1, m2⟩
  have keep : ∀ h, (∀ c o, c ≠ s.heap.objs.size → s.heap.get? c = some o → h.get? c = some o) → ZS xs ys z TI TO i1 i2 l1 l2 s.heap.objs.size h 0 := fun h k => g0.keep k (ne n1) (ne n2) (ne n3) (ne n4) (ne n5) (ne n6) (ne n7)
  have k0 : ∀ c o, c ≠ s.heap.objs.size → s.heap.get? c = some o → (s.heap.push { cls := .type "list", data := .seq #[] }).get? c = some o := fun c o _ e => Heap.get?_push_of_some _ e
  show wpAny _ _ (Builtin.List.listItems (.ref s.heap.objs.size) >>= _) _ _ _; refine wpAny_bind ?_; unfold Builtin.List.listItems
  refine wpAny_bind (wpAny_seqItems gS rfl (wpAny_pure ?_))
  show wpAny _ _ (updateSeq s.heap.objs.size (fun _ => #[]) >>= fun _ => letGo (#[] : Array Value).toList.reverse >>= fun _ => Builtin.List.listExtendWith (.ref s.heap.objs.size) (.ref z) .none) _ _ _
  refine wpAny_bind (wpAny_updateSeq gS rfl (wpAny_bind (wpAny_letGo ?_)))
  have gS2 := Heap.get?_update_self (Obj.mapSeq (fun _ => (#[] : Array Value))) gS rfl
  have k1 : ∀ c o, c ≠ s.heap.objs.size → s.heap.get? c = some o → ((s.heap.push { cls := .type "list", data := .seq #[] }).update s.heap.objs.size (Obj.mapSeq (fun _ => (#[] : Array Value)))).get? c = some o := fun c o d e => (Heap.get?_update_other _ _ (Ne.symm d)).trans (k0 c o d e)
  generalize (s.heap.push { cls := .type "list", data := .seq #[] }).update s.heap.objs.size (Obj.mapSeq (fun _ => (#[] : Array Value))) = hA at gS2 k1 ⊢
  have hzA := k1 _ _ (ne n1) hz
  have hT : Shared.TypeIs { s with heap := hA } (.ref z) "zip" := ⟨_, hzA, rfl⟩
  unfold Builtin.List.listExtendWith
  refine wpAny_bind (wpAny_typeOf hT ?_)
  have c1 : Builtin.List.listSameRef (.ref s.heap.objs.size) (.ref z) = false := by simp [Builtin.List.listSameRef, (ne n1).symm]
  have c2 : (Value.type "zip" == Value.type "list") = false := by decide
  have c3 : (Value.type "zip" == Value.type "tuple") = false := by decide
  simp only [c1, c2, c3, Bool.or_false, Bool.false_eq_true, if_false]
  refine wpAny_bind (wpAny_pyIter_zip hzA (wpAny_bind (wpAny_holding ?_)))
  unfold Builtin.List.listLengthHint
  refine wpAny_bind (wpAny_specialOf hT len_zip_none ?_)
  show wpAny _ _ (specialOf (Value.ref z) (Str.ofString "__length_hint__") >>= _) _ _ _; refine wpAny_bind (wpAny_specialOf hT hint_zip_none (wpAny_pure ?_))
  show wpAny _ _ (rule "list.extend.makes-room" >>= fun _ => Builtin.List.listTouch (.ref s.heap.objs.size) >>= fun _ => again (.builtin "list.extend.loop" ⟨[.ref s.heap.objs.size, .ref z, .none], []⟩)) _ _ _
  refine wpAny_bind (wpAny_rule (wpAny_bind ?_))
  show wpAny _ _ (updateSeq s.heap.objs.size (·.push .none) >>= fun _ => updateSeq s.heap.objs.size (·.pop)) _ _ _
  refine wpAny_bind (wpAny_updateSeq gS2 rfl ?_)
  have gS3 := Heap.get?_update_self (Obj.mapSeq (·.push Value.none)) gS2 rfl
  refine wpAny_updateSeq (hz := by seq_fits) gS3 rfl ?_
  have gS4 := Heap.get?_update_self (Obj.mapSeq (·.pop)) gS3 rfl
  have k4 : ∀ c o, c ≠ s.heap.objs.size → s.heap.get? c = some o → ((hA.update s.heap.objs.size (Obj.mapSeq (·.push Value.none))).update s.heap.objs.size (Obj.mapSeq (·.pop))).get? c = some o := fun c o d e => (Heap.get?_update_other _ _ (Ne.symm d)).trans ((Heap.get?_update_other _ _ (Ne.symm d)).trans (k1 c o d e))
  generalize (hA.update s.heap.objs.size (Obj.mapSeq (·.push Value.none))).update s.heap.objs.size (Obj.mapSeq (·.pop)) = hB at gS4 k4 ⊢
  refine wpAny_pure ⟨plainId_quiet PySem.F.plain_extend_loop _, z_loop (A := A.in1) hh D n1 n2 n3 n4 n5 n6 n7 hn .none (h₁ := hB) (fun h' tk' acc c as hk' hS' hl hG hacc => ?_) _ 0 hB s.toks _ #[] [] rfl (Nat.zero_le _) (keep hB k4) (fun b o _ _ _ _ _ e => e) gS4 rfl rfl ⟨.nil, (fun _ e => nomatch e), fun j a hj => by simp at hj⟩ (Heap.lt_size gS4)⟩
  exact ⟨rfl, hQ h' tk' acc c as (fun b o d1 d2 d3 d4 e => hk' b o (ne (lt e)) d1 d2 d3 d4 (k4 b o (ne (lt e)) e)) hS' hl hG hacc⟩
end
end Fz
/-! ### many new objects at once; the rule for list(zip(xs, ys)) -/
namespace Fw
open PySem PySem.Spec L2
def puts : Hp → List (Addr × HO) → Hp
  | H, [] => H
  | H, p :: r => puts (upd H p.1 p.2) r
theorem puts_off {b : Addr} : ∀ {l : List (Addr × HO)} {H : Hp}, b ∉ l.map (·.1) → puts H l b = H b
  | [], _, _ => rfl
  | p :: r, H, h => by
    rw [List.map_cons, List.mem_cons, not_or] at h
    show puts (upd H p.1 p.2) r b = H b
    rw [puts_off h.2, upd_ne h.1]
theorem puts_at : ∀ {l : List (Addr × HO)} {H : Hp}, (l.map (·.1)).Nodup → ∀ p ∈ l, puts H l p.1 = some p.2
  | [], _, _, _, h => by cases h
  | q :: r, H, nd, p, h => by
    rw [List.map_cons, List.nodup_cons] at nd
    rcases List.mem_cons.mp h with e | h
    · subst e
      show puts (upd H p.1 p.2) r p.1 = some p.2
      rw [puts_off nd.1, upd_same]
    · exact puts_at nd.2 p h
theorem inv_puts {X : Cx} {pins : List (Addr × Obj)} {σ : St} {H : Hp} {s : Shared} {h' : Heap} {tk : Nat} {l : List (Addr × HO)} (I : Inv X pins σ H s) (hk : ∀ b o, s.heap.get? b = some o → h'.get? b = some o) (hn : ∀ p ∈ l, s.heap.get? p.1 = none ∧ H p.1 = none) (nd : (l.map (·.1)).Nodup)
    (ok : ∀ p ∈ l, ObjOk X.prog X.w (puts H l) h' p.1 p.2) : Inv X pins σ (puts H l) { s with heap := h', toks := tk } := by
  have kp : ∀ b u, H b = some u → Fw.puts H l b = some u := fun b u e => by
    rw [puts_off fun z => ?_]
    · exact e
    · obtain ⟨p, hp, rfl⟩ := List.mem_map.mp z
      rw [(hn p hp).2] at e
      cases e
  have fr : ∀ b o, s.heap.get? b = some o → b ∉ l.map (·.1) := fun b o e z => by
    obtain ⟨p, hp, rfl⟩ := List.mem_map.mp z
    rw [(hn p hp).1] at e
    cases e
  refine I.call' (ch := []) rfl ⟨fun b o e _ _ _ => hk b o e, fun b o e _ _ _ => ⟨o.slots, hk b o e⟩, fun b o e hb _ => (puts_off (fr b o e)).trans hb, fun b o e _ => ⟨o, hk b o e⟩, fun b xs e => kp b _ e, fun b o u e => kp b _ e, fun b ps e => ⟨#[], by rw [kp b _ e]; simp⟩⟩ (fun b u e => ?_) I.bare fun b z => by simp at z
  by_cases hb : b ∈ l.map (·.1)
  · obtain ⟨p, hp, rfl⟩ := List.mem_map.mp hb
    rw [puts_at nd p hp] at e
    cases e
    exact ok p hp
  · rw [puts_off hb] at e
    exact (I.hok b u e).stay (fun d v _ y => hk d v y) (fun d y => kp d _ y) fun d xs y => kp d _ y
theorem refs_vals : ∀ as : List Addr, Vals (as.map V.ref) (as.map Value.ref)
  | [] => .nil
  | _ :: as => .cons rfl (refs_vals as)
def tListZip (K : PySem.W.Frag) (ta : TA) : TE := fun σ H Q => ta σ H fun vs H1 => ∃ (a b : Addr) (xs ys : List V), vs = [.ref a, .ref b] ∧ SqL K H1 a xs ∧ SqL K H1 b ys ∧ min xs.length ys.length ≤ sizeLine ∧
  ∀ (H' : Hp) (p : Addr) (ts : List Addr), Same H1 H' → H1 p = none → (∀ t ∈ ts, H1 t = none) → H' p = some (.lst (ts.map V.ref)) → ts.length = min xs.length ys.length → (∀ (j : Nat) (t : Addr), ts[j]? = some t → ∃ x y, xs[j]? = some x ∧ ys[j]? = some y ∧ Tp H' t [x, y]) → Q (.ref p) H'
section
variable {X : Cx} {e e2 : Expr} {ta : TA} {p p2 pos pos2 : Pos}
theorem pe_listZip (hc : X.calm = true) (hg : Gl X "list") (hm : X.mg "list" = none) (hg2 : Gl X "zip") (hm2 : X.mg "zip" = none) (ha : PA X [e, e2] ta)
    (hs : starEach [.Call (.Name "zip" p2) [e, e2] [] pos2] X.env = (false, eval (.Call (.Name "zip" p2) [e, e2] [] pos2) X.env) :: starEach [] X.env := by rfl)
    (hs2 : starEach [e, e2] X.env = (false, eval e X.env) :: starEach [e2] X.env := by rfl) (hpl2 : (backTo pos2 (starEach [e2] X.env)).any (·.1) = false := by rfl) :
    PE X (.Call (.Name "list" p) [.Call (.Name "zip" p2) [e, e2] [] pos2] [] pos) (tListZip X.K ta) := by
  refine ⟨fun pins s σ H Q I hq => ?_⟩
  refine wpAny_Call_Name_kw (ld_blt I hg hm PyProof.Rows.boot_list (PyProof.Rows.callWith_type1 ?_ hs rfl))
  rw [hs]
  show wpAny _ _ (spliced ((false, eval (.Call (.Name "zip" p2) [e, e2] [] pos2) X.env) :: backTo pos (starEach [] X.env))) _ _ s
  refine Calls.spliced_cons (wpAny_Call_Name_kw (ld_blt I hg2 hm2 PyProof.Rows.boot_zip (PyProof.Rows.callWith_type1 (thn (ha.run pos2 pins s σ H _ I hq) fun us s1 ⟨vs, H1, I1, r1, q1⟩ => ?_) hs2 hpl2)))
  obtain ⟨a, b, xs, ys, rfl, hqx, hqy, hz, q⟩ := q1
  cases r1 with
  | cons r rr =>
    cases rr with
    | cons r' rr =>
      cases rr
      cases r
      cases r'
      obtain ⟨its, rv, m1, _⟩ := I1.list hqx
      obtain ⟨its2, rv2, m2, _⟩ := I1.list hqy
      refine call_zip_2 m1.isList m2.isList fun h' hz' hTI hTO h1 h2 hsz hk => Calls.spliced_nil ?_
      have D := PySem.W.ktu_apart s1.heap.objs.size a b m1.lt m2.lt
      have lx := rv.length
      have ly := rv2.length
      refine Fz.z_list (s := { s1 with heap := h' }) (xs := its.toArray) (ys := its2.toArray) (I1.ok.hd hc) D hz' hTI ⟨_, _, hTO⟩ h1 h2 (m1.isList.at fun o e => hk _ o e) (m2.isList.at fun o e => hk _ o e) (by simp only [List.size_toArray]; omega) fun hF tk acc c as hk2 hS hl hG hacc => ?_
      simp only [List.size_toArray] at hl
      dsimp only at hk2 hS hG ⊢
      have hkF : ∀ b o, s1.heap.get? b = some o → hF.get? b = some o := fun b o e => by
        have := Heap.lt_size e
        refine hk2 b o ?_ ?_ ?_ ?_ (hk b o e)
        · exact Nat.ne_of_lt (Nat.lt_add_right _ this)
        · exact Nat.ne_of_lt (Nat.lt_add_right _ this)
        · exact Nat.ne_of_lt this
        · exact Nat.ne_of_lt (Nat.lt_add_right _ this)
      have big : s1.heap.objs.size ≤ h'.objs.size := by rw [hsz]; exact Nat.le_add_right _ _
      have new : ∀ t, h'.objs.size ≤ t → s1.heap.get? t = none ∧ H1 t = none := fun t ht => by
        have hle := Nat.le_trans big ht
        refine ⟨?_, I1.hok.fresh hle⟩
        cases ec : s1.heap.get? t with
        | none => rfl
        | some o => exact absurd (Heap.lt_size ec) (Nat.not_lt.mpr hle)
      have pick : ∀ j t, as[j]? = some t → ∃ x y u v, xs[j]? = some x ∧ ys[j]? = some y ∧ RelV x u ∧ RelV y v ∧ hF.get? t = some { cls := .type "tuple", data := .seq #[u, v] } := fun j t hj => by
        obtain ⟨u, v, f1, f2, f3⟩ := hG.pairs j t hj
        have hjl : j < as.length := (List.getElem?_eq_some_iff.mp hj).1
        have jx : j < xs.length := by omega
        have jy : j < ys.length := by omega
        obtain ⟨u', g1, g2⟩ := rv.get (List.getElem?_eq_getElem jx)
        obtain ⟨v', g3, g4⟩ := rv2.get (List.getElem?_eq_getElem jy)
        rw [List.getElem?_toArray] at f1 f2
        rw [f1] at g1
        rw [f2] at g3
        cases g1
        cases g3
        exact ⟨_, _, u, v, List.getElem?_eq_getElem jx, List.getElem?_eq_getElem jy, g2, g4, f3⟩
      obtain ⟨os, ol, hos⟩ := list_choose (P := fun (j : Nat) (t : Addr) (o : HO) => ∃ x y u v, xs[j]? = some x ∧ ys[j]? = some y ∧ RelV x u ∧ RelV y v ∧ hF.get? t = some { cls := .type "tuple", data := .seq #[u, v] } ∧ o = frT { cls := .type "tuple", data := .seq ([u, v] : List Value).toArray } [x, y]) as fun j t hj => by
        obtain ⟨x, y, u, v, f1, f2, f3, f4, f5⟩ := pick j t hj
        exact ⟨_, x, y, u, v, f1, f2, f3, f4, f5, rfl⟩
      have mapz : (as.zip os).map (·.1) = as := by
        rw [List.map_fst_zip]
        exact Nat.le_of_eq ol.symm
      have nda : as.Nodup := List.Pairwise.imp (fun {a b} (h : a < b) => Nat.ne_of_lt h) hG.rise
      have nd : (((h'.objs.size, HO.lst (as.map V.ref)) :: as.zip os).map (·.1)).Nodup := by
        rw [List.map_cons, mapz]
        exact List.nodup_cons.mpr ⟨fun z => Nat.lt_irrefl _ (hG.above _ z), nda⟩
      have memz : ∀ p ∈ as.zip os, p.1 ∈ as := fun p hp => by
        have := List.mem_map_of_mem (f := fun q : Addr × HO => q.1) hp
        rwa [mapz] at this
      have I2 : Inv X pins σ (puts H1 ((h'.objs.size, HO.lst (as.map V.ref)) :: as.zip os)) { s1 with heap := hF, toks := tk } := by
        refine inv_puts I1 hkF (fun p hp => ?_) nd fun p hp => ?_
        · rcases List.mem_cons.mp hp with e | hp
          · subst e
            exact new _ (Nat.le_refl _)
          · exact new _ (Nat.le_of_lt (hG.above _ (memz p hp)))
        · rcases List.mem_cons.mp hp with e | hp
          · subst e
            refine ⟨by rw [List.length_map]; omega, acc.toList, c, by rw [hacc]; exact refs_vals as, ?_⟩
            rw [Array.toArray_toList]
            exact hS
          · obtain ⟨j, hj⟩ := List.mem_iff_getElem?.mp hp
            rw [List.getElem?_zip_eq_some] at hj
            obtain ⟨o, go, x, y, u, v, f1, f2, f3, f4, f5, f6⟩ := hos j p.1 hj.1
            have e : p.2 = o := Option.some.inj (hj.2.symm.trans go)
            rw [e, f6]
            exact ok_frT (by show 2 ≤ sizeLine; decide) (.cons f3 (.cons f4 .nil)) f5
      refine ⟨.ref h'.objs.size, _, I2, rfl, q _ _ as (fun b u e => ?_) (new _ (Nat.le_refl _)).2 (fun t ht => (new _ (Nat.le_of_lt (hG.above _ ht))).2) (puts_at nd _ List.mem_cons_self) (by omega) fun j t hj => ?_⟩
      · rw [puts_off fun z => ?_]
        · exact e
        · rw [List.map_cons, mapz] at z
          have : H1 b = none := by
            rcases List.mem_cons.mp z with z | z
            · subst z; exact (new _ (Nat.le_refl _)).2
            · exact (new _ (Nat.le_of_lt (hG.above _ z))).2
          rw [this] at e
          cases e
      · obtain ⟨o, go, x, y, u, v, f1, f2, f3, f4, f5, f6⟩ := hos j t hj
        refine ⟨x, y, f1, f2, { cls := .type "tuple", data := .seq ([u, v] : List Value).toArray }, ?_, ⟨_, rfl⟩⟩
        rw [← f6]
        exact puts_at nd (t, o) (List.mem_cons_of_mem _ (List.mem_iff_getElem?.mpr ⟨j, by rw [List.getElem?_zip_eq_some]; exact ⟨hj, go⟩⟩))
theorem k_listZip (K : PySem.W.Frag) (h : X.K = K) (hc : X.calm = true) (hg : Gl X "list") (hm : X.mg "list" = none) (hg2 : Gl X "zip") (hm2 : X.mg "zip" = none) (ha : PA X [e, e2] ta)
    (hs : starEach [.Call (.Name "zip" p2) [e, e2] [] pos2] X.env = (false, eval (.Call (.Name "zip" p2) [e, e2] [] pos2) X.env) :: starEach [] X.env := by rfl)
    (hs2 : starEach [e, e2] X.env = (false, eval e X.env) :: starEach [e2] X.env := by rfl) (hpl2 : (backTo pos2 (starEach [e2] X.env)).any (·.1) = false := by rfl) :
    PE X (.Call (.Name "list" p) [.Call (.Name "zip" p2) [e, e2] [] pos2] [] pos) (tListZip K ta) := h ▸ pe_listZip hc hg hm hg2 hm2 ha hs hs2 hpl2
end
section
variable {K : PySem.W.Frag} {Γ : List Ds} {ta tb : TE} {xs ys : List PyData}
/-- all that is new is seen -/
theorem Ext.seen {G H H' : Hp} (s : Same G H) (s' : Same H H') : Ext G H (fun q => if H q = none then H' q else G q) H' := by
  refine ⟨fun a u e => ?_, s', fun a u e => ?_, fun q q1 q2 => ?_⟩
  · show (if H a = none then H' a else G a) = some u
    rw [if_neg (by rw [s _ _ e]; simp)]
    exact e
  · have e : (if H a = none then H' a else G a) = some u := e
    split at e
    · exact e
    · exact s' _ _ (s _ _ e)
  · show (if H q = none then H' q else G q) = none
    rw [if_neg q1]
    exact q2
theorem ev_listZip (h : Ev K ta Γ (.dat (.list xs))) (h' : Ev K tb Γ (.dat (.list ys))) (hz : xs.length ≤ 100000) : Ev K (tListZip K (tCons ta (tCons tb tNil))) Γ (.dat (.list (zipD xs ys))) := fun G0 H0 G H σ E Q q =>
  h G0 H0 G H σ E _ fun u G1 H1 e1 hu => h' G0 H0 G1 H1 σ (E.up e1) _ fun v G2 H2 e2 hv => by
    have hu := Dr.up hu e2.g
    cases hu with
    | lst ha hs =>
      cases hv with
      | lst hb ht =>
        rename_i a us b vs
        have l1 := hs.len
        have l2 := ht.len
        refine ⟨a, b, us, vs, rfl, SqL.of (e2.i _ _ ha), SqL.of (e2.i _ _ hb), Nat.le_trans (show _ ≤ 100000 by omega) (by decide), fun H' p ts sH np nt hp hl hts => ?_⟩
        have e3 := Ext.seen e2.i sH
        refine q _ _ _ ((e1.trans e2).trans e3) (.lst (show (if H2 p = none then H' p else G2 p) = _ by rw [if_pos np]; exact hp) ?_)
        have key : ∀ (ts : List Addr) (us vs : List V) (xs ys : List PyData), DrAll G2 us xs → DrAll G2 vs ys → ts.length = min us.length vs.length → (∀ (j : Nat) (t : Addr), ts[j]? = some t → ∃ x y, us[j]? = some x ∧ vs[j]? = some y ∧ Tp H' t [x, y] ∧ H2 t = none) → DrAll (fun q => if H2 q = none then H' q else G2 q) (ts.map V.ref) (zipD xs ys) := by
          intro ts
          induction ts with
          | nil =>
            intro us vs xs ys d1 d2 hl _
            cases d1 with
            | nil => cases xs <;> exact .nil
            | cons a1 a2 =>
              cases d2 with
              | nil => exact .nil
              | cons b1 b2 => simp at hl
          | cons t ts ih =>
            intro us vs xs ys d1 d2 hl hts
            cases d1 with
            | nil => simp at hl
            | cons a1 a2 =>
              cases d2 with
              | nil => simp at hl
              | cons b1 b2 =>
                obtain ⟨x, y, f1, f2, ⟨o, f3, f4⟩, f5⟩ := hts 0 t rfl
                cases f1
                cases f2
                refine .cons (.tup ⟨o, show (if H2 t = none then H' t else G2 t) = _ by rw [if_pos f5]; exact f3, f4⟩ (.cons (a1.up e3.g) (.cons (b1.up e3.g) .nil))) (ih _ _ _ _ a2 b2 (by simp at hl; omega) fun j t' hj => ?_)
                exact hts (j + 1) t' hj
        refine key ts us vs xs ys hs ht hl fun j t hj => ?_
        obtain ⟨x, y, f1, f2, f3⟩ := hts j t hj
        exact ⟨x, y, f1, f2, f3, nt t (List.mem_of_getElem? hj)⟩
end
end Fw
/-! ### max(.., default=..) of whole numbers -/
namespace Fw
open PySem PySem.Spec L2
def rMaxDef (K : PySem.W.Frag) : List V → List V → Hp → VK → Prop := fun vs zs H Q => ∃ (a : Addr) (ns : List Int) (z : Int), vs = [V.ref a] ∧ zs = [V.int z] ∧ SqL K H a (ns.map V.int) ∧ (∀ y ∈ ns, z ≤ y) ∧ Q (.int (ns.foldr max z)) H
theorem foldl_max (z : Int) : ∀ (ns : List Int) (y : Int), z ≤ y → ns.foldl max y = max y (ns.foldr max z)
  | [], y, h => by show y = max y z; omega
  | a :: r, y, h => by
    show r.foldl max (max y a) = max y (max a (r.foldr max z))
    rw [foldl_max z r (max y a) (by omega)]
    omega
theorem reads_ints {h : Heap} : ∀ {us : List Value} {ns : List Int}, Vals (ns.map V.int) us → ∃ as, ReadsAll h us (ns.map .int) as
  | _, [], r => by cases r; exact ⟨[], .nil⟩
  | _, n :: ns, r => by
    cases r with
    | cons h1 h2 =>
      obtain ⟨t, rfl⟩ := (show ∃ t, _ = Value.int n t from h1)
      obtain ⟨as, q⟩ := reads_ints h2
      exact ⟨_, .cons (.int n t) q⟩
theorem depth_ints : ∀ ns : List Int, PyData.depthAll (ns.map .int) = 0
  | [] => by simp [PyData.depthAll]
  | n :: ns => by rw [List.map_cons, PyData.depthAll, depth_ints ns]; simp [PyData.depth]
theorem cr_maxDef {X : Cx} (hc : X.calm = true) (hu : X.A.units + 1 < cLine) : CallRK X (.builtin "max") [Str.ofString "default"] (rMaxDef X.K) := by
  intro pins s σ H vs zs us ws Q I r rz h
  obtain ⟨a, ns, z, rfl, rfl, hs, hz, q⟩ := h
  obtain rfl := Vals.ref1 r
  obtain ⟨w1, rfl, e1⟩ := vals1 rz
  obtain ⟨t1, rfl⟩ := (show ∃ t, w1 = Value.int z t from e1)
  obtain ⟨its, rv, hl, _⟩ := I.list hs
  obtain ⟨as, hr⟩ := reads_ints (h := s.heap) rv
  refine PySem.W.max_list_default (vs := its.toArray) (xs := ns.map .int) (as := as) (I.ok.hd hc) hl.isList hr ⟨fun x hx y hy => ?_, fun x hx => ?_⟩ (by rw [depth_ints]; exact hu) (fun h0 h' tk k => ?_) fun y ys i v h' tk bs hxs hv hrd k => ?_
  · obtain ⟨i, _, rfl⟩ := List.mem_map.mp hx
    obtain ⟨j, _, rfl⟩ := List.mem_map.mp hy
    simp [PySem.W.alike]
  · obtain ⟨i, _, rfl⟩ := List.mem_map.mp hx
    simp
  · have e : ns = [] := List.map_eq_nil_iff.mp h0
    subst e
    exact ⟨.int z, H, I.kept k, ⟨_, rfl⟩, q⟩
  · cases ns with
    | nil => simp at hxs
    | cons n ns =>
      rw [List.map_cons] at hxs
      cases hxs
      rw [PySem.W.maxD_ints] at hrd
      have e2 : ns.foldl max n = (n :: ns).foldr max z := foldl_max z ns n (hz n List.mem_cons_self)
      rw [e2] at hrd
      cases hrd
      exact ⟨.int _, H, I.kept k, ⟨_, rfl⟩, q⟩
section
variable {K : PySem.W.Frag} {Γ : List Ds} {te tz : TE}
theorem ev_maxDef {ns : List Int} {z : Int} (h : EvS K te Γ (ns.map .int)) (hz : Ev K tz Γ (.dat (.int z))) (hb : ∀ y ∈ ns, z ≤ y) : Ev K (tCKw (rMaxDef K) (tCons te tNil) (tCons tz tNil)) Γ (.dat (.int (ns.foldr max z))) := fun G0 H0 G H σ E Q q =>
  h G0 H0 G H σ E _ fun a vs G1 H1 e1 hp hs => hz G0 H0 G1 H1 σ (E.up e1) _ fun v G2 H2 e2 hv => by
    cases hv
    exact ⟨a, ns, z, rfl, rfl, by rw [← hs.ints]; exact SqL.of (e2.h _ _ hp), hb, q _ G2 H2 (e1.trans e2) (.int _)⟩
end
end Fw
namespace Wk
open PySem PySem.Spec L2 Fw
/-! ### houses -/
def rawH (ns : List Int) : List (Str × Int) := if cell ns 1 % 3 = 0 then ((nmS ns).zip (lvS ns)).filter fun p => decide (p.2 > 0) else (nmS ns).zip (lvS ns)
def houseS (ns : List Int) : List (Str × Int) := upP (rawH ns)
theorem zip_enc : ∀ (a : List Str) (b : List Int), zipD (a.map .str) (b.map .int) = (a.zip b).map encP
  | [], _ => by cases ‹List Int› <;> rfl
  | x :: a, [] => rfl
  | x :: a, y :: b => by
    show PyData.tuple [.str x, .int y] :: zipD (a.map .str) (b.map .int) = _
    rw [zip_enc a b]
    rfl
theorem zip_keys (ns : List Int) : ((nmS ns).zip (lvS ns)).map (·.1) = nmS ns := List.map_fst_zip (by rw [nmS_len]; exact Nat.le_of_eq (plan_ok ns).l4.symm)
theorem rawH_sub (ns : List Int) : ∀ p ∈ rawH ns, p ∈ (nmS ns).zip (lvS ns) := fun p hp => by
  unfold rawH at hp
  split at hp
  · exact (List.mem_filter.mp hp).1
  · exact hp
theorem rawH_nodup (ns : List Int) : ((rawH ns).map (·.1)).Nodup := by
  have h : (((nmS ns).zip (lvS ns)).map (·.1)).Nodup := by rw [zip_keys]; exact nmS_nodup ns
  unfold rawH
  split
  · exact List.Pairwise.sublist (List.filter_sublist.map _) h
  · exact h
theorem rawH_len (ns : List Int) : (rawH ns).length ≤ 4 := by
  have h : ((nmS ns).zip (lvS ns)).length ≤ 4 := by rw [List.length_zip, nmS_len]; exact Nat.min_le_left _ _
  unfold rawH
  split
  · exact Nat.le_trans (List.length_filter_le _ _) h
  · exact h
structure HouseOk (nm : List Str) (h : List (Str × Int)) : Prop where
  ri : Rising h
  nm : ∀ p ∈ h, p.1 ∈ nm
  lo : ∀ p ∈ h, 0 ≤ p.2 ∧ p.2 ≤ 2
theorem up_house {nm : List Str} {h : List (Str × Int)} (nd : (h.map (·.1)).Nodup) (hn : ∀ p ∈ h, p.1 ∈ nm ∧ 0 ≤ p.2 ∧ p.2 ≤ 2) : HouseOk nm (upP h) :=
  ⟨upP_rising nd, fun p hp => (hn p ((upP_perm h).mem_iff.mp hp)).1, fun p hp => (hn p ((upP_perm h).mem_iff.mp hp)).2⟩
theorem house_ok (ns : List Int) : HouseOk (nmS ns) (houseS ns) := up_house (rawH_nodup ns) fun p hp => by
  have h := rawH_sub ns p hp
  have h1 := List.of_mem_zip (a := p.1) (b := p.2) h
  exact ⟨h1.1, (plan_ok ns).lo _ h1.2⟩
theorem house_look {nm : List Str} {h : List (Str × Int)} (o : HouseOk nm h) (x : Str) : 0 ≤ look h x ∧ look h x ≤ 2 := by
  unfold look
  cases c : look? h x with
  | none => exact ⟨Int.le_refl _, by show (0 : Int) ≤ 2; decide⟩
  | some v => exact o.lo _ (look?_mem c)
def PrHouse : List Ds → PyData → Prop := fun xs d => ∃ ns : List Int, xs = [.scr ns] ∧ ns.length ≤ 63 ∧ d = encS (houseS ns)
/-- the second house of some laws -/
def rawO (ns : List Int) (c : Int) : List (Str × Int) := (List.range 3).map fun (k : Nat) => (nameAt (nmS ns) ((k : Int) + 1), mix (c + 7 * ((k : Int) + 1)) 9803 3)
def otherS (ns : List Int) (c : Int) : List (Str × Int) := upP (rawO ns c)
theorem nameAt_nmS {ns : List Int} {k : Nat} (h : k < 4) : nameAt (nmS ns) (k : Int) = nameS (cell ns 0) k := by
  unfold nameAt nmS namesS
  rw [Int.toNat_natCast, List.getD_eq_getElem?_getD, List.getElem?_map, List.getElem?_range h]
  rfl
theorem rawO_nodup (ns : List Int) (c : Int) : ((rawO ns c).map (·.1)).Nodup := by
  unfold rawO
  rw [List.map_map]
  refine List.pairwise_map.mpr (List.Pairwise.imp_of_mem ?_ (List.nodup_range (n := 3)))
  intro a b ha hb hab e
  have ha := List.mem_range.mp ha
  have hb := List.mem_range.mp hb
  have e : nameAt (nmS ns) ((a : Int) + 1) = nameAt (nmS ns) ((b : Int) + 1) := e
  have e1 := nameAt_nmS (ns := ns) (k := a + 1) (by omega)
  have e2 := nameAt_nmS (ns := ns) (k := b + 1) (by omega)
  have c1 : ((a + 1 : Nat) : Int) = (a : Int) + 1 := by omega
  have c2 : ((b + 1 : Nat) : Int) = (b : Int) + 1 := by omega
  rw [c1] at e1
  rw [c2] at e2
  rw [e1, e2] at e
  have := nameS_inj (by omega) (by omega) e
  omega
theorem other_ok (ns : List Int) (c : Int) : HouseOk (nmS ns) (otherS ns c) := up_house (rawO_nodup ns c) fun p hp => by
  obtain ⟨k, hk, rfl⟩ := List.mem_map.mp hp
  have hk := List.mem_range.mp hk
  refine ⟨nameAt_mem (by omega) (by rw [nmS_len]; omega), mix_lo _ (by omega), ?_⟩
  have := mix_hi (c + 7 * ((k : Int) + 1)) (p := 9803) (m := 3) (by omega)
  show mix (c + 7 * ((k : Int) + 1)) 9803 3 ≤ 2
  omega
/-! ### how wide blocks are -/
mutual
def WD (n : Nat) : Dd → Prop
  | .put _ _ => True
  | .shw _ _ => True
  | .ite _ a b => (a.length ≤ n ∧ WL n a) ∧ (b.length ≤ n ∧ WL n b)
  | .whl _ a => a.length ≤ n ∧ WL n a
def WL (n : Nat) : List Dd → Prop
  | [] => True
  | d :: r => WD n d ∧ WL n r
end
theorem WL_mem {n : Nat} : ∀ {b : List Dd}, WL n b ↔ ∀ d ∈ b, WD n d
  | [] => by simp [WL]
  | d :: r => by
    rw [WL, WL_mem, List.forall_mem_cons]
theorem deed_w {nm : List Str} {lv : List Int} {hon : Bool} : ∀ (n : Nat) (c need : Int), WD 63 (deedS nm lv hon n c need)
  | 0, c, need => by
    rw [deed_last (fun e => absurd e.1 (by decide)) (fun e => absurd e.1 (by decide))]
    unfold lastD
    split <;> simp [WD]
  | n + 1, c, need => by
    have blk : ∀ c' need', WL 63 (blockS nm lv hon n c' need') := fun c' need' => WL_mem.mpr fun d hd => by
      obtain ⟨k, _, rfl⟩ := List.mem_map.mp hd
      exact deed_w n _ _
    have len : ∀ c' need', (blockS nm lv hon n c' need').length ≤ 2 := fun _ _ => blockS_len
    by_cases h2 : mix c 9871 9 < 2
    · rw [deed_ite h2, WD]
      exact ⟨⟨Nat.le_trans (len _ _) (by decide), blk _ _⟩, Nat.le_trans (len _ _) (by decide), blk _ _⟩
    · by_cases h4 : mix c 9871 9 < 4 ∧ (need = 0 ∨ hon = false)
      · rw [deed_whl h2 h4, WD]
        refine ⟨?_, WL_mem.mpr fun d hd => ?_⟩
        · rw [List.length_append, List.length_singleton]
          have := len (c * 3 + 1) need
          omega
        · rcases List.mem_append.mp hd with hd | hd
          · exact WL_mem.mp (blk _ _) d hd
          · rw [List.mem_singleton.mp hd]
            simp [moreD, WD]
      · rw [deed_last (fun e => h2 e.2) (fun e => h4 e.2)]
        unfold lastD
        split <;> simp [WD]
theorem prog_w (ns : List Int) (k : Int) : WL 63 (progS ns k) := WL_mem.mpr fun d hd => by
  obtain ⟨c, _, rfl⟩ := List.mem_map.mp hd
  exact deed_w 2 _ _
theorem prog_len {ns : List Int} {k : Int} (h : ns.length ≤ 63) : (progS ns k).length ≤ 63 := by
  unfold progS
  rw [List.length_map]
  exact cells_len h
/-! ### programs can be compared -/
theorem shd_t {nm : List Str} (hn : ∀ x ∈ nm, PyData.strOk x = true) : ∀ {t : Tm}, t.ok nm → Shd (t.depth + 1) (encT t)
  | .num i, _ => shd_tup fun d hd => by
    simp only [List.mem_cons, List.not_mem_nil, or_false] at hd
    rcases hd with e | e <;> subst e
    · exact shd_str (by decide +kernel)
    · exact shd_int _
  | .nam x, h => shd_tup fun d hd => by
    simp only [List.mem_cons, List.not_mem_nil, or_false] at hd
    rcases hd with e | e <;> subst e
    · exact shd_str (by decide +kernel)
    · exact shd_str (hn x h)
  | .bin o a b, h => shd_tup fun d hd => by
    simp only [List.mem_cons, List.not_mem_nil, or_false] at hd
    rcases hd with e | e | e <;> subst e
    · exact shd_str (by cases o <;> decide +kernel)
    · exact (shd_t hn h.1).le (by show a.depth + 1 ≤ max a.depth b.depth + 1; omega)
    · exact (shd_t hn h.2).le (by show b.depth + 1 ≤ max a.depth b.depth + 1; omega)
mutual
theorem shd_D {nm : List Str} (hn : ∀ x ∈ nm, PyData.strOk x = true) : ∀ (d : Dd), d.ok nm → d.tdep ≤ 2 → Shd (2 * d.depth + 4) (encD d)
  | .put x t, h, ht => by
    simp only [Dd.ok] at h
    simp only [Dd.tdep] at ht
    rw [encD]
    refine (shd_tup (n := 3) fun e he => ?_).le (by omega)
    simp only [List.mem_cons, List.not_mem_nil, or_false] at he
    rcases he with e | e | e <;> subst e
    · exact shd_str (by decide +kernel)
    · exact shd_str (hn x h.1)
    · exact (shd_t hn h.2).le (by omega)
  | .shw l t, h, ht => by
    simp only [Dd.ok] at h
    simp only [Dd.tdep] at ht
    rw [encD]
    refine (shd_tup (n := 3) fun e he => ?_).le (by omega)
    simp only [List.mem_cons, List.not_mem_nil, or_false] at he
    rcases he with e | e | e <;> subst e
    · exact shd_str (by decide +kernel)
    · exact shd_int _
    · exact (shd_t hn h.2).le (by omega)
  | .ite t a b, h, ht => by
    simp only [Dd.ok] at h
    simp only [Dd.tdep] at ht
    rw [encD]
    simp only [Dd.depth]
    refine (shd_tup (n := 2 * max (depthL a) (depthL b) + 5) fun e he => ?_).le (by omega)
    simp only [List.mem_cons, List.not_mem_nil, or_false] at he
    rcases he with e | e | e | e <;> subst e
    · exact shd_str (by decide +kernel)
    · exact (shd_t hn h.1).le (by omega)
    · exact (shd_tup fun e he => shd_L hn a h.2.1 (by omega) e he).le (by omega)
    · exact (shd_tup fun e he => shd_L hn b h.2.2 (by omega) e he).le (by omega)
  | .whl t a, h, ht => by
    simp only [Dd.ok] at h
    simp only [Dd.tdep] at ht
    rw [encD]
    simp only [Dd.depth]
    refine (shd_tup (n := 2 * depthL a + 5) fun e he => ?_).le (by omega)
    simp only [List.mem_cons, List.not_mem_nil, or_false] at he
    rcases he with e | e | e <;> subst e
    · exact shd_str (by decide +kernel)
    · exact (shd_t hn h.1).le (by omega)
    · exact (shd_tup fun e he => shd_L hn a h.2 (by omega) e he).le (by omega)
theorem shd_L {nm : List Str} (hn : ∀ x ∈ nm, PyData.strOk x = true) : ∀ (b : List Dd), okL nm b → tdepL b ≤ 2 → ∀ e ∈ encL b, Shd (2 * depthL b + 4) e
  | [], _, _, e, he => by simp [encL] at he
  | d :: r, h, ht, e, he => by
    simp only [okL] at h
    simp only [tdepL] at ht
    simp only [encL] at he
    simp only [depthL]
    rcases List.mem_cons.mp he with q | q
    · subst q
      exact (shd_D hn d h.1 (by omega)).le (by omega)
    · exact (shd_L hn r h.2 (by omega) e q).le (by omega)
end
theorem shd_B {nm : List Str} (hn : ∀ x ∈ nm, PyData.strOk x = true) {b : List Dd} (h : okL nm b) (ht : tdepL b ≤ 2) (hd : depthL b ≤ 2) : Shd 9 (encB b) := (shd_tup fun e he => shd_L hn b h ht e he).le (by omega)
/-! ### cuts -/
mutual
def cutD (lv : Str → Int) (k : Int) : Dd → List Dd
  | .put x t => if lv x ≤ k then [.put x t] else []
  | .shw l t => if l ≤ k then [.shw l t] else []
  | .ite t a b => if ∀ x ∈ t.names, lv x ≤ k then [.ite t (cutL lv k a) (cutL lv k b)] else []
  | .whl t a => [.whl t (cutL lv k a)]
def cutL (lv : Str → Int) (k : Int) : List Dd → List Dd
  | [] => []
  | d :: r => cutD lv k d ++ cutL lv k r
end
theorem cutL_app {lv : Str → Int} {k : Int} : ∀ {a b : List Dd}, cutL lv k (a ++ b) = cutL lv k a ++ cutL lv k b
  | [], b => by simp [cutL]
  | d :: r, b => by
    show cutL lv k (d :: (r ++ b)) = _
    rw [cutL, cutL, cutL_app, List.append_assoc]
theorem cutD_len {lv : Str → Int} {k : Int} (d : Dd) : (cutD lv k d).length ≤ 1 := by
  cases d <;> simp only [cutD] <;> first | (split <;> simp) | simp
theorem cutL_len {lv : Str → Int} {k : Int} : ∀ b : List Dd, (cutL lv k b).length ≤ b.length
  | [] => by simp [cutL]
  | d :: r => by
    rw [cutL, List.length_append, List.length_cons]
    have := cutD_len (lv := lv) (k := k) d
    have := cutL_len (lv := lv) (k := k) r
    omega
structure CutOk (nm : List Str) (n : Nat) (b : List Dd) : Prop where
  ok : okL nm b
  dp : depthL b ≤ n
  td : tdepL b ≤ 2
  w : WL 63 b
  len : b.length ≤ 200
theorem prog_cut {ns : List Int} {k : Int} (h : ns.length ≤ 63) : CutOk (nmS ns) 2 (progS ns k) := by
  have p := prog_ok ns k h
  exact ⟨p.ok, p.dp, p.td, prog_w ns k, Nat.le_trans (prog_len h) (by decide)⟩
/-- a cut keeps the shape -/
structure Kept (nm : List Str) (a b : List Dd) : Prop where
  ok : okL nm a → okL nm b
  dp : depthL b ≤ depthL a
  td : tdepL b ≤ tdepL a
  w : WL 63 a → WL 63 b
theorem kept_nil {nm : List Str} {d : Dd} : Kept nm [d] [] := ⟨fun _ => by simp [okL], by simp [depthL], by simp [tdepL], fun _ => by simp [WL]⟩
theorem kept_refl {nm : List Str} {b : List Dd} : Kept nm b b := ⟨id, Nat.le_refl _, Nat.le_refl _, id⟩
mutual
theorem cut_keptD {nm : List Str} {lv : Str → Int} {k : Int} : ∀ d : Dd, Kept nm [d] (cutD lv k d)
  | .put x t => by
    rw [cutD]
    split
    · exact kept_refl
    · exact kept_nil
  | .shw l t => by
    rw [cutD]
    split
    · exact kept_refl
    · exact kept_nil
  | .ite t a b => by
    rw [cutD]
    split
    · have ha := cut_keptL (nm := nm) (lv := lv) (k := k) a
      have hb := cut_keptL (nm := nm) (lv := lv) (k := k) b
      refine ⟨fun h => ?_, ?_, ?_, fun h => ?_⟩
      · simp only [okL, Dd.ok, and_true] at h ⊢
        exact ⟨h.1, ha.ok h.2.1, hb.ok h.2.2⟩
      · simp only [depthL, Dd.depth]
        have := ha.dp; have := hb.dp
        omega
      · simp only [tdepL, Dd.tdep]
        have := ha.td; have := hb.td
        omega
      · simp only [WL, WD, and_true] at h ⊢
        exact ⟨⟨Nat.le_trans (cutL_len a) h.1.1, ha.w h.1.2⟩, Nat.le_trans (cutL_len b) h.2.1, hb.w h.2.2⟩
    · exact kept_nil
  | .whl t a => by
    rw [cutD]
    have ha := cut_keptL (nm := nm) (lv := lv) (k := k) a
    refine ⟨fun h => ?_, ?_, ?_, fun h => ?_⟩
    · simp only [okL, Dd.ok, and_true] at h ⊢
      exact ⟨h.1, ha.ok h.2⟩
    · simp only [depthL, Dd.depth]
      have := ha.dp
      omega
    · simp only [tdepL, Dd.tdep]
      have := ha.td
      omega
    · simp only [WL, WD, and_true] at h ⊢
      exact ⟨Nat.le_trans (cutL_len a) h.1, ha.w h.2⟩
theorem cut_keptL {nm : List Str} {lv : Str → Int} {k : Int} : ∀ b : List Dd, Kept nm b (cutL lv k b)
  | [] => by rw [cutL]; exact kept_refl
  | d :: r => by
    rw [cutL]
    have hd := cut_keptD (nm := nm) (lv := lv) (k := k) d
    have hr := cut_keptL (nm := nm) (lv := lv) (k := k) r
    refine ⟨fun h => ?_, ?_, ?_, fun h => ?_⟩
    · simp only [okL] at h
      exact okL_app.mpr ⟨hd.ok (by simp only [okL, and_true]; exact h.1), hr.ok h.2⟩
    · rw [depthL_app]
      have h1 := hd.dp; have h2 := hr.dp
      simp only [depthL] at h1 ⊢
      omega
    · rw [tdepL_app]
      have h1 := hd.td; have h2 := hr.td
      simp only [tdepL] at h1 ⊢
      omega
    · simp only [WL] at h
      refine WL_mem.mpr fun e he => ?_
      rcases List.mem_append.mp he with he | he
      · exact WL_mem.mp (hd.w (by simp only [WL, and_true]; exact h.1)) e he
      · exact WL_mem.mp (hr.w h.2) e he
end
theorem CutOk.cut {nm : List Str} {n : Nat} {b : List Dd} (h : CutOk nm n b) (lv : Str → Int) (k : Int) : CutOk nm n (cutL lv k b) := by
  have q := cut_keptL (nm := nm) (lv := lv) (k := k) b
  exact ⟨q.ok h.ok, Nat.le_trans q.dp h.dp, Nat.le_trans q.td h.td, q.w h.w, Nat.le_trans (cutL_len b) h.len⟩
mutual
theorem cut_twiceD {lv : Str → Int} {k : Int} : ∀ d : Dd, cutL lv k (cutD lv k d) = cutD lv k d
  | .put x t => by
    rw [cutD]
    split
    · rename_i h
      rw [cutL, cutD, if_pos h, cutL, List.append_nil]
    · rw [cutL]
  | .shw l t => by
    rw [cutD]
    split
    · rename_i h
      rw [cutL, cutD, if_pos h, cutL, List.append_nil]
    · rw [cutL]
  | .ite t a b => by
    rw [cutD]
    split
    · rename_i h
      rw [cutL, cutD, if_pos h, cutL, List.append_nil, cut_twice a, cut_twice b]
    · rw [cutL]
  | .whl t a => by
    rw [cutD, cutL, cutD, cutL, List.append_nil, cut_twice a]
theorem cut_twice {lv : Str → Int} {k : Int} : ∀ b : List Dd, cutL lv k (cutL lv k b) = cutL lv k b
  | [] => by rw [cutL, cutL]
  | d :: r => by rw [cutL, cutL_app, cut_twiceD d, cut_twice r]
end
mutual
theorem cut_allD {nm : List Str} {lv : Str → Int} (hl : ∀ x, lv x ≤ 2) : ∀ d : Dd, d.ok nm → cutD lv 2 d = [d]
  | .put x t, _ => by rw [cutD, if_pos (hl x)]
  | .shw l t, h => by
    simp only [Dd.ok] at h
    rw [cutD, if_pos h.1.2]
  | .ite t a b, h => by
    simp only [Dd.ok] at h
    rw [cutD, if_pos (fun x _ => hl x), cut_all hl a h.2.1, cut_all hl b h.2.2]
  | .whl t a, h => by
    simp only [Dd.ok] at h
    rw [cutD, cut_all hl a h.2]
theorem cut_all {nm : List Str} {lv : Str → Int} (hl : ∀ x, lv x ≤ 2) : ∀ b : List Dd, okL nm b → cutL lv 2 b = b
  | [], _ => by rw [cutL]
  | d :: r, h => by
    simp only [okL] at h
    rw [cutL, cut_allD hl d h.1, cut_all hl r h.2]
    rfl
end
def PrAbove : List Ds → PyData → Prop := fun xs d => ∃ (x : Str) (h : List (Str × Int)) (k : Int), xs = [.dat (.str x), .dic (bk h), .dat (.int k)] ∧ d = .bool (decide (look h x > k))
def PrCutB (n : Nat) : List Ds → PyData → Prop := fun xs d => ∃ (nm : List Str) (b : List Dd) (h : List (Str × Int)) (k : Int), xs = [.dat (encB b), .dic (bk h), .dat (.int k)] ∧ CutOk nm 2 b ∧ depthL b < n ∧ (∀ x, 0 ≤ look h x) ∧ 0 ≤ k ∧ d = encB (cutL (look h) k b)
def PrCut : List Ds → PyData → Prop := fun xs d => ∃ (nm : List Str) (b : List Dd) (h : List (Str × Int)) (k : Int), xs = [.dat (encB b), .dat (encS h), .dat (.int k)] ∧ CutOk nm 2 b ∧ HouseOk nm h ∧ 0 ≤ k ∧ d = encB (cutL (look h) k b)
def PrHeight : List Ds → PyData → Prop := fun xs d => ∃ (t : Tm) (h : List (Str × Int)), xs = [.dat (encT t), .dic (bk h)] ∧ t.depth ≤ 2 ∧ (∀ x, 0 ≤ look h x) ∧ d = .int ((t.names.map (look h)).foldr max 0)
theorem height_le {lv : Str → Int} {k : Int} (h0 : 0 ≤ k) : ∀ xs : List Str, (xs.map lv).foldr max 0 ≤ k ↔ ∀ x ∈ xs, lv x ≤ k
  | [] => by simp [h0]
  | x :: xs => by
    show max (lv x) ((xs.map lv).foldr max 0) ≤ k ↔ _
    rw [List.forall_mem_cons, ← height_le h0 xs]
    omega
end Wk
/-! ### set(xs), xs a list: by what each add keeps -/
namespace Ft
open PySem PySem.Spec PyProof.Rows L2
abbrev fresh0 (w : World) : Obj := { cls := .type "set", dict := none, data := .set #[] 0 (.fresh 0 0 (!w.params.followText "set-order")) }
section
variable {P : Program} {w : World} {A : Around} {s : Shared}
/-- the adds of a set's making: J i, what the heap holds behind i of them -/
structure Adds (P : Program) (w : World) (A : Around) (S : Addr) (wr : List Addr) (J : Nat → Heap → Prop) (at' : Nat → Value → Prop) : Prop where
  up : ∀ i (h h' : Heap), J i h → (∀ b o, b ∉ wr → h.get? b = some o → h'.get? b = some o) → J i h'
  add : ∀ i v (s : Shared) (Q : Bool → Shared → Prop) (E : Value → Shared → Prop), at' i v → J i s.heap → (∀ h' tk b, s.toks ≤ tk → Heap.SameBut S s.heap h' → J (i + 1) h' → Q b { s with heap := h', toks := tk }) → wpAny (model P w) A (setAdd S v) Q E s
theorem adds_loop {I : Addr} {fp wr : List Addr} {G : Array GenState → Array GenState → Prop} {n : Nat} {Pv : Nat → Value → Prop} {St : Nat → Shared → Prop} {R : Result → Shared → Prop} {S : Addr} {J : Nat → Heap → Prop}
    (W : WalksS P w A.in1 I fp wr G n Pv St) (hSf : S ∉ fp) (T : Adds P w A.in1 S wr J Pv) :
    ∀ (k i : Nat) (s : Shared), n - i = k → i ≤ n → St i s → J i s.heap → (∀ s', Moved (S :: wr) G s s' → J n s'.heap → R (.ok (.ret .none)) s') →
      codeAny (model P w) A (.builtin "set.update.loop" ⟨[.ref S, .ref I], []⟩) R s := by
  have hSw : S ∉ wr := fun h => hSf (W.sub _ h)
  have hsub : ∀ b ∈ wr, b ∈ S :: wr := fun b hb => List.mem_cons_of_mem _ hb
  intro k
  induction k with
  | zero =>
    intro i s hk' hi hst hS hR
    obtain rfl : i = n := by omega
    refine codeAny_builtin F.entry_set_update_loop ?_
    rw [Around.under_plainId F.plain_set_update_loop _]
    show wpAny _ A.in1 (pyNext (.ref I) >>= _) _ _ s
    refine wpAny_bind (W.done s _ _ hst fun s' hm => ?_)
    show wpAny _ A.in1 (ret Value.none) _ _ s'
    exact wpAny_pure (hR s' (hm.mono hsub) (T.up _ _ _ hS fun b o hb e => hm.heap b o hb e))
  | succ k ih =>
    intro i s hk' hi hst hS hR
    have hlt : i < n := by omega
    refine codeAny_builtin F.entry_set_update_loop ?_
    rw [Around.under_plainId F.plain_set_update_loop _]
    show wpAny _ A.in1 (pyNext (.ref I) >>= _) _ _ s
    refine wpAny_bind (W.item i s _ _ hlt hst fun v s' hP hst' hm => ?_)
    show wpAny _ A.in1 (holding [v] (setAdd S v) >>= _) _ _ s'
    refine wpAny_bind (wpAny_holding (T.add i v s' _ _ hP (T.up _ _ _ hS fun b o hb e => hm.heap b o hb e) fun h' tk b ht hsb hS2 => ?_))
    refine wpAny_pure ⟨plainId_quiet F.plain_set_update_loop _, ih (i + 1) _ (by omega) hlt (W.frame _ s' _ _ hst' ht fun b hb o e => ?_) hS2 fun s'' hm'' hS'' => ?_⟩
    · rw [hsb.2 b (fun h : b = S => hSf (by rw [← h]; exact hb))]; exact e
    · refine hR s'' (Moved.trans W.gtrans ((hm.mono hsub).then_heap ht fun b o hb e => ?_) hm'') hS''
      rw [hsb.2 b (fun h : b = S => hb (by rw [h]; exact List.mem_cons_self))]; exact e
set_option maxHeartbeats 8000000 in
theorem set_of {l : Addr} {items : Array Value} {Q : Value → Shared → Prop} {E : Value → Shared → Prop} {J : Nat → Heap → Prop} (hh : A.handled = none) (hl : s.heap.IsList l items)
    (T : ∀ A' : Around, A'.units ≤ A.units + 8 → Adds P w A' s.heap.objs.size [s.heap.objs.size + 1] J fun i v => items[i]? = some v)
    (j0 : ∀ h : Heap, h.get? s.heap.objs.size = some (fresh0 w) → (∀ b o, s.heap.get? b = some o → h.get? b = some o) → J 0 h)
    (h : ∀ (h' : Heap) (tk : Nat), J items.size h' → (∀ b o, b < s.heap.objs.size → s.heap.get? b = some o → h'.get? b = some o) → Q (.ref s.heap.objs.size) { s with heap := h', toks := tk }) :
    wpAny (model P w) A (call (.type "set") [.ref l]) Q E s := by
  obtain ⟨c, tl, hmro⟩ := F.called_set.mro
  have hmade := F.called_set.made
  have hsub := F.called_set.sub
  refine wpAny_call (codeAny_of_tree ?_)
  show wpAny _ _ (callAny (.type "set") _) _ _ _
  refine wpAny_pure ⟨Code.quiet_builtin _ (by decide +kernel), codeAny_builtin F.entry_type_call ?_⟩
  rw [Around.under_plain (weight_type_call_type "set" [.ref l] []) rfl]
  have h1 := F.called_set.notType
  have h2 := F.called_set.canCreate
  have hct := F.typeCall_set_1 (.ref l)
  repeat (any_goals (first | assumption | wp_step))

  refine codeAny_mono (code_set_led1 (.ref l) (E := E) (Q₁ := fun obj s₁ => obj = .ref s.heap.objs.size ∧ s₁ = { s with heap := s.heap.push (fresh0 w) }) ⟨rfl, rfl⟩) fun r s₁ hr => ?_
  cases r with
  | error e => exact hr
  | ok fl =>
    cases fl with
    | ret obj =>
      obtain ⟨rfl, rfl⟩ := hr
      have hS : (s.heap.push (fresh0 w)).get? s.heap.objs.size = some (fresh0 w) := Heap.get?_push_size _ rfl
      have hT : Shared.TypeIs { s with heap := s.heap.push (fresh0 w) } (.ref s.heap.objs.size) "set" := ⟨_, hS, rfl⟩
      have hli := F.called_set.init.lookup
      have hbi := F.called_set.init.bind (.ref s.heap.objs.size)
      repeat (any_goals (first | assumption | wp_step))

      refine codeAny_mono (codeAny_call_builtin (R := wants (fun r s₂ => r = .none ∧ ∃ h' tk, s₂ = { s with heap := h', toks := tk } ∧ J items.size h' ∧ (∀ b o, b < s.heap.objs.size → s.heap.get? b = some o → h'.get? b = some o)) E)
        F.called_set.init.plain F.entry_set_init (check_set_init_1 hT ?_)) fun r₂ s₂ hr₂ => ?_
      · obtain ⟨ol, hol, hcl, nl, hdl⟩ := hl
        obtain ⟨ocls, odict, odata, oslots⟩ := ol
        simp only at hcl hdl
        subst hcl; subst hdl
        have hol' : (s.heap.push (fresh0 w)).get? l = some { cls := .type "list", dict := odict, data := .seq items nl, slots := oslots } := Heap.get?_push_of_some _ hol
        have hsls := F.sub_list_set
        have hslf := F.sub_list_frozenset
        have hne : (Value.type "list" == Value.type "dict") = false := by decide
        have hl1 : (s.heap.push (fresh0 w)).IsList l items := ⟨_, hol', rfl, nl, rfl⟩
        unfold Builtin.«set.__init__» noKeywords Builtin.Frozenset.updateFrom
        generalize hPI : pyIter = PI
        wp_walk
        subst hPI

        refine wpAny_pyIter_list hl1 ?_
        refine wpAny_bind (wpAny_runValue ?_)
        have hlS : l < s.heap.objs.size := Heap.lt_size hol
        have hh3 : A.in1.in1.in1.handled = none := by simp [hh]
        have hz : (s.heap.push (fresh0 w)).objs.size = s.heap.objs.size + 1 := Heap.size_push ..
        have hneI : l ≠ (s.heap.push (fresh0 w)).objs.size := by
          rw [hz]; exact Nat.ne_of_lt (Nat.lt_succ_of_lt hlS)
        have hSf : s.heap.objs.size ∉ [(s.heap.push (fresh0 w)).objs.size, l] := by
          rw [hz]; simp only [List.mem_cons, List.mem_singleton, List.not_mem_nil, or_false, not_or]
          exact ⟨Nat.ne_of_lt (Nat.lt_succ_self _), Nat.ne_of_gt hlS⟩
        refine adds_loop (J := J) ((Walks.list hh3 _ l hneI items).toS)
          hSf (by rw [hz]; exact T _ (by show _ ≤ _; simp [Around.in1])) (items.size - 0) 0 _ (by omega) (Nat.zero_le _)
          ⟨⟨_, Heap.get?_push_size _ rfl, rfl, rfl⟩, (hl1.push _)⟩ (j0 _ (Heap.get?_push_of_some _ hS) fun b o e => Heap.get?_push_of_some _ (Heap.get?_push_of_some _ e)) ?hR
        case hR =>
          intro s' hm hS'
          obtain ⟨h', g2, d', tk', os'⟩ := s'
          have eg : g2 = s.gens := hm.gens
          have ed : d' = s.drawn := hm.drawn
          have eo : os' = s.os := hm.os
          subst eg; subst ed; subst eo
          show wpAny _ _ _ _ _ _
          refine wpAny_pure ?_
          show wpAny _ _ (ret Value.none) _ _ _
          refine wpAny_pure ⟨rfl, h', tk', rfl, hS', fun b o hb e => ?_⟩
          have hb1 : b ≠ s.heap.objs.size := Nat.ne_of_lt hb
          have hb2 : b ≠ (s.heap.push (fresh0 w)).objs.size := by
            rw [hz]; exact Nat.ne_of_lt (Nat.lt_succ_of_lt hb)
          exact hm.heap b o (by simp only [List.mem_cons, List.mem_singleton, List.not_mem_nil, or_false, not_or]; exact ⟨hb1, hb2⟩) (Heap.get?_push_of_some _ (Heap.get?_push_of_some _ e))
      · cases r₂ with
        | error e => exact hr₂
        | ok fl₂ =>
          cases fl₂ with
          | ret r =>
            obtain ⟨rfl, h', tk, rfl, hS', hk'⟩ := hr₂
            repeat (any_goals (first | assumption | wp_step))
            exact h _ _ hS' hk'
          | _ => exact hr₂.elim
    | _ => exact hr.elim
end
end Ft
/-! ### sets of texts -/
namespace Ft
open PySem PySem.Spec PyProof.Rows L2
open PySem.Froz (sObj TxOk addTx tailTx SD)
open PySem.W (EachIs)
/-- without doubles -/
def ddp {α : Type} [DecidableEq α] : List α → List α
  | [] => []
  | x :: r => if x ∈ r then ddp r else x :: ddp r
theorem mem_ddp {α : Type} [DecidableEq α] {x : α} : ∀ {xs : List α}, x ∈ ddp xs ↔ x ∈ xs
  | [] => Iff.rfl
  | y :: r => by
    unfold ddp
    split
    · rename_i h
      rw [mem_ddp, List.mem_cons]
      exact ⟨.inr, fun q => q.elim (fun e => e ▸ h) id⟩
    · rw [List.mem_cons, List.mem_cons, mem_ddp]
theorem ddp_nodup {α : Type} [DecidableEq α] : ∀ (xs : List α), (ddp xs).Nodup
  | [] => List.nodup_nil
  | y :: r => by
    unfold ddp
    split
    · exact ddp_nodup r
    · rename_i h
      exact List.nodup_cons.mpr ⟨fun q => h (mem_ddp.mp q), ddp_nodup r⟩
theorem nodup_len {α : Type} [DecidableEq α] : ∀ {l m : List α}, l.Nodup → (∀ x ∈ l, x ∈ m) → l.length ≤ m.length
  | [], m, _, _ => Nat.zero_le _
  | x :: l, m, h, s => by
    have h := List.nodup_cons.mp h
    have hx := s x List.mem_cons_self
    have := nodup_len (l := l) (m := m.erase x) h.2 fun y hy => (List.mem_erase_of_ne (fun e : y = x => h.1 (e ▸ hy))).mpr (s y (List.mem_cons_of_mem _ hy))
    rw [List.length_erase_of_mem hx] at this
    have hp := List.length_pos_of_mem hx
    rw [List.length_cons]
    omega
theorem nodup_perm {α : Type} [DecidableEq α] : ∀ {l m : List α}, l.Nodup → (∀ x ∈ l, x ∈ m) → m.length = l.length → l.Perm m
  | [], m, _, _, e => by rw [List.eq_nil_of_length_eq_zero e]
  | x :: l, m, h, s, e => by
    have h := List.nodup_cons.mp h
    have hx := s x List.mem_cons_self
    have q := nodup_perm (l := l) (m := m.erase x) h.2 (fun y hy => (List.mem_erase_of_ne (fun e : y = x => h.1 (e ▸ hy))).mpr (s y (List.mem_cons_of_mem _ hy))) (by rw [List.length_erase_of_mem hx, e]; rfl)
    exact (q.cons x).trans (List.perm_cons_erase hx).symm
section
variable {P : Program} {w : World} {A : Around} {E : Value → Shared → Prop} {s : Shared}
theorem tail_tab {ep : Nat} {es : Array (Int × Value)} {t : SetTable} {b : Bool} (r : Ris t.place.toList) : Ris (tailTx ep es t b).2.2.place.toList ∧ (tailTx ep es t b).2.2.led = t.led := by
  unfold tailTx
  split
  · exact ⟨relayAll_ris _ _ _, relayAll_led _ _ _⟩
  · exact ⟨r, rfl⟩
theorem add_tab {h : Int} {v : Value} {D : SD} (r : Ris D.2.2.place.toList) : Ris (addTx h v D).2.2.place.toList ∧ (addTx h v D).2.2.led = D.2.2.led := by
  have h1 := layNew_ris D.2.2 D.1 h v r
  have h2 := layNew_led D.2.2 D.1 h v
  unfold addTx
  split
  · have q := tail_tab (ep := D.2.1) (es := (layNew D.2.2 D.1 h v).1) (t := { (layNew D.2.2 D.1 h v).2.1 with plain := false }) (b := (layNew D.2.2 D.1 h v).2.2.1) h1
    exact ⟨q.1, q.2.trans h2⟩
  · have q := tail_tab (ep := D.2.1) (es := (layNew D.2.2 D.1 h v).1) (t := (layNew D.2.2 D.1 h v).2.1) (b := (layNew D.2.2 D.1 h v).2.2.1) h1
    exact ⟨q.1, q.2.trans h2⟩
/-- a text that is there -/
theorem had_x {a : Addr} {T : String} {D : SD} {l : List Str} {k : Str} {u : Tok} {Q : Bool → Shared → Prop} (ho : s.heap.get? a = some (sObj T D)) (F : TxOk P w D l) (hk : k ∈ l) (hb : l.length < scanBound)
    (h : Q false s) : wpAny (model P w) A (setAddHashed a (.str k u) (hashStr w k)) Q E s := by
  obtain ⟨es, ep, t⟩ := D
  have hd : (sObj T (es, ep, t)).data = .set es ep t := rfl
  have hf : t.fits es.size = true := F.fit
  have hel : ElemsOf (strKind P w) es.toList := F.el
  have hsz : es.size = l.length := F.sz
  have hkey : (strKind P w).is k (.str k u) = true := Froz.is_str k u
  unfold setAddHashed setAddHashedIn
  refine wpAny_holding (wpAny_bind (wpAny_setState_of ho hd hf ?_))
  dsimp only
  rw [byScan_of rfl (by omega) hel]
  simp only [↓reduceIte]
  unfold setAddByScan
  refine wpAny_bind ?_
  refine wpAny_bind (wpAny_rule ?_)
  refine wpAny_bind (wpAny_setScan_of (knd := strKind P w) (k := k) hkey ho hd hf hel ?_)
  cases hr : List.findIdx? (fun e => (strKind P w).is k e.2) es.toList with
  | none =>
    obtain ⟨e, he, q⟩ := (F.mem k).mp hk
    have c := List.findIdx?_eq_none_iff.mp hr e he
    rw [q] at c
    cases c
  | some j => exact wpAny_pure (wpAny_pure h)
/-- the set of the texts xs, at a -/
def SetS (P : Program) (w : World) (h : Heap) (a : Addr) (xs : List Str) : Prop :=
  ∃ (D : SD) (l : List Str), h.get? a = some (sObj "set" D) ∧ TxOk P w D l ∧ l.Nodup ∧ (∀ k, k ∈ l ↔ k ∈ xs) ∧ Ris D.2.2.place.toList ∧ (w.params.followText "set-order" = true ∨ D.2.2.led = true)
theorem SetS.at {h h' : Heap} {a : Addr} {xs : List Str} (R : SetS P w h a xs) (k : ∀ o, h.get? a = some o → h'.get? a = some o) : SetS P w h' a xs := by
  obtain ⟨D, l, ho, r⟩ := R
  exact ⟨D, l, k _ ho, r⟩
theorem setS_new {h : Heap} {a : Addr} (ho : h.get? a = some (fresh0 w)) : SetS P w h a [] :=
  ⟨(#[], 0, .fresh 0 0 (!w.params.followText "set-order")), [], ho, .nil rfl, List.nodup_nil, fun _ => Iff.rfl, List.Pairwise.nil, by
    show _ ∨ (!w.params.followText "set-order") = true
    cases w.params.followText "set-order"
    · exact .inr rfl
    · exact .inl rfl⟩
theorem adds_txt {S I : Addr} {items : Array Value} {xs : List Str} (hne : S ≠ I) (hv : ∀ (i : Nat) (v : Value), items[i]? = some v → ∃ k t, xs[i]? = some k ∧ v = Value.str k t) (hb : (ddp xs).length < 1000) :
    Adds P w A S [I] (fun i h => SetS P w h S (xs.take i)) fun i v => items[i]? = some v where
  up := fun i h h' R k => R.at fun o e => k S o (by rw [List.mem_singleton]; exact hne) e
  add := fun i v s Q E hi ⟨D, l, ho, F, nd, hm, r, led⟩ hQ => by
    obtain ⟨k, t, hx, rfl⟩ := hv i v hi
    have ht : xs.take (i + 1) = xs.take i ++ [k] := by rw [List.take_add_one, hx]; rfl
    have hl : l.length ≤ (ddp xs).length := nodup_len nd fun x hx => mem_ddp.mpr (List.mem_of_mem_take ((hm x).mp hx))
    unfold setAdd
    refine wpAny_holding (wpAny_bind ((strKind P w).pyHash (Froz.is_str k t) ?_))
    by_cases hk : k ∈ l
    · refine had_x (s := { s with toks := s.toks + 1 }) ho F hk (by unfold scanBound; omega) ?_
      refine hQ s.heap (s.toks + 1) false (Nat.le_succ _) (Heap.SameBut.refl _ _) ⟨D, l, ho, F, nd, fun x => ?_, r, led⟩
      rw [hm x, ht, List.mem_append, List.mem_singleton]
      exact ⟨.inl, fun q => q.elim id fun e => by subst e; exact (hm _).mp hk⟩
    · refine Froz.add_x (s := { s with toks := s.toks + 1 }) ho F hk (by unfold scanBound; omega) ?_
      have tb := add_tab (h := hashStr w k) (v := .str k t) r
      refine hQ _ (s.toks + 1) true (Nat.le_succ _) (Heap.SameBut.update s.heap S _) ⟨_, k :: l, Froz.get_upd _ ho rfl, Froz.add_ok t F, List.nodup_cons.mpr ⟨hk, nd⟩, fun x => ?_, tb.1, led.imp id fun z => by rw [tb.2]; exact z⟩
      rw [List.mem_cons, hm x, ht, List.mem_append, List.mem_singleton]
      exact Or.comm
theorem set_txts {l : Addr} {items : Array Value} {xs : List Str} {Q : Value → Shared → Prop} (hh : A.handled = none) (hl : s.heap.IsList l items) (hv : ∀ (i : Nat) (v : Value), items[i]? = some v → ∃ k t, xs[i]? = some k ∧ v = Value.str k t) (hn : items.size = xs.length) (hb : (ddp xs).length < 1000)
    (h : ∀ (h' : Heap) (tk : Nat), SetS P w h' s.heap.objs.size xs → (∀ b o, b < s.heap.objs.size → s.heap.get? b = some o → h'.get? b = some o) → Q (.ref s.heap.objs.size) { s with heap := h', toks := tk }) :
    wpAny (model P w) A (call (.type "set") [.ref l]) Q E s :=
  set_of (J := fun i h => SetS P w h s.heap.objs.size (xs.take i)) hh hl (fun A' _ => adds_txt (Nat.ne_of_lt (Nat.lt_succ_self _)) hv hb) (fun h ho _ => by rw [List.take_zero]; exact setS_new ho) fun h' tk R k => h h' tk (by
    rw [hn, List.take_length] at R
    exact R) k
/-! sorted -/
open Fw Wk
def upX (xs : List Str) : List Str := upS (ddp xs)
theorem upX_ris (xs : List Str) : RisS (upX xs) := upS_ris (ddp_nodup xs)
theorem mem_upX {x : Str} {xs : List Str} : x ∈ upX xs ↔ x ∈ xs := (upS_perm _).mem_iff.trans mem_ddp
theorem ris_same {a b : List Str} (ha : RisS a) (hb : RisS b) (h : ∀ x, x ∈ a ↔ x ∈ b) : a = b :=
  List.Perm.eq_of_pairwise (le := fun x y => Fw.strLt x y = true) (fun x y _ _ q1 q2 => by rw [strLt_asymm q1] at q2; cases q2) ha hb ((List.perm_ext_iff_of_nodup (risS_nodup ha) (risS_nodup hb)).mpr h)
def txtOf : Value → Str
  | .str k _ => k
  | _ => Str.empty
theorem each_txt : ∀ {vs : List Value}, (∀ v ∈ vs, ∃ k t, v = Value.str k t) → EachIs (fun v k => ∃ t, v = Value.str k t) vs (vs.map txtOf)
  | [], _ => .nil
  | v :: vs, h => by
    obtain ⟨k, t, rfl⟩ := h v List.mem_cons_self
    exact .cons ⟨t, rfl⟩ (each_txt fun u hu => h u (List.mem_cons_of_mem _ hu))
theorem isStr_shape {k : Str} {v : Value} (h : (strKind P w).is k v = true) : ∃ t, v = .str k t := by
  replace h : Value.isStrOf k v = true := h
  cases v with
  | str y tok =>
    have h : (y == k) = true := h
    exact ⟨tok, by rw [eq_of_beq h]⟩
  | _ => cases h
theorem sorted_txts {a : Addr} {xs : List Str} {Q : Value → Shared → Prop} (R : SetS P w s.heap a xs) (hh : A.handled = none) (hu : A.units + 16 < cLine) (hb : (ddp xs).length < 1000)
    (hQ : ∀ s' p (out : Array Value) (c : Nat), (∀ b o, s.heap.get? b = some o → s'.heap.get? b = some o) → s'.gens = s.gens → s'.os = s.os → s.heap.objs.size ≤ p →
      s'.heap.get? p = some (seqObj "list" out c) → EachIs (fun v k => ∃ t, v = Value.str k t) out.toList (upX xs) → Q (.ref p) s') :
    wpAny (model P w) A (call (.builtin "sorted") [.ref a]) Q E s := by
  obtain ⟨⟨es, ep, t⟩, l, ho, F, nd, hm, r, hl⟩ := R
  have hsz : es.size = l.length := F.sz
  have hle : l.length ≤ (ddp xs).length := nodup_len nd fun x hx => mem_ddp.mpr ((hm x).mp hx)
  refine Calls.call_function_entry kind_sorted plain_sorted entry_sorted (args_sorted1 _) ?_
  unfold Builtin.«sorted»
  refine wpAny_bind (m := checkCount "sorted" 1 1 _) (wpAny_pure ?_)
  refine wpAny_bind (collect_set (A := A.in1) hh ⟨_, ho, rfl, rfl⟩ F.fit (by show es.size < 4096; omega) r hl fun s1 vs k1 hz g1 o1 pm => ?_)
  have hsh : ∀ v ∈ vs, ∃ k t, v = Value.str k t := fun v hv => by
    obtain ⟨e, he, q⟩ := List.mem_map.mp (pm.mem_iff.mp hv)
    obtain ⟨⟨k, hk, _⟩, _⟩ := F.el e he
    obtain ⟨t, ht⟩ := isStr_shape hk
    exact ⟨k, t, by rw [← q]; exact ht⟩
  have each := each_txt hsh
  have hvl : vs.length = l.length := by rw [pm.length_eq, List.length_map, Array.length_toList]; exact hsz
  have pk : l.Perm (vs.map txtOf) := nodup_perm nd (fun x hx => by
    obtain ⟨e, he, q⟩ := (F.mem x).mp hx
    obtain ⟨t, ht⟩ := isStr_shape q
    refine List.mem_map.mpr ⟨e.2, pm.mem_iff.mpr (List.mem_map.mpr ⟨e, he, rfl⟩), ?_⟩
    rw [ht]
    rfl) (by rw [List.length_map, hvl])
  have nk : (vs.map txtOf).Nodup := pk.nodup_iff.mp nd
  have eq : (vs.map txtOf).mergeSort (PySem.W.dataLe false PyData.str) = upX xs := ris_same (upS_ris nk) (upX_ris xs) fun x => by
    rw [mem_upX, ← hm x]
    exact (upS_perm _).mem_iff.trans pk.mem_iff.symm
  have h16 : sizeLine = 16777216 := by first | exact sizeLine_eq | rfl
  refine wpAny_bind (wpAny_newList ?_ (by rw [hvl]; omega))
  have hoL : (s1.heap.push (seqObj "list" vs.toArray 0)).get? s1.heap.objs.size = some (seqObj "list" vs.toArray 0) := Heap.get?_push_size _ rfl
  refine wpAny_bind (wpAny_holding (PySem.W.list_sort_data (s := { s1 with heap := s1.heap.push (seqObj "list" vs.toArray 0) }) (enc := PyData.str) hoL each (each.mono fun v k ⟨t, e⟩ => ⟨[], by subst e; exact Reads.str _ _, by simp⟩)
    (Fw.alikes_S _) (Fw.sortable_S _) (by rw [List.length_map, hvl]; omega) (fun k _ => by have hin : A.in1.units ≤ A.units + 8 := (by simp [Around.in1]); show A.in1.units + 1 + (PyData.str k).depth < cLine; rw [PyData.depth]; omega) fun out a1 a2 => ?_))
  rw [eq] at a2
  obtain ⟨c, hc⟩ := sortedHeap_at (vs := vs) (out := out.toArray) hoL
  refine wpAny_pure ⟨_, rfl, hQ _ s1.heap.objs.size out.toArray c (fun b u e => ?_) g1 o1 hz hc a2⟩
  have q := k1 b u e
  have hlt := Heap.lt_size q
  show (sortedHeap (s1.heap.push (seqObj "list" vs.toArray 0)) s1.heap.objs.size vs out.toArray).get? b = some u
  rw [sortedHeap_old (Nat.ne_of_lt hlt) (by rw [size_push']; exact Nat.lt_succ_of_lt hlt)]
  exact Heap.get?_push_of_some _ q
end
end Ft
/-! ### sorted(set(xs)), xs a list of texts -/
namespace Ft
open PySem PySem.Spec PyProof.Rows L2 Fw Wk
open PySem.W (EachIs)
def SetSO (P : Program) (w : World) (a : Addr) (xs : List Str) : HO := .ext fun h => SetS P w h a xs
theorem setSO_new {P : Program} {w : World} {H : Hp} {h : Heap} {a : Addr} {xs : List Str} (R : SetS P w h a xs) : ObjOk P w H h a (SetSO P w a xs) := by
  have ⟨D, l, ho, _⟩ := R
  exact ⟨R, ⟨_, ho⟩, fun h1 h2 p k => SetS.at p k⟩
def rSetS (P : Program) (w : World) : List V → Hp → VK → Prop := fun vs H Q => ∃ (a : Addr) (xs : List Str), vs = [V.ref a] ∧ H a = some (.lst (xs.map V.str)) ∧ (ddp xs).length < 1000 ∧ ∀ p, H p = none → Q (.ref p) (upd H p (SetSO P w p xs))
def rSortX (P : Program) (w : World) : List V → Hp → VK → Prop := fun vs H Q => ∃ (a : Addr) (xs : List Str), vs = [V.ref a] ∧ H a = some (SetSO P w a xs) ∧ (ddp xs).length < 1000 ∧ ∀ p, H p = none → Q (.ref p) (upd H p (.lst ((upX xs).map V.str)))
theorem vals_txt : ∀ {ys : List Str} {us : List Value}, EachIs (fun v k => ∃ t, v = Value.str k t) us ys → Vals (ys.map V.str) us
  | [], _, .nil => .nil
  | y :: ys, _, .cons h t => .cons h (vals_txt t)
section
variable {X : Cx}
theorem cr_setS (hc : X.calm = true) : CallR X (.type "set") (rSetS X.prog X.w) := by
  intro pins s σ H vs us Q I r h
  obtain ⟨a, xs, rfl, ha, hb, q⟩ := h
  obtain ⟨its, rv, hl, _⟩ := I.list (SqL.of ha)
  rw [Vals.ref1 r]
  have hn : H s.heap.objs.size = none := I.hok.fresh (Nat.le_refl _)
  have hlen : its.toArray.size = xs.length := by rw [List.size_toArray, ← rv.length, List.length_map]
  refine set_txts (xs := xs) (I.ok.hd hc) hl.isList (fun i v hv => ?_) hlen hb fun h' tk R k => ?_
  · have hi : i < xs.length := by
      rw [← hlen]
      exact (Array.getElem?_eq_some_iff.mp hv).1
    obtain ⟨u, hu, t, ht⟩ := rv.get (i := i) (x := .str xs[i]) (by simp [hi])
    refine ⟨xs[i], t, List.getElem?_eq_getElem hi, ?_⟩
    have e : its[i]? = some v := by simpa using hv
    rw [hu] at e
    cases e
    exact ht
  · exact ⟨.ref _, upd H s.heap.objs.size (SetSO X.prog X.w s.heap.objs.size xs), I.laid (t' := tk) (fun b o e => k b o (Heap.lt_size e) e) (Nat.le_refl _) (setSO_new R), rfl, q _ hn⟩
theorem cr_sortX (hc : X.calm = true) (hu : X.A.units + 100 < cLine) : CallR X (.builtin "sorted") (rSortX X.prog X.w) := by
  intro pins s σ H vs us Q I r h
  obtain ⟨a, xs, rfl, ha, hb, q⟩ := h
  have R : SetS X.prog X.w s.heap a xs := (I.hok a _ ha).1
  rw [Vals.ref1 r]
  refine sorted_txts R (I.ok.hd hc) (by omega) hb fun s' p out c k g o hp hg he => ?_
  have hv := vals_txt he
  have hlen : ((upX xs).map V.str).length ≤ sizeLine := by
    rw [List.length_map]
    have e : (upX xs).length = (ddp xs).length := (upS_perm (ddp xs)).length_eq
    have h16 : sizeLine = 16777216 := by first | exact sizeLine_eq | rfl
    omega
  have hn : H p = none := I.hok.fresh hp
  have J : Inv X pins σ (upd H p (.lst ((upX xs).map V.str))) { s with heap := s'.heap, gens := s'.gens, drawn := s'.drawn, toks := s'.toks } :=
    I.call (ch := []) (Un.laid k hp hn) (I.hok.laid k hp ⟨hlen, out.toList, c, hv, hg⟩) (by rw [g]; exact I.bare) (fun _ z => nomatch z)
  have e : s' = { s with heap := s'.heap, gens := s'.gens, drawn := s'.drawn, toks := s'.toks } := by
    cases s'
    cases s
    cases o
    rfl
  rw [e]
  exact ⟨.ref p, _, J, rfl, q p hn⟩
end
section
variable {P : Program} {w : World} {K : PySem.W.Frag} {Γ : List Ds} {t : TE}
theorem ev_sortSet {xs : List Str} (h : EvS K t Γ (xs.map .str)) (hb : (ddp xs).length < 1000) : Ev K (tCB (rSortX P w) (tCons (tCB (rSetS P w) (tCons t tNil)) tNil)) Γ (.dat (.list ((upX xs).map .str))) := fun G0 H0 G H σ E Q q =>
  h G0 H0 G H σ E _ fun a vs G1 H1 e1 hp hs => by
    have e := hs.strs
    subst e
    refine ⟨a, xs, rfl, hp, hb, fun p np => ⟨p, xs, rfl, upd_same, hb, fun p2 np2 => ?_⟩⟩
    have e2 := e1.trans (Ext.new (o := SetSO P w p xs) e1.i np)
    exact q _ _ _ (e2.trans (Ext.new e2.i np2)) (.lst upd_same ((drs_strs (upX xs))))
end
end Ft
/-! ### flows: pairs of a name and a target, how they compare -/
namespace Fn
open PySem PySem.SeqAt PyProof.Rows
open AutoSeq1 (wpAny_loadPart')
open MeetsSeq MeetsSeq2 MeetsSeq3 SeqRoads2
/-- the first items decide -/
theorem tuple_lt0 (l b : Addr) (x y : Value) (xs ys : List Value) (n n2 : Nat) (dd dd2 : Option Addr) (sl sl2 : Array (Option Value)) (r : Bool) :
    Meets (Builtin.«tuple.__lt__» ⟨[.ref l, .ref b], []⟩)
      (fun A R s => s.heap.get? l = some { cls := .type "tuple", dict := dd, data := .seq (x :: xs).toArray n, slots := sl } ∧ s.heap.get? b = some { cls := .type "tuple", dict := dd2, data := .seq (y :: ys).toArray n2, slots := sl2 } ∧
        EqAt A.in1 s x y false ∧ RcLt A.in1 s x y r ∧ R (.ok (.ret (.bool r))) s) :=
  .of_wp fun prog w A R s h => by
    obtain ⟨hp, g, d, tk, os⟩ := s; obtain ⟨hl, hb, he, hr, h⟩ := h
    have f2 := AutoSeq1.sub_tuple_tuple
    unfold RcLt at hr
    unfold Builtin.«tuple.__lt__»
    wp_delta
    generalize hRC : richCompare = RC at hr ⊢
    wp_walk using wpAny_loadPart' hl, wpAny_loadPart' hb, wpAny_forIn_list _ (fun rest b s' => b.1 = none ∧ s' = ⟨hp, g, d, tk, os⟩ ∧ rest = (x, y) :: xs.zip ys) _
    case turn =>
      rintro ⟨y', x'⟩ rest b s' ⟨hb', rfl, hz⟩
      injection hz with hyx hrest
      injection hyx with e1 e2
      subst e1 e2
      refine wpAny_bind (he prog w _ _ ?_)
      wp_walk
      refine hr prog w _ _ ?_
      wp_walk
      exact ⟨_, rfl, h⟩
    case fin =>
      rintro b s' ⟨hb', rfl, hz⟩
      cases hz
    all_goals first | exact ⟨rfl, rfl, rfl⟩ | skip
end Fn
namespace Fn
open PySem PySem.SeqAt PyProof.Rows PySem.W
inductive Tg
  | nm (y : Str)
  | pg (i : Int)
deriving DecidableEq
abbrev Fl := Str × Tg
def encG : Tg → PyData
  | .nm y => .tuple [.str "name", .str y]
  | .pg i => .tuple [.str "page", .int i]
def encF (f : Fl) : PyData := .tuple [.str f.1, encG f.2]
def keyG : Tg → NestedKey
  | .nm y => .tup [.text "name", .text y]
  | .pg i => .tup [.text "page", .num i]
def keyF (f : Fl) : NestedKey := .tup [.text f.1, keyG f.2]
theorem keyG_inj {a b : Tg} (h : keyG a = keyG b) : a = b := by
  cases a <;> cases b <;> simp [keyG] at h <;> simp [h]
theorem keyF_inj {f g : Fl} (h : keyF f = keyF g) : f = g := by
  unfold keyF at h
  simp only [NestedKey.tup.injEq, List.cons.injEq, NestedKey.text.injEq, and_true] at h
  exact Prod.ext h.1 (keyG_inj h.2)
theorem reads_keyG {h : Heap} {v : Value} {as : List Addr} : ∀ {t : Tg}, Reads h v (encG t) as → NestedIs h (keyG t) v
  | .nm y, .tuple h1 h2 h3 h4 => by
    generalize hvs : Array.toList _ = vs at h4
    cases h4 with
    | cons r1 r =>
      cases r with
      | cons r2 r3 =>
        cases r3; cases r1; cases r2
        exact .tup h1 h2 h3 (by rw [hvs]; exact .cons (.text _ _) (.cons (.text _ _) .nil))
  | .pg i, .tuple h1 h2 h3 h4 => by
    generalize hvs : Array.toList _ = vs at h4
    cases h4 with
    | cons r1 r =>
      cases r with
      | cons r2 r3 =>
        cases r3; cases r1; cases r2
        exact .tup h1 h2 h3 (by rw [hvs]; exact .cons (.text _ _) (.cons (.int _ _) .nil))
theorem reads_keyF {h : Heap} {v : Value} {as : List Addr} {f : Fl} : Reads h v (encF f) as → NestedIs h (keyF f) v
  | .tuple h1 h2 h3 h4 => by
    generalize hvs : Array.toList _ = vs at h4
    cases h4 with
    | cons r1 r =>
      cases r with
      | cons r2 r3 =>
        cases r3; cases r1
        exact .tup h1 h2 h3 (by rw [hvs]; exact .cons (.text _ _) (.cons (reads_keyG r2) .nil))
theorem reads_same {h : Heap} {v : Value} {as as' : List Addr} {f g : Fl} (a : Reads h v (encF f) as) (b : Reads h v (encF g) as') : f = g := keyF_inj (NestedIs.inj _ _ _ (reads_keyF a) (reads_keyF b))
theorem depth_keyG (t : Tg) : (keyG t).depth ≤ 2 := by cases t <;> simp [keyG, NestedKey.depth, NestedKey.depthAll]
theorem depth_keyF (f : Fl) : (keyF f).depth ≤ 3 := by
  have := depth_keyG f.2
  unfold keyF
  simp only [NestedKey.depth, NestedKey.depthAll]
  omega
/-! the order -/
theorem lt_tags (y : Str) (i : Int) : dataLt (encG (.nm y)) (encG (.pg i)) = true := by
  unfold encG
  rw [dataLt_tuple, toks_all_cons, toks_all_cons]
  simp only [keyToks]
  show PyProof.Rows.lexLt itemOrd (Sum.inl 1 :: (Sum.inr (Str.ofString "name").cps.toList :: _)) (Sum.inl 1 :: (Sum.inr (Str.ofString "page").cps.toList :: _)) = true
  have e := lex_pre [Sum.inl 1] (Sum.inr (Str.ofString "name").cps.toList :: keyToksAll [.str y]) (Sum.inr (Str.ofString "page").cps.toList :: keyToksAll [.int i])
  refine e.trans ?_
  rw [lex_atom (by decide +kernel), lex_one]
  decide +kernel
theorem gt_tags (y : Str) (i : Int) : dataLt (encG (.pg i)) (encG (.nm y)) = false := by
  unfold encG
  rw [dataLt_tuple, toks_all_cons, toks_all_cons]
  simp only [keyToks]
  show PyProof.Rows.lexLt itemOrd (Sum.inl 1 :: (Sum.inr (Str.ofString "page").cps.toList :: _)) (Sum.inl 1 :: (Sum.inr (Str.ofString "name").cps.toList :: _)) = false
  have e := lex_pre [Sum.inl 1] (Sum.inr (Str.ofString "page").cps.toList :: keyToksAll [.int i]) (Sum.inr (Str.ofString "name").cps.toList :: keyToksAll [.str y])
  refine e.trans ?_
  rw [lex_atom (by decide +kernel), lex_one]
  decide +kernel
theorem tags_ne : ("name" : Str) ≠ "page" := by decide +kernel
theorem in1_units (A : Around) : A.in1.units ≤ A.units + 2 := by simp [Around.in1]
theorem lt_mixed {A : Around} {s : Shared} {a b : Value} {x y : Str} {p q : PyData} {as bs : List Addr} (ra : Reads s.heap a (.tuple [.str x, p]) as) (rb : Reads s.heap b (.tuple [.str y, q]) bs) (hne : x ≠ y) (hu : A.units + 6 < cLine) : RcLt A s a b (dataLt (.str x) (.str y)) := by
  cases ra with
  | @tuple l o vs n _ _ h1 h2 h3 h4 =>
    cases rb with
    | @tuple l' o' vs' n' _ _ k1 k2 k3 k4 =>
      obtain ⟨vs⟩ := vs
      obtain ⟨vs'⟩ := vs'
      obtain ⟨cls, dd, data, sl⟩ := o
      obtain ⟨cls', dd', data', sl'⟩ := o'
      simp only at h2 h3 h4 k2 k3 k4
      subst h2 h3 k2 k3
      cases h4 with
      | cons r1 r =>
        cases k4 with
        | cons q1 q =>
          have hin := in1_units A
          have e1 : EqAt A.in1 s _ _ (PyData.eqv (.str x) (.str y)) := eqAt_alike (.str x) (.str y) A.in1 s _ _ _ _ r1 q1 (by simp [alike]) (by simp only [PyData.depth]; omega)
          have e2 : PyData.eqv (.str x) (.str y) = false := by rw [Fw.eqv_str]; simpa using hne
          rw [e2] at e1
          have e3 := rcLt_alike (.str x) (.str y) A.in1 s _ _ _ _ r1 q1 (by simp [alike]) (by simp) (by simp only [PyData.depth]; omega)
          intro prog w E Q h
          exact richCompare_meets_room (op := .Lt) ⟨_, h1, rfl⟩ ⟨_, k1, rfl⟩ F.slot_tuple_lt F.entry_tuple_lt (F.args_tuple_lt_2 _ _) (tuple_lt0 l l' _ _ _ _ n n' dd dd' sl sl' (dataLt (.str x) (.str y)))
            ⟨h1, k1, e1, e3, show Value.bool (dataLt (.str x) (.str y)) ≠ Value.notImplemented ∧ Q (.bool (dataLt (.str x) (.str y))) s from ⟨(fun x => nomatch x), h⟩⟩ (by omega)
/-- two targets, told apart: their < -/
theorem lt_tg {A : Around} {s : Shared} {a b : Value} {as bs : List Addr} : ∀ {t u : Tg}, Reads s.heap a (encG t) as → Reads s.heap b (encG u) bs → t ≠ u → A.units + 6 < cLine → RcLt A s a b (dataLt (encG t) (encG u))
  | .nm y, .nm z, ra, rb, _, hu => rcLt_alike _ _ A s a b as bs ra rb (by simp [encG, alike, alikeAll]) (by simp [encG]) (by simp only [encG, PyData.depth, PyData.depthAll]; omega)
  | .pg i, .pg j, ra, rb, _, hu => rcLt_alike _ _ A s a b as bs ra rb (by simp [encG, alike, alikeAll]) (by simp [encG]) (by simp only [encG, PyData.depth, PyData.depthAll]; omega)
  | .nm y, .pg j, ra, rb, _, hu => by
    rw [lt_tags, ← show dataLt (.str "name") (.str "page") = true by rw [dataLt_str]; decide +kernel]
    exact lt_mixed ra rb tags_ne hu
  | .pg i, .nm z, ra, rb, _, hu => by
    rw [gt_tags, ← show dataLt (.str "page") (.str "name") = false by rw [dataLt_str]; decide +kernel]
    exact lt_mixed ra rb (fun e => tags_ne e.symm) hu
/-! sorting them -/
noncomputable def flowKind (h : Heap) (fs : List Fl) : PyProof.Rows.KeyKind where
  toKeyOrd := listOrd itemOrd
  keyOf v := open Classical in if q : ∃ f, f ∈ fs ∧ ∃ as, Reads h v (encF f) as then some (keyToks (encF q.choose)) else none
  dflt := ([] : List (Int ⊕ List Nat))
theorem flowKind_some {h : Heap} {fs : List Fl} {v : Value} {f : Fl} {as : List Addr} (hf : f ∈ fs) (r : Reads h v (encF f) as) : (flowKind h fs).keyOf v = some (keyToks (encF f)) := by
  have q : ∃ f, f ∈ fs ∧ ∃ as, Reads h v (encF f) as := ⟨f, hf, as, r⟩
  have e : (flowKind h fs).keyOf v = some (keyToks (encF q.choose)) := by
    show (open Classical in if q : ∃ f, f ∈ fs ∧ ∃ as, Reads h v (encF f) as then some (keyToks (encF q.choose)) else none) = _
    rw [dif_pos q]
  obtain ⟨h1, as', h2⟩ := q.choose_spec
  rw [e, reads_same h2 r]
theorem flowKind_inv {h : Heap} {fs : List Fl} {v : Value} {k : List (Int ⊕ List Nat)} (e : (flowKind h fs).keyOf v = some k) : ∃ f as, f ∈ fs ∧ Reads h v (encF f) as ∧ k = keyToks (encF f) := by
  by_cases q : ∃ f, f ∈ fs ∧ ∃ as, Reads h v (encF f) as
  · obtain ⟨f, h1, as, h2⟩ := q
    rw [flowKind_some h1 h2] at e
    exact ⟨f, as, h1, h2, (Option.some.inj e).symm⟩
  · have e' : (flowKind h fs).keyOf v = none := by
      show (open Classical in if q : ∃ f, f ∈ fs ∧ ∃ as, Reads h v (encF f) as then some (keyToks (encF q.choose)) else none) = _
      rw [dif_neg q]
      rfl
    rw [e'] at e
    cases e
theorem dataLt_F {f g : Fl} (hn : f ≠ g) : dataLt (encF f) (encF g) = if f.1 = g.1 then dataLt (encG f.2) (encG g.2) else dataLt (.str f.1) (.str g.1) := by
  unfold encF
  rw [dataLt_tuple]
  by_cases h : f.1 = g.1
  · rw [if_pos h, dataLt_all_yes (by simp [alike]) (by rw [Fw.eqv_str]; simpa using h), toks_all_cons, toks_all_cons]
    have h2 : f.2 ≠ g.2 := fun e => hn (Prod.ext h e)
    have e := lex_pre [Sum.inl 1] (keyToks (encG f.2) ++ keyToksAll []) (keyToks (encG g.2) ++ keyToksAll [])
    refine e.trans ?_
    clear e hn
    generalize f.2 = t at h2 ⊢
    generalize g.2 = u at h2 ⊢
    have same : alike (encG t) (encG u) = true → PyProof.Rows.lexLt itemOrd (keyToks (encG t) ++ keyToksAll []) (keyToks (encG u) ++ keyToksAll []) = dataLt (encG t) (encG u) := fun hal => by
      have q := (toks_eqv (encG t) (encG u) hal).2
      refine q ?_ _ _
      cases t <;> cases u
      · unfold encG PyData.eqv PyData.eqvAll PyData.eqvAll
        simp only [Fw.eqv_str, PyData.eqvAll]
        have : ¬ _ = _ := fun e => h2 (congrArg Tg.nm e)
        simp [this]
      · simp [encG, alike, alikeAll] at hal
      · simp [encG, alike, alikeAll] at hal
      · unfold encG PyData.eqv PyData.eqvAll PyData.eqvAll
        simp only [Fw.eqv_int, PyData.eqvAll]
        have : ¬ _ = _ := fun e => h2 (congrArg Tg.pg e)
        simp [this]
    cases t with
    | nm y =>
      cases u with
      | nm z => exact same (by simp [encG, alike, alikeAll])
      | pg j =>
        rw [lt_tags]
        unfold encG
        simp only [keyToks, toks_all_cons, List.cons_append, List.nil_append]
        show PyProof.Rows.lexLt itemOrd (Sum.inl 1 :: (Sum.inr (Str.ofString "name").cps.toList :: _)) (Sum.inl 1 :: (Sum.inr (Str.ofString "page").cps.toList :: _)) = true
        refine (lex_pre [Sum.inl 1] (Sum.inr (Str.ofString "name").cps.toList :: _) (Sum.inr (Str.ofString "page").cps.toList :: _)).trans ?_
        rw [lex_atom (by decide +kernel), lex_one]
        decide +kernel
    | pg i =>
      cases u with
      | pg j => exact same (by simp [encG, alike, alikeAll])
      | nm z =>
        rw [gt_tags]
        unfold encG
        simp only [keyToks, toks_all_cons, List.cons_append, List.nil_append]
        show PyProof.Rows.lexLt itemOrd (Sum.inl 1 :: (Sum.inr (Str.ofString "page").cps.toList :: _)) (Sum.inl 1 :: (Sum.inr (Str.ofString "name").cps.toList :: _)) = false
        refine (lex_pre [Sum.inl 1] (Sum.inr (Str.ofString "page").cps.toList :: _) (Sum.inr (Str.ofString "name").cps.toList :: _)).trans ?_
        rw [lex_atom (by decide +kernel), lex_one]
        decide +kernel
  · rw [if_neg h, dataLt_all_no (by simp [alike]) (by rw [Fw.eqv_str]; simpa using h)]
end Fn
/-! ### flows sorted -/
namespace Fn
open PySem PySem.SeqAt PyProof.Rows PySem.W PySem.Calls
section
variable {prog : Program} {w : World} {A : Around} {E : Value → Shared → Prop} {s : Shared} {vs : List Value} {fs : List Fl}
theorem sorts_flows (e : EachIs (fun v f => ∃ as, Reads s.heap v (encF f) as) vs fs) (hu : A.units + 8 < cLine) : SortsAt prog w A s (flowKind s.heap fs) vs := by
  refine ⟨fun v hv => ?_, tuples' true, ?_, fun h2 E Q hq => ?_⟩
  · obtain ⟨f, hf, as, r⟩ := e.left v hv
    exact ⟨_, flowKind_some hf r⟩
  · intro E x y a b Q ha hb hq
    obtain ⟨f, as, hf, ra, rfl⟩ := flowKind_inv ha
    obtain ⟨g, as', hg, rb, rfl⟩ := flowKind_inv hb
    have hq' : Q (dataLt (encF f) (encF g)) s := hq
    clear hq ha hb
    have same : f = g → dataLt (encF f) (encF g) = false := fun e => by
      rw [e]
      exact lex_irrefl _
    unfold encF at ra rb
    cases ra with
    | @tuple l o us n _ _ h1 h2 h3 h4 =>
      cases rb with
      | @tuple l' o' us' n' _ _ k1 k2 k3 k4 =>
        refine kat_lt h1 h3 k1 k3 ?_
        obtain ⟨us⟩ := us
        obtain ⟨us'⟩ := us'
        cases h4 with
        | cons r1 r =>
          cases r with
          | cons r2 r3 =>
            cases r3
            cases k4 with
            | cons q1 q =>
              cases q with
              | cons q2 q3 =>
                cases q3
                show KatLex prog w A true false Q [(_, _), (_, _)] 0 s
                refine kat_cons (eqAt_alike (.str f.1) (.str g.1) A s _ _ _ _ r1 q1 (by simp [alike]) (by simp only [PyData.depth]; omega) prog w _ _ ?_)
                cases hx : PyData.eqv (.str f.1) (.str g.1) with
                | true =>
                  have hx' : f.1 = g.1 := by rw [Fw.eqv_str] at hx; simpa using hx
                  refine kat_yes (kat_cons (eqAt_key (keyG f.2) (keyG g.2) A s _ _ (reads_keyG r2) (reads_keyG q2) (by have := depth_keyG f.2; omega) prog w _ _ ?_))
                  cases ht : NestedKey.beq (keyG f.2) (keyG g.2) with
                  | true =>
                    have ht' : f.2 = g.2 := keyG_inj (by
                      have := NestedKey.decide_eq (keyG f.2) (keyG g.2)
                      rw [ht] at this
                      exact of_decide_eq_true this)
                    rw [same (Prod.ext hx' ht')] at hq'
                    exact kat_yes (kat_nil hq')
                  | false =>
                    have ht' : f.2 ≠ g.2 := fun e => by
                      have := NestedKey.decide_eq (keyG f.2) (keyG g.2)
                      rw [ht, e] at this
                      simp at this
                    rw [dataLt_F (fun e => ht' (by rw [e])), if_pos hx'] at hq'
                    refine kat_no ?_
                    show wpAny (model prog w) A (oneLt' false _ _) Q _ s
                    rw [oneLt'_eq]
                    simp only [Bool.false_eq_true, if_false]
                    exact wpAny_bind (lt_tg r2 q2 ht' (by omega) prog w _ _ (wpAny_truthy_bool hq'))
                | false =>
                  have hx' : f.1 ≠ g.1 := by rw [Fw.eqv_str] at hx; simpa using hx
                  rw [dataLt_F (fun e => hx' (by rw [e])), if_neg hx'] at hq'
                  exact kat_no (oneLt_alike (fun _ t e => by cases e) r1 q1 (by simp [alike]) (by simp) (by simp only [PyData.depth]; omega) hq')
  · obtain ⟨gs, t1, t2, t3⟩ := each_katTups (each_map (R := fun v d => ∃ as, Reads s.heap v d as) encF e) fun d hd => by
      obtain ⟨f, _, rfl⟩ := List.mem_map.mp hd
      exact ⟨_, _, rfl⟩
    refine kat_kind (T := .type "str") t1 (by omega) (fun f hf => ?_) (beq_self_eq_true _) hq
    obtain ⟨x, r, as, m1, m2⟩ := t3 f hf
    obtain ⟨g, _, eg⟩ := List.mem_map.mp m1
    unfold encF at eg
    injection eg with eg
    injection eg with e1 e2
    subst e1
    exact looks_reads m2
theorem sortVals_flows {h' : Heap} {R : Value → Fl → Prop} (rev : Bool) (e : EachIs R vs fs) (er : EachIs (fun v f => ∃ as, Reads h' v (encF f) as) vs fs) : EachIs R (sortVals (flowKind h' fs) rev vs vs) (fs.mergeSort (dataLe rev encF)) :=
  sortVals_each (κ := flowKind h' fs) (fun f => keyToks (encF f)) e ((each_mem er).mono fun _ _ ⟨⟨_, r⟩, hf⟩ => flowKind_some hf r)
theorem alike_F (f : Fl) : alike (encF f) (encF f) = true := by
  obtain ⟨x, t⟩ := f
  cases t <;> simp [encF, encG, alike, alikeAll]
theorem reads_noG {h : Heap} {v : Value} {as : List Addr} : ∀ {t : Tg}, Reads h v (encG t) as → as = []
  | .nm y, .tuple h1 h2 h3 h4 => by
    generalize Array.toList _ = vs at h4
    cases h4 with
    | cons r1 r =>
      cases r with
      | cons r2 r3 => cases r3; cases r1; cases r2; rfl
  | .pg i, .tuple h1 h2 h3 h4 => by
    generalize Array.toList _ = vs at h4
    cases h4 with
    | cons r1 r =>
      cases r with
      | cons r2 r3 => cases r3; cases r1; cases r2; rfl
theorem reads_no {h : Heap} {v : Value} {as : List Addr} {f : Fl} : Reads h v (encF f) as → as = []
  | .tuple h1 h2 h3 h4 => by
    generalize Array.toList _ = vs at h4
    cases h4 with
    | cons r1 r =>
      cases r with
      | cons r2 r3 =>
        cases r3; cases r1
        have := reads_noG r2
        subst this
        rfl
/-- xs.sort() -/
theorem list_sort_flows {a : Addr} {n : Nat} {R : Value → Fl → Prop} {Q : Value → Shared → Prop} (ho : s.heap.get? a = some (seqObj "list" vs.toArray n)) (e : EachIs R vs fs) (er : EachIs (fun v f => ∃ as, Reads s.heap v (encF f) as) vs fs) (hL : fs.length ≤ sizeLine)
    (hu : A.units + 12 < cLine) (h : ∀ out, out.length = fs.length → EachIs R out (fs.mergeSort (dataLe false encF)) → Q .none { s with heap := sortedHeap s.heap a vs (List.toArray out) }) :
    wpAny (model prog w) A (call (.builtin "list.sort") [.ref a]) Q E s := by
  have er' : EachIs (fun v f => ∃ as, Reads (sortingHeap s.heap a vs) v (encF f) as) vs fs := er.mono fun v f ⟨as, r⟩ => ⟨as, Reads.keepBut (a := a) (fun _ _ hb q => sortingHeap_old hb q) (fun o q => by rw [ho] at q; rw [← Option.some.inj q]) _ _ _ (alike_F f) r (by rw [reads_no r]; simp)⟩
  have hin := in1_units A
  refine wpAny_call_entry slot_list_sort ⟨_, ho, rfl⟩ entry_list_sort (list_sort_vals (κ := flowKind (sortingHeap s.heap a vs) fs) ho (sorts_flows (s := { s with heap := sortingHeap s.heap a vs }) er' (by omega)) (by rw [e.length]; exact hL) ⟨.none, rfl, ?_⟩) (args_list_sort _)
  exact h _ (by rw [sortVals_length false rfl]; exact e.length) (sortVals_flows false e er')
/-- sorted(xs) -/
theorem sorted_flows {l : Addr} {R : Value → Fl → Prop} {Q : Value → Shared → Prop} (hl : s.heap.IsList l vs.toArray) (e : EachIs R vs fs) (er : EachIs (fun v f => ∃ as, Reads s.heap v (encF f) as) vs fs) (hL : fs.length ≤ sizeLine)
    (hu : A.units + 12 < cLine) (h : ∀ out, out.length = fs.length → EachIs R out (fs.mergeSort (dataLe false encF)) → Q (.ref (s.heap.objs.size + 1)) { s with heap := sortedAll s.heap vs (List.toArray out) }) :
    wpAny (model prog w) A (call (.builtin "sorted") [.ref l]) Q E s := by
  have er' : EachIs (fun v f => ∃ as, Reads (sortingHeap (copyHeap s.heap vs) (s.heap.objs.size + 1) vs) v (encF f) as) vs fs := er.mono fun _ _ ⟨as, r⟩ => ⟨as, PyProof.Rows.Reads.keeps (fun _ _ => sorting_copy_old) r⟩
  have hin := in1_units A
  have hin2 := in1_units A.in1
  exact sorted_vals hl (sorts_flows (s := { s with heap := sortingHeap (copyHeap s.heap vs) (s.heap.objs.size + 1) vs }) er' (by omega)) (by rw [e.length]; exact hL)
    (h _ (by rw [sortVals_length false rfl]; exact e.length) (sortVals_flows false e er'))
end
end Fn
/-! ### a dict whose keys are flows -/
namespace Fn
open PySem PySem.Spec PyProof.Rows L2 Fw
open PySem.W (EachIs dataLe KdlSrc)
abbrev Row := Fl × Addr
def rowH (r : Row) : NestedKey × Addr × Value := (keyF r.1, r.2, .bool true)
def Flo (P : Program) (w : World) (h : Heap) (a : Addr) (rows : List Row) : Prop :=
  ∃ es ep, h.DictRaw a es ep ∧ es.toList = rows.map (fun r => entryOfKey (nestedKind P w) (rowH r)) ∧ (rows.map (·.1)).Nodup
def FloO (P : Program) (w : World) (a : Addr) (rows : List Row) : HO := .ext fun h => Flo P w h a rows ∧ (a == sysModules) = false
def putF (rows : List Row) (f : Fl) (t : Addr) : List Row := if f ∈ rows.map (·.1) then rows else rows ++ [(f, t)]
section
variable {P : Program} {w : World} {h h' : Heap} {a : Addr} {rows : List Row}
theorem Flo.at (R : Flo P w h a rows) (k : ∀ o, h.get? a = some o → h'.get? a = some o) : Flo P w h' a rows := by
  obtain ⟨es, ep, r, q⟩ := R
  exact ⟨es, ep, r.at k, q⟩
theorem floO_new {H : Hp} (R : Flo P w h a rows) (hs : (a == sysModules) = false) : ObjOk P w H h a (FloO P w a rows) := by
  have ⟨es, ep, ⟨o, ho, _⟩, _⟩ := R
  exact ⟨⟨R, hs⟩, ⟨o, ho⟩, fun h1 h2 p k => ⟨Flo.at p.1 k, p.2⟩⟩
theorem Flo.dict (R : Flo P w h a rows) (hk : ∀ r ∈ rows, NestedIs h (keyF r.1) (.ref r.2)) : h.DictOfH (nestedKind P w) a (rows.map rowH) := by
  obtain ⟨es, ep, ⟨o, ho, hx, hd⟩, he, nd⟩ := R
  refine ⟨o, es, ep, ho, hx, hd, by rw [he, List.map_map]; rfl, fun x hx => ?_, ?_⟩
  · obtain ⟨r, hr, rfl⟩ := List.mem_map.mp hx
    exact ⟨hk r hr, by have := depth_keyF r.1; show (keyF r.1).depth ≤ 8; omega⟩
  · rw [List.map_map]
    show (rows.map fun r => keyF r.1).Nodup
    have e : (rows.map fun r => keyF r.1) = (rows.map (·.1)).map keyF := by rw [List.map_map]; rfl
    rw [e]
    exact List.pairwise_map.mpr (List.Pairwise.imp (fun hne e => hne (keyF_inj e)) nd)
theorem flo_of (D : h.DictOfH (nestedKind P w) a (rows.map rowH)) : Flo P w h a rows := by
  obtain ⟨o, es, ep, ho, hx, hd, he, _, nd⟩ := D
  refine ⟨es, ep, ⟨o, ho, hx, hd⟩, by rw [he, List.map_map]; rfl, ?_⟩
  rw [List.map_map] at nd
  have e : (rows.map ((fun x : NestedKey × Addr × Value => x.1) ∘ rowH)) = (rows.map (·.1)).map keyF := by rw [List.map_map]; rfl
  rw [e] at nd
  exact List.Pairwise.imp (fun hne e => hne (by rw [e])) (List.pairwise_map.mp nd)
theorem at_row (rows : List Row) (f : Fl) : (atKey (rows.map rowH) (keyF f)).isSome = decide (f ∈ rows.map (·.1)) := by
  induction rows with
  | nil => rfl
  | cons r rows ih =>
    unfold atKey at ih ⊢
    rw [List.map_cons, List.find?_cons]
    by_cases e : r.1 = f
    · have : decide ((rowH r).1 = keyF f) = true := decide_eq_true (by show keyF r.1 = keyF f; rw [e])
      rw [this]
      simp [e]
    · have : decide ((rowH r).1 = keyF f) = false := decide_eq_false fun q => e (keyF_inj q)
      rw [this]
      rw [ih, List.map_cons]
      have e' : ¬ f = r.1 := fun q => e q.symm
      simp [e']
theorem stored_row (rows : List Row) (f : Fl) (t : Addr) : storedH (rows.map rowH) (keyF f) t (.bool true) = (putF rows f t).map rowH := by
  unfold storedH putF
  rw [at_row]
  by_cases e : f ∈ rows.map (·.1)
  · rw [if_pos (decide_eq_true e), if_pos e, List.map_map]
    refine List.map_congr_left fun r _ => ?_
    show putAt (keyF f) (.bool true) (rowH r) = rowH r
    unfold putAt rowH
    split <;> rfl
  · rw [if_neg (by simp [e]), if_neg e, List.map_append]
    rfl
theorem flo_empty (h : Heap) : Flo P w (h.push { cls := .type "dict", data := .dict #[] }) h.objs.size [] :=
  ⟨#[], 0, ⟨_, Heap.get?_push_size _ rfl, ⟨rfl, rfl, rfl⟩, rfl⟩, rfl, List.nodup_nil⟩
theorem src_raw {d : Addr} {es : Array DictEntry} {ep : Nat} (lo : (d == sysModules) = false) : KdlSrc P w "dict" d d es.size (fun i v => ∃ hi : i < es.size, v = es[i].key) (fun h => h.DictRaw d es ep) where
  type := fun _ hm => hm.typeIs
  there := fun _ hm => let ⟨_, ho, _⟩ := hm; ⟨Heap.lt_size ho, Heap.lt_size ho⟩
  keep := fun _ _ hm hk => hm.at fun o e => hk d (.inl rfl) o e
  notList := by decide
  notTuple := by decide
  hint := fun _ _ _ _ hm hq => PySem.W.kdl_hint_dict hm.typeIs hq
  iter := fun _ s hh hm => ⟨_, _, (fun _ _ hq => wpAny_pyIter_dict_raw lo hm hq), Walks.rawKeys hh _ d (Nat.ne_of_lt (let ⟨_, ho, _⟩ := hm; Heap.lt_size ho)) es ep, ⟨⟨_, Heap.get?_push_size _ rfl, rfl, rfl⟩, hm.at fun o e => Heap.get?_push_of_some _ e⟩⟩
end
def sortF (fs : List Fl) : List Fl := fs.mergeSort (dataLe false encF)
section
variable {P : Program} {w : World} {A : Around} {E : Value → Shared → Prop} {s : Shared} {a : Addr} {rows : List Row}
theorem sorted_flo {R : Value → Fl → Prop} {Q : Value → Shared → Prop} (F : Flo P w s.heap a rows) (lo : (a == sysModules) = false) (hh : A.handled = none) (hu : A.units + 24 < cLine) (hz : rows.length ≤ 100000)
    (hk : ∀ r ∈ rows, ∃ as, Reads s.heap (.ref r.2) (encF r.1) as) (hR : ∀ r ∈ rows, R (.ref r.2) r.1)
    (hQ : ∀ (h1 h2 : Heap) (tk : Nat) p (out : Array Value) (c : Nat), (∀ b o, s.heap.get? b = some o → h1.get? b = some o) → (∀ b o, h1.get? b = some o → h2.get? b = some o) → h1.objs.size ≤ p →
      h2.get? p = some (seqObj "list" out c) → EachIs R out.toList (sortF (rows.map (·.1))) → Q (.ref p) { s with heap := h2, toks := tk }) :
    wpAny (model P w) A (call (.builtin "sorted") [.ref a]) Q E s := by
  obtain ⟨es, ep, raw, he, nd⟩ := F
  have hsz : es.size = rows.length := by rw [← Array.length_toList, he, List.length_map]
  have h16 : sizeLine = 16777216 := by first | exact sizeLine_eq | rfl
  refine Calls.call_function_entry kind_sorted plain_sorted entry_sorted (args_sorted1 _) ?_
  unfold Builtin.«sorted»
  refine wpAny_bind (m := checkCount "sorted" 1 1 _) (wpAny_pure ?_)
  refine wpAny_bind (PySem.W.kdu_collect (A := A.in1) (src_raw (P := P) (w := w) (ep := ep) lo) hh raw (by omega) fun h' tk acc hkp hacc => ?_)
  have hal : acc.toList = rows.map fun r => Value.ref r.2 := by
    refine List.ext_getElem? fun j => ?_
    have hlen : acc.toList.length = rows.length := by rw [Array.length_toList, hacc.1, hsz]
    by_cases hj : j < rows.length
    · rw [List.getElem?_map, List.getElem?_eq_getElem hj, List.getElem?_eq_getElem (by omega)]
      obtain ⟨hi, e⟩ := hacc.2 j (acc.toList[j]'(by omega)) (by rw [← Array.getElem?_toList, List.getElem?_eq_getElem (by omega)])
      have e2 : es[j] = entryOfKey (nestedKind P w) (rowH rows[j]) := by
        have q : es.toList[j]? = some es[j] := by rw [Array.getElem?_toList, Array.getElem?_eq_getElem hi]
        rw [he, List.getElem?_map, List.getElem?_eq_getElem hj] at q
        exact (Option.some.inj q).symm
      rw [e, e2]
      rfl
    · rw [List.getElem?_eq_none (by omega), List.getElem?_eq_none (by rw [List.length_map]; omega)]
  have each : ∀ {R' : Value → Fl → Prop}, (∀ r ∈ rows, R' (.ref r.2) r.1) → EachIs R' acc.toList (rows.map (·.1)) := fun {R'} hr => by
    rw [hal]
    clear he nd hsz hz hk hR hacc hal hQ
    induction rows with
    | nil => exact .nil
    | cons r rs ih => exact .cons (hr r List.mem_cons_self) (ih fun q hq => hr q (List.mem_cons_of_mem _ hq))
  have hL : acc.toList.length = rows.length := by rw [hal, List.length_map]
  refine wpAny_bind (wpAny_newList ?_ (by rw [hL]; omega))
  show wpAny _ _ _ _ _ { s with heap := h'.push (seqObj "list" acc.toList.toArray 0), toks := tk }
  have hoL : (h'.push (seqObj "list" acc.toList.toArray 0)).get? h'.objs.size = some (seqObj "list" acc.toList.toArray 0) := Heap.get?_push_size _ rfl
  have hin := in1_units A
  refine wpAny_bind (wpAny_holding (list_sort_flows (s := { s with heap := h'.push (seqObj "list" acc.toList.toArray 0), toks := tk }) hoL (each hR) (each fun r hr => ?_) (by rw [List.length_map]; omega) (by omega) fun out a1 a2 => ?_))
  · obtain ⟨as, q⟩ := hk r hr
    exact ⟨as, PyProof.Rows.Reads.keeps (fun b o e => Heap.get?_push_of_some _ (hkp b o e)) q⟩
  · obtain ⟨c, hc⟩ := sortedHeap_at (vs := acc.toList) (out := out.toArray) hoL
    refine wpAny_pure ⟨_, rfl, hQ h' _ tk h'.objs.size out.toArray c hkp (fun b u q => ?_) (Nat.le_refl _) hc a2⟩
    have hlt := Heap.lt_size q
    show (sortedHeap (h'.push (seqObj "list" acc.toList.toArray 0)) h'.objs.size acc.toList out.toArray).get? b = some u
    rw [sortedHeap_old (Nat.ne_of_lt hlt) (by rw [size_push']; exact Nat.lt_succ_of_lt hlt)]
    exact Heap.get?_push_of_some _ q
end
end Fn
/-! ### flows: the rules -/
namespace Fn
open PySem PySem.Spec PyProof.Rows L2 Fw
open PySem.W (EachIs dataLe KdlSrc)
def KeysIn (H : Hp) (rows : List Row) : Prop := ∀ r ∈ rows, Dr H (.ref r.2) (encF r.1)
theorem drG_upd {H : Hp} {a : Addr} {o : HO} (ha : ∀ us, ¬ Tp H a us) : ∀ {t : Tg} {v : V}, Dr H v (encG t) → Dr (upd H a o) v (encG t)
  | .nm y, _, .tup h1 h2 => by
    have ne : ∀ {b us}, Tp H b us → Tp (upd H a o) b us := fun {b us} hb => by
      obtain ⟨ob, h1, h2⟩ := hb
      exact ⟨ob, by rw [upd_ne (fun e : b = a => by subst e; exact ha us ⟨ob, h1, h2⟩)]; exact h1, h2⟩
    cases h2 with
    | cons r1 r =>
      cases r with
      | cons r2 r3 =>
        cases r1; cases r2; cases r3
        exact .tup (ne h1) (.cons (.str _) (.cons (.str _) .nil))
  | .pg i, _, .tup h1 h2 => by
    have ne : ∀ {b us}, Tp H b us → Tp (upd H a o) b us := fun {b us} hb => by
      obtain ⟨ob, h1, h2⟩ := hb
      exact ⟨ob, by rw [upd_ne (fun e : b = a => by subst e; exact ha us ⟨ob, h1, h2⟩)]; exact h1, h2⟩
    cases h2 with
    | cons r1 r =>
      cases r with
      | cons r2 r3 =>
        cases r1; cases r2; cases r3
        exact .tup (ne h1) (.cons (.str _) (.cons (.int _) .nil))
theorem drF_upd {H : Hp} {a : Addr} {o : HO} (ha : ∀ us, ¬ Tp H a us) {f : Fl} {v : V} : Dr H v (encF f) → Dr (upd H a o) v (encF f)
  | .tup h1 h2 => by
    have ne : ∀ {b us}, Tp H b us → Tp (upd H a o) b us := fun {b us} hb => by
      obtain ⟨ob, h1, h2⟩ := hb
      exact ⟨ob, by rw [upd_ne (fun e : b = a => by subst e; exact ha us ⟨ob, h1, h2⟩)]; exact h1, h2⟩
    cases h2 with
    | cons r1 r =>
      cases r with
      | cons r2 r3 =>
        cases r1; cases r3
        exact .tup (ne h1) (.cons (.str _) (.cons (drG_upd ha r2) .nil))
theorem KeysIn.up {H H' : Hp} {rows : List Row} (k : KeysIn H rows) (s : Same H H') : KeysIn H' rows := fun r hr => (k r hr).up s
theorem flo_notup {P : Program} {w : World} {H : Hp} {a : Addr} {rows : List Row} (h : H a = some (FloO P w a rows)) : ∀ us, ¬ Tp H a us := fun us ⟨o, h1, _⟩ => by
  rw [h] at h1
  cases h1
/-- behind found[f] = True -/
theorem KeysIn.put {P : Program} {w : World} {H : Hp} {a t : Addr} {rows : List Row} {f : Fl} (k : KeysIn H rows) (h : H a = some (FloO P w a rows)) (hf : Dr H (.ref t) (encF f)) : KeysIn (upd H a (FloO P w a (putF rows f t))) (putF rows f t) := fun r hr => by
  refine drF_upd (flo_notup h) ?_
  unfold putF at hr
  split at hr
  · exact k r hr
  · rcases List.mem_append.mp hr with q | q
    · exact k r q
    · rw [List.mem_singleton] at q
      subst q
      exact hf
/-- {} -/
def tFNew (P : Program) (w : World) : TE := fun _ H Q => ∀ p, H p = none → Q (.ref p) (upd H p (FloO P w p []))
/-- found[f] = True -/
def sFPut (P : Program) (w : World) (td ty tv : TE) : TS := fun D σ H => tv σ H fun v H1 => td σ H1 fun x H2 => ty σ H2 fun y H3 => ∃ (a t : Addr) (rows : List Row) (f : Fl), x = .ref a ∧ y = .ref t ∧ v = .bl true ∧ H3 a = some (FloO P w a rows) ∧ KeysIn H3 rows ∧ Dr H3 (.ref t) (encF f) ∧ rows.length ≤ 100000 ∧
  D.nx σ (upd H3 a (FloO P w a (putF rows f t)))
def rSortFlo (P : Program) (w : World) : List V → Hp → VK → Prop := fun vs H Q => ∃ (a : Addr) (rows : List Row) (G : Hp), vs = [.ref a] ∧ Same G H ∧ H a = some (FloO P w a rows) ∧ KeysIn G rows ∧ rows.length ≤ 100000 ∧
  ∀ p us, H p = none → DrAll G us ((sortF (rows.map (·.1))).map encF) → Q (.ref p) (upd H p (.lst us))
section
variable {X : Cx} {pos pos' : Pos} {o i value : Expr} {td ty tv : TE}
theorem pe_fnew : PE X (.Dict [] [] pos) (tFNew X.prog X.w) := ⟨fun pins s σ H Q I h =>
  wpAny_Dict_empty ⟨.ref s.heap.objs.size, _, I.laid (a := s.heap.objs.size) (o := FloO X.prog X.w s.heap.objs.size []) (t' := s.toks) (fun _ _ q => Heap.get?_push_of_some _ q) (Nat.le_refl _) (floO_new (flo_empty s.heap) (beq_eq_false_iff_ne.mpr (Nat.ne_of_gt I.big))), rfl, h _ (I.hok.fresh (Nat.le_refl _))⟩⟩
theorem reads_of {pins : List (Addr × Obj)} {σ : L2.St} {H : Hp} {s : Shared} (I : L2.Inv X pins σ H s) {t : Addr} {f : Fl} (h : Dr H (.ref t) (encF f)) : ∃ as, Reads s.heap (.ref t) (encF f) as := Dp.reads I _ _ _ h.dp rfl
theorem ps_fput (hu : X.A.units + 32 < cLine) (ho : PE X o td) (hi : PE X i ty) (hv : PE X value tv) (hs : swapsWith value (some (.Subscript o i pos')) pos.line X.env = pure false) :
    PS X (.Assign [.Subscript o i pos'] value pos) (sFPut X.prog X.w td ty tv) := by
  refine ⟨fun pins s σ H D I h => ?_⟩
  refine wpAny_Assign_Subscript (thn (hv.run pins s σ H _ I h) fun r s1 ⟨v, H1, I1, rv, q1⟩ => thn (ho.run pins s1 σ H1 _ I1 q1) fun u s2 ⟨x, H2, I2, rx, q2⟩ => thn (hi.run pins s2 σ H2 _ I2 q2) fun iv s3 ⟨y, H3, I3, ry, a, t, rows, f, ex, ey, ev, ha, hk, hf, hz, q3⟩ => ?_) hs
  subst ex ey ev
  obtain rfl : u = Value.ref a := rx
  obtain rfl : iv = Value.ref t := ry
  obtain rfl : r = Value.bool true := rv
  have F : Flo X.prog X.w s3.heap a rows ∧ (a == sysModules) = false := (I3.hok a _ ha).1
  obtain ⟨as, rf⟩ := reads_of I3 hf
  have hin := in1_units X.A
  have h16 : sizeLine = 16777216 := by first | exact sizeLine_eq | rfl
  refine wpAny_setItem_heap (knd := nestedKind X.prog X.w) (k := keyF f) (show X.A.in1.units + 8 < cLine by omega) ⟨reads_keyF rf, by have := depth_keyF f; omega⟩ (F.1.dict fun r hr => by
    obtain ⟨as, q⟩ := reads_of I3 (hk r hr)
    exact reads_keyF q) (fun h' D' sb => ?_) (by rw [List.length_map]; omega)
  rw [stored_row] at D'
  have new := flo_of D'
  refine ⟨σ, _, I3.write (e := a) (t' := _) (by rw [ha]; trivial) (.inl rfl) (fun b u hb hu => (sb.2 b hb).trans hu) ?_ (floO_new new F.2), q3⟩
  have ⟨_, _, ⟨o, ho, _⟩, _⟩ := new
  exact ⟨o, ho⟩
theorem cr_sortFlo (hc : X.calm = true) (hu : X.A.units + 100 < cLine) : CallR X (.builtin "sorted") (rSortFlo X.prog X.w) := by
  intro pins s σ H vs us Q I r h
  obtain ⟨a, rows, G, rfl, sG, ha, hk, hz, q⟩ := h
  have F : Flo X.prog X.w s.heap a rows ∧ (a == sysModules) = false := (I.hok a _ ha).1
  rw [Vals.ref1 r]
  have h16 : sizeLine = 16777216 := by first | exact sizeLine_eq | rfl
  refine sorted_flo (R := fun u f => ∃ v, RelV v u ∧ Dr G v (encF f)) F.1 F.2 (I.ok.hd hc) (by omega) hz (fun r hr => reads_of I ((hk r hr).up sG)) (fun r hr => ⟨.ref r.2, rfl, hk r hr⟩) fun h1 h2 tk p out c k1 k2 hp hg he => ?_
  obtain ⟨ws, w1, w2⟩ := vals_each (PySem.W.each_map (R := fun u d => ∃ v, RelV v u ∧ Dr G v d) encF he)
  have I1 : L2.Inv X pins σ H { s with heap := h1, toks := tk } := I.kept k1
  have hlen : ws.length ≤ sizeLine := by
    have e : ws.length = rows.length := by
      rw [w2.len, List.length_map]
      show (sortF (rows.map (·.1))).length = _
      unfold sortF
      rw [List.length_mergeSort, List.length_map]
    omega
  have J : L2.Inv X pins σ (upd H p (.lst ws)) { s with heap := h2, toks := tk } := I1.laid (t' := tk) k2 hp (show ObjOk X.prog X.w _ _ _ (.lst ws) from ⟨hlen, out.toList, c, w1, hg⟩)
  exact ⟨.ref p, _, J, rfl, q p ws (I1.hok.fresh hp) w2⟩
end
end Fn
/-! ### flows of a program -/
namespace Wk
open PySem PySem.Spec L2 Fw Fn
mutual
def gaD (ar : List Str) : Dd → List Fl
  | .put x t => (ar ++ t.names).map fun n => (n, Tg.nm x)
  | .shw l t => (ar ++ t.names).map fun n => (n, Tg.pg l)
  | .ite t a b => gaL (ar ++ t.names) a ++ gaL (ar ++ t.names) b
  | .whl t a => (ar ++ t.names).map (fun n => (n, Tg.pg 0)) ++ gaL ar a
def gaL (ar : List Str) : List Dd → List Fl
  | [] => []
  | d :: r => gaD ar d ++ gaL ar r
end
theorem gaL_app (ar : List Str) : ∀ a b : List Dd, gaL ar (a ++ b) = gaL ar a ++ gaL ar b
  | [], b => by rw [gaL]; rfl
  | d :: a, b => by rw [List.cons_append, gaL, gaL, gaL_app ar a b, List.append_assoc]
theorem ga_next {ar : List Str} {b : List Dd} {i : Nat} {e : Dd} (h : b[i]? = some e) : gaL ar (b.take (i + 1)) = gaL ar (b.take i) ++ gaD ar e := by
  rw [List.take_add_one, h, gaL_app]
  show _ ++ gaL ar [e] = _
  rw [gaL, gaL, List.append_nil]
theorem ga_rest {ar : List Str} {b : List Dd} {i : Nat} {e : Dd} (h : b[i]? = some e) : (gaL ar (b.take i)).length + (gaD ar e).length ≤ (gaL ar b).length := by
  rw [← List.length_append, ← ga_next h]
  have q : gaL ar b = gaL ar (b.take (i + 1)) ++ gaL ar (b.drop (i + 1)) := by rw [← gaL_app, List.take_append_drop]
  rw [q, List.length_append]
  omega
def in1F (ks : List Fl) (f : Fl) : List Fl := if f ∈ ks then ks else ks ++ [f]
def insF (ks fs : List Fl) : List Fl := fs.foldl in1F ks
theorem insF_app (ks a b : List Fl) : insF ks (a ++ b) = insF (insF ks a) b := List.foldl_append ..
theorem insF_len : ∀ (fs ks : List Fl), (insF ks fs).length ≤ ks.length + fs.length
  | [], ks => Nat.le_refl _
  | f :: fs, ks => by
    have h := insF_len fs (in1F ks f)
    have h1 : (in1F ks f).length ≤ ks.length + 1 := by
      unfold in1F
      split
      · omega
      · rw [List.length_append]; exact Nat.le_refl _
    show (insF (in1F ks f) fs).length ≤ _
    rw [List.length_cons]
    omega
theorem mem_insF {x : Fl} : ∀ {fs ks : List Fl}, x ∈ insF ks fs ↔ x ∈ ks ∨ x ∈ fs
  | [], ks => ⟨.inl, fun h => h.elim id fun q => by cases q⟩
  | f :: fs, ks => by
    have h : x ∈ insF ks (f :: fs) ↔ x ∈ in1F ks f ∨ x ∈ fs := mem_insF (fs := fs) (ks := in1F ks f)
    rw [h, List.mem_cons]
    unfold in1F
    split
    · rename_i hf
      exact ⟨fun q => q.elim .inl fun q => .inr (.inr q), fun q => q.elim .inl fun q => q.elim (fun e => .inl (e ▸ hf)) .inr⟩
    · rw [List.mem_append, List.mem_singleton, or_assoc]
theorem insF_nodup : ∀ {fs ks : List Fl}, ks.Nodup → (insF ks fs).Nodup
  | [], ks, h => h
  | f :: fs, ks, h => by
    refine insF_nodup (fs := fs) (ks := in1F ks f) ?_
    unfold in1F
    split
    · exact h
    · rename_i hf
      exact List.nodup_append.mpr ⟨h, List.nodup_cons.mpr ⟨by simp, List.nodup_nil⟩, fun a ha b hb e => by
        rw [List.mem_singleton] at hb
        subst e hb
        exact hf ha⟩
theorem put_map (rows : List Fn.Row) (f : Fl) (t : Addr) : (Fn.putF rows f t).map (·.1) = in1F (rows.map (·.1)) f := by
  unfold Fn.putF in1F
  split
  · rfl
  · rw [List.map_append]
    rfl
end Wk
namespace Fw
open PySem PySem.Spec L2 Wk Fn
section
variable {K : PySem.W.Frag} {G0 H0 G H G' H' : Hp} {σ : St} {Γ Γ1 : List Ds}
def noOwn (Γ : List Ds) : Bool := Γ.all fun D => !isOwn D
theorem En.lift (E : En K G0 H0 G H σ Γ) (hn : noOwn Γ = true) (sg : Same G G') (s : Same G' H') : En K G' H' G' H' σ Γ := by
  refine ⟨⟨Same.refl _, Same.refl _, s, fun _ _ h => h⟩, E.l, fun i D h => ?_, E.ap⟩
  obtain ⟨ov, h1, h2⟩ := E.ok i D h
  refine ⟨ov, h1, ?_⟩
  have hD : isOwn D = false := by
    have := List.all_eq_true.mp hn D (List.mem_of_getElem? h)
    simpa using this
  cases D with
  | any => trivial
  | dat d => obtain ⟨v, e1, e2⟩ := h2; exact ⟨v, e1, e2.up sg⟩
  | dic l => obtain ⟨b, e1, e2⟩ := h2; exact ⟨b, e1, sg _ _ e2⟩
  | scr ns => obtain ⟨b, e1, e2⟩ := h2; exact ⟨b, e1, sg.seq e2⟩
  | val v => exact h2
  | own ds => cases hD
  | ownD l => cases hD
  | fix v Gx => exact ⟨h2.1, h2.2.trans sg⟩
theorem En.rebase (E : En K G0 H0 G H σ Γ) (hn : noOwn Γ = true) (s : Same G H') : En K G H' G H' σ Γ := E.lift hn (Same.refl _) s
/-- grown, but for what stands at a -/
structure ExtA (a : Addr) (G H G' H' : Hp) : Prop where
  g : Same G G'
  h : ∀ q u, q ≠ a → H q = some u → H' q = some u
  i : Same G' H'
  n : ∀ q, H q ≠ none → G q = none → G' q = none
theorem ExtA.of {a : Addr} (e : Ext G H G' H') : ExtA a G H G' H' := ⟨e.g, fun q u _ h => e.h q u h, e.i, e.n⟩
theorem ExtA.refl {a : Addr} (s : Same G H) : ExtA a G H G H := ⟨Same.refl _, fun _ _ _ h => h, s, fun _ _ h => h⟩
theorem ExtA.trans {a : Addr} {G1 H1 G2 H2 : Hp} (x : ExtA a G H G1 H1) (y : ExtA a G1 H1 G2 H2) (ha : H1 a ≠ none) : ExtA a G H G2 H2 :=
  ⟨x.g.trans y.g, fun q u hq h => y.h q u hq (x.h q u hq h), y.i, fun q h1 h2 => y.n q (by
    by_cases e : q = a
    · subst e; exact ha
    · cases c : H q with
      | none => exact absurd c h1
      | some u => rw [x.h q u e c]; simp) (x.n q h1 h2)⟩
/-- the frame, and the dict of flows that stands at a -/
structure GLive (P : Program) (w : World) (K : PySem.W.Frag) (Gc Hc : Hp) (a : Addr) (σ : St) (Γ : List Ds) (G H : Hp) (rows : List Fn.Row) : Prop where
  E : En K G H G H σ Γ
  no : noOwn Γ = true
  x : ExtA a Gc Hc G H
  at_ : H a = some (FloO P w a rows)
  out : G a = none
  ks : KeysIn G rows
variable {P : Program} {w : World} {Gc Hc : Hp} {a : Addr} {rows : List Fn.Row}
theorem GLive.nn (L : GLive P w K Gc Hc a σ Γ G H rows) : H a ≠ none := by rw [L.at_]; simp
theorem GLive.up (L : GLive P w K Gc Hc a σ Γ G H rows) (e : Ext G H G' H') : GLive P w K Gc Hc a σ Γ G' H' rows :=
  ⟨(L.E.up e).rebase L.no e.i, L.no, L.x.trans (.of e) L.nn, e.h _ _ L.at_, e.n _ L.nn L.out, L.ks.up e.g⟩
theorem GLive.sub (L : GLive P w K Gc Hc a σ Γ G H rows) (h : Sub Γ Γ1) (hn : noOwn Γ1 = true) : GLive P w K Gc Hc a σ Γ1 G H rows := ⟨L.E.sub h, hn, L.x, L.at_, L.out, L.ks⟩
theorem gl_do {ts : TS} {D : Ends} (L : GLive P w K Gc Hc a σ Γ G H rows) (h : Do K ts Γ (some Γ1) fun _ => False) (hn : noOwn Γ1 = true) (k : ∀ σ' G' H', GLive P w K Gc Hc a σ' Γ1 G' H' rows → D.nx σ' H') : ts D σ H :=
  h G H G H σ D L.E (fun Γn e σ' G' H' E' => by
    cases e
    exact k σ' G' H' ⟨E'.rebase hn E'.x.i, hn, L.x.trans (.of E'.x) L.nn, E'.x.h _ _ L.at_, E'.x.n _ L.nn L.out, L.ks.up E'.x.g⟩) fun x v G' H' r => r.elim
theorem gl_yes {c : TT} {ts tv : TS} {D : Ends} (L : GLive P w K Gc Hc a σ Γ G H rows) (hc : EvT K c Γ true) (k : ∀ G' H', GLive P w K Gc Hc a σ Γ G' H' rows → ts D σ H') : tIfS c ts tv D σ H := hc G H G H σ L.E _ fun G' H' e => k G' H' (L.up e)
theorem gl_no {c : TT} {ts tv : TS} {D : Ends} (L : GLive P w K Gc Hc a σ Γ G H rows) (hc : EvT K c Γ false) (k : ∀ G' H', GLive P w K Gc Hc a σ Γ G' H' rows → tv D σ H') : tIfS c ts tv D σ H := hc G H G H σ L.E _ fun G' H' e => k G' H' (L.up e)
theorem gl_seq {ts tz : TS} {D : Ends} (h : ts { D with nx := tz D } σ H) : tSeq ts tz D σ H := h
theorem gl_put {i j k : Nat} {x : Str} {t : Tg} {D : Ends} (L : GLive P w K Gc Hc a σ Γ G H rows) (hi : Γ[i]? = some (.val (.ref a))) (hj : Γ[j]? = some (.dat (.str x))) (hk : Γ[k]? = some (.dat (encG t))) (hz : rows.length ≤ 100000)
    (q : ∀ G' H' rows', GLive P w K Gc Hc a σ Γ G' H' rows' → rows'.map (·.1) = in1F (rows.map (·.1)) (x, t) → D.nx σ H') : sFPut P w (tVar i) (tTupF (tCons (tVar j) (tCons (tVar k) tNil))) (tC (.bl true)) D σ H := by
  obtain ⟨ov, h1, h2⟩ := L.E.ok i _ hi
  refine ⟨_, by rw [h1, h2], (show Ev K (tTupF (tCons (tVar j) (tCons (tVar k) tNil))) Γ (.dat (encF (x, t))) from ev_tup (evd_cons (ev_var hj rfl) (evd_cons (ev_var hk rfl) evd_nil)) rfl) G H G H σ L.E _ fun y G3 H3 e3 hy => ?_⟩
  have L3 := L.up e3
  have hy : Dr G3 y (encF (x, t)) := hy
  obtain ⟨b, rfl⟩ : ∃ b, y = .ref b := by
    unfold encF at hy
    cases hy with
    | tup h1 h2 => exact ⟨_, rfl⟩
  refine ⟨a, b, rows, (x, t), rfl, rfl, rfl, L3.at_, L3.ks.up L3.E.s, hy.up e3.i, hz, ?_⟩
  have s3 : Same G3 (upd H3 a (FloO P w a (Fn.putF rows (x, t) b))) := same_out L3.E.s L3.out
  refine q G3 _ (Fn.putF rows (x, t) b) ⟨L3.E.rebase L3.no s3, L3.no, L3.x.trans ⟨Same.refl _, fun q u hq h => by rw [upd_ne hq]; exact h, s3, fun _ _ h => h⟩ L3.nn, upd_same, L3.out, fun r hr => ?_⟩ (put_map _ _ _)
  unfold Fn.putF at hr
  split at hr
  · exact L3.ks r hr
  · rcases List.mem_append.mp hr with q | q
    · exact L3.ks r q
    · rw [List.mem_singleton] at q
      subst q
      exact hy
theorem gl_for {wi : TI} {g : TG} {ts : TS} {D : Ends} {ds : List PyData} (L : GLive P w K Gc Hc a σ Γ G H rows) (I : Nat → List Ds) (Rw : Nat → List Fn.Row → Prop) (hi : EvI K RvD wi Γ ds) (h0 : Sub Γ (I 0)) (hno : ∀ i, noOwn (I i) = true) (r0 : Rw 0 rows)
    (hs : ∀ (i : Nat) (d : PyData), ds[i]? = some d → ∃ js Γ1, EvG K RvD g (I i) d js Γ1 ∧ noOwn Γ1 = true ∧ ∀ (Gc2 Hc2 : Hp) σ' G' H' rows' (D' : Ends), Rw i rows' → GLive P w K Gc2 Hc2 a σ' Γ1 G' H' rows' →
      (∀ σ2 G2 H2 rows2, GLive P w K Gc2 Hc2 a σ2 (I (i + 1)) G2 H2 rows2 → Rw (i + 1) rows2 → D'.nx σ2 H2) → ts D' σ' H')
    (hd : ∀ σ' G' H' rows', GLive P w K Gc Hc a σ' (I ds.length) G' H' rows' → Rw ds.length rows' → D.nx σ' H') : tFor wi g ts D σ H := hi G H G H σ L.E _ fun J G1 H1 e1 w' => by
  have La := L.up e1
  have L1 : GLive P w K G1 H1 a σ (I 0) G1 H1 rows := ⟨(La.E.sub h0), hno 0, .refl La.E.s, La.at_, La.out, La.ks⟩
  refine for_it w' (fun i σ' H' => ∃ G' rows', GLive P w K G1 H1 a σ' (I i) G' H' rows' ∧ Rw i rows') ⟨G1, rows, L1, r0⟩ ?_ ?_ ?_
  · rintro i σ' H' _ ⟨G', rows', L', _⟩
    exact L'.x.g.trans L'.E.s
  · rintro i x σ' H' H'' hil ⟨G', rows', L', r'⟩ y
    obtain ⟨G2, d, e3, hd', hx⟩ := y G' L'.x.g L'.E.s
    obtain ⟨js, Γ1, k1, kn, k2⟩ := hs i d hd'
    have L2 := L'.up e3
    refine k1 G2 H'' G2 H'' σ' x L2.E hx _ fun σ2 E2 _ => k2 G1 H1 σ2 G2 H'' rows' _ r' ⟨E2, kn, L2.x, L2.at_, L2.out, L2.ks⟩ fun σ3 G3 H3 rows3 L3 r3 => ⟨G3, rows3, L3, r3⟩
  · rintro σ' H' ⟨G', rows', L', r'⟩
    exact hd σ' G' H' rows' ⟨L'.E, L'.no, La.x.trans L'.x La.nn, L'.at_, L'.out, L'.ks⟩ r'
end
end Fw
namespace Wk
open PySem PySem.Spec L2 Fw Fn
/-- gather(.., .., found) -/
def spGa (P : Program) (w : World) (n : Nat) : Sp := fun vs H Q _ => ∃ (ds : List Dd) (ar : List Str) (v va : V) (a : Addr) (rows : List Fn.Row) (G : Hp), vs = [v, va, .ref a] ∧ Same G H ∧ Dr G v (encB ds) ∧ Dr G va (.list (ar.map .str)) ∧ G a = none ∧ H a = some (FloO P w a rows) ∧ KeysIn G rows ∧
  depthL ds < n ∧ tdepL ds ≤ 2 ∧ ar.length + 4 * n ≤ 1000 ∧ rows.length + (gaL ar ds).length ≤ 100000 ∧
  ∀ G' H' rows', ExtA a G H G' H' → H' a = some (FloO P w a rows') → G' a = none → KeysIn G' rows' → rows'.map (·.1) = insF (rows.map (·.1)) (gaL ar ds) → Q .non H'
section
variable {K : PySem.W.Frag} {G H : Hp} {σ : St} {Γ : List Ds} {P : Program} {w : World} {Gc Hc : Hp} {a : Addr} {rows : List Fn.Row}
theorem gl_callE {n i : Nat} {te tl : TE} {E : XK} {D : Ends} {ds : List Dd} {ar : List Str} (L : GLive P w K Gc Hc a σ Γ G H rows) (he : Ev K te Γ (.dat (encB ds))) (hj : Ev K tl Γ (.dat (.list (ar.map .str)))) (hi : Γ[i]? = some (.val (.ref a)))
    (h1 : depthL ds < n) (h2 : tdepL ds ≤ 2) (h3 : ar.length + 4 * n ≤ 1000) (h4 : rows.length + (gaL ar ds).length ≤ 100000)
    (q : ∀ G' H' rows', GLive P w K Gc Hc a σ Γ G' H' rows' → rows'.map (·.1) = insF (rows.map (·.1)) (gaL ar ds) → D.nx σ H') : tDrop (tCall (spGa P w n) [] E (tCons te (tCons tl (tCons (tVar i) tNil)))) D σ H :=
  he G H G H σ L.E _ fun v G1 H1 e1 hv => (hj G1 H1 G1 H1 σ (L.up e1).E _ fun va G2 H2 e2 hva => by
    have L2 := (L.up e1).up e2
    obtain ⟨ou, u1, u2⟩ := L2.E.ok i _ hi
    refine ⟨_, by rw [u1, u2], ds, ar, v, va, a, rows, G2, rfl, L2.E.s, Dr.up hv e2.g, hva, L2.out, L2.at_, L2.ks, h1, h2, h3, h4, fun G' H' rows' x at_ out ks hr => ?_⟩
    exact q G' H' rows' ⟨L2.E.lift L2.no x.g x.i, L2.no, L2.x.trans x L2.nn, at_, out, ks⟩ hr)
end
end Wk
namespace Fw
open PySem PySem.Spec L2
theorem hu32 {k : Nat} {A : Around} (r : Room k A) : A.units + 32 < cLine := by
  have := hu100 r
  omega
end Fw
namespace Wk
open PySem PySem.Spec L2 Fw Fn
def flowsS (b : List Dd) : List Fl := sortF (insF [] (gaL [] b))
theorem mem_flows {f : Fl} {b : List Dd} : f ∈ flowsS b ↔ f ∈ gaL [] b := by
  have h : f ∈ flowsS b ↔ f ∈ insF [] (gaL [] b) := (List.mergeSort_perm _ _).mem_iff
  rw [h, mem_insF]
  exact ⟨fun q => q.elim (fun z => by cases z) id, .inr⟩
def lvG (lv : Str → Int) : Tg → Int
  | .nm y => lv y
  | .pg i => i
def letsB (lv : Str → Int) (b : List Dd) : Bool := (flowsS b).all fun f => decide (lv f.1 ≤ lvG lv f.2)
theorem lets_iff {lv : Str → Int} {b : List Dd} : letsB lv b = true ↔ ∀ f ∈ gaL [] b, lv f.1 ≤ lvG lv f.2 := by
  unfold letsB
  rw [List.all_eq_true]
  exact ⟨fun h f hf => of_decide_eq_true (h f (mem_flows.mpr hf)), fun h f hf => decide_eq_true (h f (mem_flows.mp hf))⟩
structure GaOk (n : Nat) (b : List Dd) : Prop where
  dp : depthL b < n
  td : tdepL b ≤ 2
  n : 4 * n ≤ 1000
  z : (gaL [] b).length ≤ 100000
def PrFlows (n : Nat) : List Ds → PyData → Prop := fun xs d => ∃ b : List Dd, xs = [.dat (encB b)] ∧ GaOk n b ∧ d = .tuple ((flowsS b).map encF)
def PrLvOf : List Ds → PyData → Prop := fun xs d => ∃ (t : Tg) (h : List (Str × Int)), xs = [.dat (encG t), .dic (bk h)] ∧ d = .int (lvG (look h) t)
def PrLets (n : Nat) : List Ds → PyData → Prop := fun xs d => ∃ (b : List Dd) (h : List (Str × Int)), xs = [.dat (encB b), .dat (encS h)] ∧ GaOk n b ∧ Rising h ∧ d = .bool (letsB (look h) b)
end Wk
/-! ### where nothing flows down, nothing is told -/
namespace Wk
open PySem PySem.Spec L2 Fw Fn
theorem valT_cong {f g : Str → Int} : ∀ {t : Tm}, (∀ x ∈ t.names, f x = g x) → valT t f = valT t g
  | .num n, _ => rfl
  | .nam x, h => h x (by simp [Tm.names])
  | .bin op a b, h => by
    have h1 := valT_cong (t := a) fun x hx => h x (by simp only [Tm.names]; exact List.mem_append_left _ hx)
    have h2 := valT_cong (t := b) fun x hx => h x (by simp only [Tm.names]; exact List.mem_append_right _ hx)
    cases op <;> simp only [valT, h1, h2]
/-- alike up to the level k -/
structure Lo (lv : Str → Int) (k : Int) (s s' : Ru) : Prop where
  lk : ∀ x, lv x ≤ k → look s.l x = look s'.l x
  pg : ∀ j, j ≤ k → s.pg j = s'.pg j
  t : s.t = s'.t
section
variable {lv : Str → Int} {k : Int} {m : Nat}
theorem Lo.refl (s : Ru) : Lo lv k s s := ⟨fun _ _ => rfl, fun _ _ => rfl, rfl⟩
theorem Lo.symm {s s' : Ru} (h : Lo lv k s s') : Lo lv k s' s := ⟨fun x hx => (h.lk x hx).symm, fun j hj => (h.pg j hj).symm, h.t.symm⟩
theorem Lo.trans {s s' s'' : Ru} (h : Lo lv k s s') (h' : Lo lv k s' s'') : Lo lv k s s'' := ⟨fun x hx => (h.lk x hx).trans (h'.lk x hx), fun j hj => (h.pg j hj).trans (h'.pg j hj), h.t.trans h'.t⟩
theorem lo_val {s s' : Ru} (h : Lo lv k s s') {t : Tm} (hn : ∀ x ∈ t.names, lv x ≤ k) : valT t (look s.l) = valT t (look s'.l) := valT_cong fun x hx => h.lk x (hn x hx)
def LetD (lv : Str → Int) (ar : List Str) (d : Dd) : Prop := ∀ f ∈ gaD ar d, lv f.1 ≤ lvG lv f.2
def LetL (lv : Str → Int) (ar : List Str) (b : List Dd) : Prop := ∀ f ∈ gaL ar b, lv f.1 ≤ lvG lv f.2
theorem LetL.head {ar : List Str} {d : Dd} {r : List Dd} (h : LetL lv ar (d :: r)) : LetD lv ar d := fun f hf => h f (by rw [gaL]; exact List.mem_append_left _ hf)
theorem LetL.tail {ar : List Str} {d : Dd} {r : List Dd} (h : LetL lv ar (d :: r)) : LetL lv ar r := fun f hf => h f (by rw [gaL]; exact List.mem_append_right _ hf)
mutual
/-- under a high name nothing low is done -/
theorem high_D (h0 : 0 ≤ k) : ∀ (d : Dd) (ar : List Str) (s : Ru) (n : Str), n ∈ ar → k < lv n → LetD lv ar d → (exD m d s).1 = true ∧ Lo lv k s (exD m d s).2
  | .put x t, ar, s, n, hn, hk, h => by
    have hx : lv n ≤ lv x := h (n, .nm x) (by rw [gaD]; exact List.mem_map.mpr ⟨n, List.mem_append_left _ hn, rfl⟩)
    rw [exD]
    refine ⟨rfl, fun y hy => ?_, fun _ _ => rfl, rfl⟩
    show _ = look (dput s.l x _) y
    rw [look_dput, if_neg (fun e => by subst e; omega)]
  | .shw l t, ar, s, n, hn, hk, h => by
    have hx : lv n ≤ l := h (n, .pg l) (by rw [gaD]; exact List.mem_map.mpr ⟨n, List.mem_append_left _ hn, rfl⟩)
    rw [exD]
    refine ⟨rfl, fun _ _ => rfl, fun j hj => ?_, rfl⟩
    show _ = if j = l then _ else _
    rw [if_neg (by omega)]
  | .ite t a b, ar, s, n, hn, hk, h => by
    rw [exD]
    split
    · exact high_L h0 a (ar ++ t.names) s n (List.mem_append_left _ hn) hk fun f hf => h f (by rw [gaD]; exact List.mem_append_left _ hf)
    · exact high_L h0 b (ar ++ t.names) s n (List.mem_append_left _ hn) hk fun f hf => h f (by rw [gaD]; exact List.mem_append_right _ hf)
  | .whl t a, ar, s, n, hn, hk, h => by
    have hx : lv n ≤ 0 := h (n, .pg 0) (by rw [gaD]; exact List.mem_append_left _ (List.mem_map.mpr ⟨n, List.mem_append_left _ hn, rfl⟩))
    omega
theorem high_L (h0 : 0 ≤ k) : ∀ (b : List Dd) (ar : List Str) (s : Ru) (n : Str), n ∈ ar → k < lv n → LetL lv ar b → (exL m b s).1 = true ∧ Lo lv k s (exL m b s).2
  | [], ar, s, n, _, _, _ => by rw [exL]; exact ⟨rfl, .refl s⟩
  | d :: r, ar, s, n, hn, hk, h => by
    obtain ⟨h1, h2⟩ := high_D h0 d ar s n hn hk h.head
    obtain ⟨h3, h4⟩ := high_L h0 r ar (exD m d s).2 n hn hk h.tail
    rw [exL_cons, if_pos h1]
    exact ⟨h3, h2.trans h4⟩
end
def LoR (lv : Str → Int) (k : Int) (r r' : Bool × Ru) : Prop := r.1 = r'.1 ∧ Lo lv k r.2 r'.2
theorem lo_W {t : Tm} {body : Ru → Bool × Ru} (hn : ∀ x ∈ t.names, lv x ≤ k) (hb : ∀ s s', Lo lv k s s' → LoR lv k (body s) (body s')) : ∀ (j : Nat) (s s' : Ru), Lo lv k s s' → LoR lv k (exW m t body j s) (exW m t body j s')
  | 0, s, s', h => by rw [exW, exW]; exact ⟨rfl, h⟩
  | j + 1, s, s', h => by
    rw [exW_step, exW_step, lo_val h hn, h.t]
    by_cases h1 : valT t (look s'.l) = 0
    · rw [if_pos h1, if_pos h1]; exact ⟨rfl, h⟩
    · rw [if_neg h1, if_neg h1]
      by_cases h2 : s'.t = m
      · rw [if_pos h2, if_pos h2]; exact ⟨rfl, h⟩
      · rw [if_neg h2, if_neg h2]
        have q := hb { s with t := s'.t + 1 } { s' with t := s'.t + 1 } ⟨h.lk, h.pg, rfl⟩
        rw [q.1]
        split
        · exact lo_W hn hb j _ _ q.2
        · exact ⟨rfl, q.2⟩
mutual
theorem lo_D (h0 : 0 ≤ k) : ∀ (d : Dd) (ar : List Str) (s s' : Ru), LetD lv ar d → Lo lv k s s' → LoR lv k (exD m d s) (exD m d s')
  | .put x t, ar, s, s', h, hl => by
    rw [exD, exD]
    refine ⟨rfl, fun y hy => ?_, hl.pg, hl.t⟩
    show look (dput s.l x _) y = look (dput s'.l x _) y
    rw [look_dput, look_dput]
    split
    · rename_i e
      subst e
      exact lo_val hl fun n hn => Int.le_trans (h (n, .nm y) (by rw [gaD]; exact List.mem_map.mpr ⟨n, List.mem_append_right _ hn, rfl⟩)) hy
    · exact hl.lk y hy
  | .shw l t, ar, s, s', h, hl => by
    rw [exD, exD]
    refine ⟨rfl, hl.lk, fun j hj => ?_, hl.t⟩
    show (if j = l then s.pg j ++ [_] else s.pg j) = if j = l then s'.pg j ++ [_] else s'.pg j
    rw [hl.pg j hj]
    split
    · rename_i e
      subst e
      rw [lo_val hl fun n hn => Int.le_trans (h (n, .pg j) (by rw [gaD]; exact List.mem_map.mpr ⟨n, List.mem_append_right _ hn, rfl⟩)) hj]
    · rfl
  | .ite t a b, ar, s, s', h, hl => by
    have ha : LetL lv (ar ++ t.names) a := fun f hf => h f (by rw [gaD]; exact List.mem_append_left _ hf)
    have hb : LetL lv (ar ++ t.names) b := fun f hf => h f (by rw [gaD]; exact List.mem_append_right _ hf)
    by_cases hn : ∀ n ∈ t.names, lv n ≤ k
    · rw [exD, exD, lo_val hl hn]
      split
      · exact lo_L h0 a _ s s' ha hl
      · exact lo_L h0 b _ s s' hb hl
    · obtain ⟨n, hn1, hn2⟩ : ∃ n, n ∈ t.names ∧ k < lv n := by
        refine Classical.byContradiction fun hne => hn fun n hm => ?_
        rcases Int.lt_or_le k (lv n) with q | q
        · exact absurd ⟨n, hm, q⟩ hne
        · exact q
      have hm := List.mem_append_right ar hn1
      have high : ∀ s, (exD m (.ite t a b) s).1 = true ∧ Lo lv k s (exD m (.ite t a b) s).2 := fun s => by
        rw [exD]
        split
        · exact high_L h0 a _ s n hm hn2 ha
        · exact high_L h0 b _ s n hm hn2 hb
      exact ⟨(high s).1.trans (high s').1.symm, (high s).2.symm.trans (hl.trans (high s').2)⟩
  | .whl t a, ar, s, s', h, hl => by
    rw [exD, exD]
    refine lo_W (fun n hn => ?_) (fun s s' q => lo_L h0 a ar s s' (fun f hf => h f (by rw [gaD]; exact List.mem_append_right _ hf)) q) _ _ _ hl
    have : lv n ≤ 0 := h (n, .pg 0) (by rw [gaD]; exact List.mem_append_left _ (List.mem_map.mpr ⟨n, List.mem_append_right _ hn, rfl⟩))
    omega
theorem lo_L (h0 : 0 ≤ k) : ∀ (b : List Dd) (ar : List Str) (s s' : Ru), LetL lv ar b → Lo lv k s s' → LoR lv k (exL m b s) (exL m b s')
  | [], ar, s, s', _, hl => by rw [exL, exL]; exact ⟨rfl, hl⟩
  | d :: r, ar, s, s', h, hl => by
    have q := lo_D h0 d ar s s' h.head hl
    rw [exL_cons, exL_cons, q.1]
    split
    · exact lo_L h0 r ar _ _ h.tail q.2
    · exact ⟨rfl, q.2⟩
end
/-- the law of kept secrets, plain -/
theorem kept {b : List Dd} {l l' : List (Str × Int)} (h0 : 0 ≤ k) (h : letsB lv b = true) (hl : ∀ x, lv x ≤ k → look l x = look l' x) :
    runT m b l = runT m b l' ∧ (∀ j, j ≤ k → (runR m b l).pg j = (runR m b l').pg j) ∧ ∀ x, lv x ≤ k → look (runR m b l).l x = look (runR m b l').l x := by
  have q := lo_L (m := m) h0 b [] (start0 l) (start0 l') (lets_iff.mp h) ⟨hl, fun _ _ => rfl, rfl⟩
  refine ⟨?_, q.2.pg, q.2.lk⟩
  unfold runT
  rw [q.1, q.2.t]
/-- what is left under low names -/
theorem left_low {l l' : List (Str × Int)} (nd : (l.map (·.1)).Nodup) (nd' : (l'.map (·.1)).Nodup) (h : ∀ x, lv x ≤ k → look l x = look l' x) :
    (leftOf l).filter (fun p => decide (lv p.1 ≤ k)) = (leftOf l').filter (fun p => decide (lv p.1 ≤ k)) := by
  have r1 : Rising ((leftOf l).filter (fun p => decide (lv p.1 ≤ k))) := (leftOf_rising nd).sublist List.filter_sublist
  have r2 : Rising ((leftOf l').filter (fun p => decide (lv p.1 ≤ k))) := (leftOf_rising nd').sublist List.filter_sublist
  refine rising_ext r1 r2 fun p => ?_
  obtain ⟨x, v⟩ := p
  rw [List.mem_filter, List.mem_filter, mem_leftOf, mem_leftOf]
  constructor
  · rintro ⟨⟨h1, h2⟩, h3⟩
    exact ⟨⟨by rw [← h x (of_decide_eq_true h3)]; exact h1, h2⟩, h3⟩
  · rintro ⟨⟨h1, h2⟩, h3⟩
    exact ⟨⟨by rw [h x (of_decide_eq_true h3)]; exact h1, h2⟩, h3⟩
end
end Wk
/-! ### what is seen needs no more -/
namespace Wk
open PySem PySem.Spec L2 Fw Fn
/-- s' has what s has up to the level k, and nothing above -/
structure Cu (lv : Str → Int) (k : Int) (s s' : Ru) : Prop where
  lk : ∀ x, lv x ≤ k → look s.l x = look s'.l x
  hi : ∀ x, k < lv x → look s'.l x = 0
  pg : ∀ j, j ≤ k → s.pg j = s'.pg j
  no : ∀ j, k < j → s'.pg j = []
  t : s.t = s'.t
section
variable {lv : Str → Int} {k : Int} {m : Nat}
theorem Cu.low {s s2 s' : Ru} (h : Cu lv k s s') (l : Lo lv k s s2) : Cu lv k s2 s' :=
  ⟨fun x hx => (l.lk x hx).symm.trans (h.lk x hx), h.hi, fun j hj => (l.pg j hj).symm.trans (h.pg j hj), h.no, l.t.symm.trans h.t⟩
theorem cu_val {s s' : Ru} (h : Cu lv k s s') {t : Tm} (hn : ∀ x ∈ t.names, lv x ≤ k) : valT t (look s.l) = valT t (look s'.l) := valT_cong fun x hx => h.lk x (hn x hx)
def CuR (lv : Str → Int) (k : Int) (r r' : Bool × Ru) : Prop := r.1 = r'.1 ∧ Cu lv k r.2 r'.2
theorem exL_one {d : Dd} {s : Ru} : exL m [d] s = exD m d s := by
  rw [exL_cons]
  split
  · rename_i h
    rw [exL_nil]
    exact Prod.ext h.symm rfl
  · rename_i h
    exact Prod.ext (by simpa using h) rfl
theorem cu_W {t : Tm} {body body' : Ru → Bool × Ru} (hn : ∀ x ∈ t.names, lv x ≤ k) (hb : ∀ s s', Cu lv k s s' → CuR lv k (body s) (body' s')) : ∀ (j : Nat) (s s' : Ru), Cu lv k s s' → CuR lv k (exW m t body j s) (exW m t body' j s')
  | 0, s, s', h => by rw [exW, exW]; exact ⟨rfl, h⟩
  | j + 1, s, s', h => by
    rw [exW_step, exW_step, cu_val h hn, h.t]
    by_cases h1 : valT t (look s'.l) = 0
    · rw [if_pos h1, if_pos h1]; exact ⟨rfl, h⟩
    · rw [if_neg h1, if_neg h1]
      by_cases h2 : s'.t = m
      · rw [if_pos h2, if_pos h2]; exact ⟨rfl, h⟩
      · rw [if_neg h2, if_neg h2]
        have q := hb { s with t := s'.t + 1 } { s' with t := s'.t + 1 } ⟨h.lk, h.hi, h.pg, h.no, rfl⟩
        rw [q.1]
        split
        · exact cu_W hn hb j _ _ q.2
        · exact ⟨rfl, q.2⟩
mutual
theorem cu_D (h0 : 0 ≤ k) : ∀ (d : Dd) (ar : List Str) (s s' : Ru), LetD lv ar d → Cu lv k s s' → CuR lv k (exD m d s) (exL m (cutD lv k d) s')
  | .put x t, ar, s, s', h, hl => by
    rw [cutD]
    by_cases hx : lv x ≤ k
    · rw [if_pos hx, exL_one, exD, exD]
      have hv := cu_val hl (t := t) fun n hn => Int.le_trans (h (n, .nm x) (by rw [gaD]; exact List.mem_map.mpr ⟨n, List.mem_append_right _ hn, rfl⟩)) hx
      refine ⟨rfl, fun y hy => ?_, fun y hy => ?_, hl.pg, hl.no, hl.t⟩
      · show look (dput s.l x _) y = look (dput s'.l x _) y
        rw [look_dput, look_dput, hv, hl.lk y hy]
      · show look (dput s'.l x _) y = 0
        rw [look_dput, if_neg (fun e => by subst e; omega)]
        exact hl.hi y hy
    · rw [if_neg hx, exL_nil, exD]
      refine ⟨rfl, fun y hy => ?_, hl.hi, hl.pg, hl.no, hl.t⟩
      show look (dput s.l x _) y = _
      rw [look_dput, if_neg (fun e => by subst e; omega)]
      exact hl.lk y hy
  | .shw l t, ar, s, s', h, hl => by
    rw [cutD]
    by_cases hx : l ≤ k
    · rw [if_pos hx, exL_one, exD, exD]
      have hv := cu_val hl (t := t) fun n hn => Int.le_trans (h (n, .pg l) (by rw [gaD]; exact List.mem_map.mpr ⟨n, List.mem_append_right _ hn, rfl⟩)) hx
      refine ⟨rfl, hl.lk, hl.hi, fun j hj => ?_, fun j hj => ?_, hl.t⟩
      · show (if j = l then s.pg j ++ [_] else s.pg j) = if j = l then s'.pg j ++ [_] else s'.pg j
        rw [hl.pg j hj, hv]
      · show (if j = l then s'.pg j ++ [_] else s'.pg j) = []
        rw [if_neg (by omega)]
        exact hl.no j hj
    · rw [if_neg hx, exL_nil, exD]
      refine ⟨rfl, hl.lk, hl.hi, fun j hj => ?_, hl.no, hl.t⟩
      show (if j = l then s.pg j ++ [_] else s.pg j) = _
      rw [if_neg (by omega)]
      exact hl.pg j hj
  | .ite t a b, ar, s, s', h, hl => by
    have ha : LetL lv (ar ++ t.names) a := fun f hf => h f (by rw [gaD]; exact List.mem_append_left _ hf)
    have hb : LetL lv (ar ++ t.names) b := fun f hf => h f (by rw [gaD]; exact List.mem_append_right _ hf)
    rw [cutD]
    by_cases hn : ∀ n ∈ t.names, lv n ≤ k
    · rw [if_pos hn, exL_one, exD, exD, cu_val hl hn]
      split
      · exact cu_L h0 a _ s s' ha hl
      · exact cu_L h0 b _ s s' hb hl
    · obtain ⟨n, hn1, hn2⟩ : ∃ n, n ∈ t.names ∧ k < lv n := by
        refine Classical.byContradiction fun hne => hn fun n hm => ?_
        rcases Int.lt_or_le k (lv n) with q | q
        · exact absurd ⟨n, hm, q⟩ hne
        · exact q
      have hm := List.mem_append_right ar hn1
      rw [if_neg hn, exL_nil, exD]
      split
      · have q := high_L (m := m) h0 a _ s n hm hn2 ha
        exact ⟨q.1, hl.low q.2⟩
      · have q := high_L (m := m) h0 b _ s n hm hn2 hb
        exact ⟨q.1, hl.low q.2⟩
  | .whl t a, ar, s, s', h, hl => by
    rw [cutD, exL_one, exD, exD]
    refine cu_W (fun n hn => ?_) (fun s s' q => cu_L h0 a ar s s' (fun f hf => h f (by rw [gaD]; exact List.mem_append_right _ hf)) q) _ _ _ hl
    have : lv n ≤ 0 := h (n, .pg 0) (by rw [gaD]; exact List.mem_append_left _ (List.mem_map.mpr ⟨n, List.mem_append_right _ hn, rfl⟩))
    omega
theorem cu_L (h0 : 0 ≤ k) : ∀ (b : List Dd) (ar : List Str) (s s' : Ru), LetL lv ar b → Cu lv k s s' → CuR lv k (exL m b s) (exL m (cutL lv k b) s')
  | [], ar, s, s', _, hl => by rw [cutL, exL, exL]; exact ⟨rfl, hl⟩
  | d :: r, ar, s, s', h, hl => by
    have q := cu_D h0 d ar s s' h.head hl
    rw [cutL, exL_cons, exL_app, q.1]
    split
    · exact cu_L h0 r ar _ _ h.tail q.2
    · exact ⟨rfl, q.2⟩
end
/-- what is seen of a store -/
def seenS (lv : Str → Int) (k : Int) (l : List (Str × Int)) : List (Str × Int) := l.filter fun p => decide (lv p.1 ≤ k)
theorem look_seen {l : List (Str × Int)} : ∀ x, look (seenS lv k l) x = if lv x ≤ k then look l x else 0 := by
  intro x
  induction l with
  | nil =>
    show look [] x = _
    have : look [] x = 0 := rfl
    rw [this]
    split <;> rfl
  | cons p r ih =>
    unfold seenS at ih ⊢
    rw [List.filter_cons]
    by_cases hp : lv p.1 ≤ k
    · rw [if_pos (decide_eq_true hp)]
      by_cases e : p.1 = x
      · unfold look
        rw [look?_pos e, look?_pos e, if_pos (e ▸ hp)]
      · have h1 : look (p :: r.filter fun p => decide (lv p.1 ≤ k)) x = look (r.filter fun p => decide (lv p.1 ≤ k)) x := by unfold look; rw [look?_neg e]
        have h2 : look (p :: r) x = look r x := by unfold look; rw [look?_neg e]
        rw [h1, h2, ih]
    · rw [if_neg (by simpa using hp), ih]
      by_cases e : p.1 = x
      · rw [if_neg (e ▸ hp), if_neg (e ▸ hp)]
      · have h2 : look (p :: r) x = look r x := by unfold look; rw [look?_neg e]
        rw [h2]
theorem cu_start {l : List (Str × Int)} : Cu lv k (start0 l) (start0 (seenS lv k l)) :=
  ⟨fun x hx => by show look l x = look (seenS lv k l) x; rw [look_seen, if_pos hx], fun x hx => by show look (seenS lv k l) x = 0; rw [look_seen, if_neg (by omega)], fun _ _ => rfl, fun _ _ => rfl, rfl⟩
/-- the law, plain -/
theorem part {b : List Dd} {l : List (Str × Int)} (h0 : 0 ≤ k) (h : letsB lv b = true) :
    runT m (cutL lv k b) (seenS lv k l) = runT m b l ∧ (∀ j, j ≤ k → (runR m (cutL lv k b) (seenS lv k l)).pg j = (runR m b l).pg j) ∧ (∀ j, k < j → (runR m (cutL lv k b) (seenS lv k l)).pg j = []) ∧
    (∀ x, look (runR m (cutL lv k b) (seenS lv k l)).l x = if lv x ≤ k then look (runR m b l).l x else 0) := by
  have q := cu_L (m := m) h0 b [] (start0 l) (start0 (seenS lv k l)) (lets_iff.mp h) cu_start
  refine ⟨?_, fun j hj => (q.2.pg j hj).symm, q.2.no, fun x => ?_⟩
  · unfold runT
    rw [q.1, q.2.t]
  · split
    · rename_i hx
      exact (q.2.lk x hx).symm
    · rename_i hx
      exact q.2.hi x (by omega)
theorem part_left {l l' : List (Str × Int)} (nd : (l.map (·.1)).Nodup) (nd' : (l'.map (·.1)).Nodup) (h : ∀ x, look l' x = if lv x ≤ k then look l x else 0) : leftOf l' = seenS lv k (leftOf l) := by
  refine rising_ext (leftOf_rising nd') ((leftOf_rising nd).sublist List.filter_sublist) fun p => ?_
  obtain ⟨x, v⟩ := p
  unfold seenS
  rw [List.mem_filter, mem_leftOf, mem_leftOf, h x]
  by_cases hx : lv x ≤ k
  · rw [if_pos hx]
    exact ⟨fun q => ⟨q, decide_eq_true hx⟩, fun q => q.1⟩
  · rw [if_neg hx]
    exact ⟨fun q => absurd q.1.symm q.2, fun q => absurd (of_decide_eq_true q.2) hx⟩
end
mutual
theorem nD_cut {lv : Str → Int} {k : Int} : ∀ d : Dd, nL (cutD lv k d) ≤ nD d
  | .put x t => by
    rw [cutD]
    split <;> simp [nL, nD]
  | .shw l t => by
    rw [cutD]
    split <;> simp [nL, nD]
  | .ite t a b => by
    rw [cutD]
    have h1 := nL_cut (lv := lv) (k := k) a
    have h2 := nL_cut (lv := lv) (k := k) b
    split
    · simp only [nL, nD]; omega
    · simp [nL]
  | .whl t a => by
    rw [cutD]
    have h1 := nL_cut (lv := lv) (k := k) a
    simp only [nL, nD]; omega
theorem nL_cut {lv : Str → Int} {k : Int} : ∀ b : List Dd, nL (cutL lv k b) ≤ nL b
  | [] => by rw [cutL]; exact Nat.le_refl _
  | d :: r => by
    have h1 := nD_cut (lv := lv) (k := k) d
    have h2 := nL_cut (lv := lv) (k := k) r
    rw [cutL, nL_app, nL]
    omega
end
theorem RunOk.cut {nm : List Str} {m : Nat} {b : List Dd} {l : List (Str × Int)} (h : RunOk nm m b l) (lv : Str → Int) (k : Int) : RunOk nm m (cutL lv k b) (seenS lv k l) := by
  have q := cut_keptL (nm := nm) (lv := lv) (k := k) b
  refine ⟨h.n4, q.ok h.ok, Nat.le_trans q.dp h.dp, Nat.le_trans q.td h.td, h.ri.sublist List.filter_sublist, fun p hp => h.nm p (List.mem_filter.mp hp).1, fun p hp => h.lo p (List.mem_filter.mp hp).1, h.m, Nat.le_trans (nL_cut b) h.z⟩
/-! how many flows -/
def gaN (n r : Nat) : Nat := match n with
  | 0 => r + 4
  | n + 1 => 4 * gaN n (r + 4) + 2 * (r + 4) + 20
theorem gaN_mono : ∀ (n : Nat) {r r' : Nat}, r ≤ r' → gaN n r ≤ gaN n r'
  | 0, r, r', h => by simp only [gaN]; omega
  | n + 1, r, r', h => by
    have := gaN_mono n (r := r + 4) (r' := r' + 4) (by omega)
    simp only [gaN]; omega
theorem gaN_lo : ∀ (n r : Nat), r + 4 ≤ gaN n r
  | 0, r => Nat.le_refl _
  | n + 1, r => by simp only [gaN]; omega
theorem gaL_flat (ar : List Str) : ∀ b : List Dd, gaL ar b = b.flatMap (gaD ar)
  | [] => by rw [gaL]; rfl
  | d :: r => by rw [gaL, gaL_flat ar r]; rfl
theorem flatG_len {α β : Type} {f : α → List β} {n : Nat} : ∀ {l : List α}, (∀ x ∈ l, (f x).length ≤ n) → (l.flatMap f).length ≤ l.length * n
  | [], _ => by simp
  | x :: l, h => by
    rw [List.flatMap_cons, List.length_append, List.length_cons, Nat.succ_mul]
    have h1 := h x List.mem_cons_self
    have h2 := flatG_len (l := l) fun y hy => h y (List.mem_cons_of_mem _ hy)
    omega
theorem names_4 {t : Tm} (h : t.depth ≤ 2) : t.names.length ≤ 4 := Nat.le_trans (names_len t) (Nat.le_trans (Nat.pow_le_pow_right (by decide) h) (by decide))
theorem ga_many {nm : List Str} {lv : List Int} {hon : Bool} (h4 : nm.length = 4) : ∀ (n : Nat) (c need : Int) (ar : List Str), (gaD ar (deedS nm lv hon n c need)).length ≤ gaN n ar.length
  | n, c, need, ar => by
    have tn : (termOf nm c).names.length ≤ 4 := by
      have := (termS_ok h4 (1 + c % 2).toNat c).2
      exact names_4 (by unfold termOf; omega)
    have last : ∀ high, (gaD ar (lastD nm lv hon c high)).length ≤ gaN n ar.length := fun high => by
      have := gaN_lo n ar.length
      unfold lastD
      split
      · rw [gaD, List.length_map, List.length_append]; omega
      · rw [gaD, List.length_map, List.length_append]; omega
    match n, last with
    | 0, last =>
      rw [deed_last (fun e => absurd e.1 (by decide)) (fun e => absurd e.1 (by decide))]
      exact last _
    | n + 1, last =>
      have blk : ∀ (ar' : List Str) c' need', ar'.length ≤ ar.length + 4 → (gaL ar' (blockS nm lv hon n c' need')).length ≤ 2 * gaN n (ar.length + 4) := fun ar' c' need' ha => by
        rw [gaL_flat]
        refine Nat.le_trans (flatG_len (n := gaN n (ar.length + 4)) fun d hd => ?_) (Nat.mul_le_mul_right _ blockS_len)
        obtain ⟨k, _, rfl⟩ := List.mem_map.mp hd
        exact Nat.le_trans (ga_many h4 n _ _ _) (gaN_mono n ha)
      by_cases h2 : mix c 9871 9 < 2
      · rw [deed_ite h2, gaD, List.length_append]
        have ha : (ar ++ (termOf nm c).names).length ≤ ar.length + 4 := by rw [List.length_append]; omega
        have h1 := blk _ (c * 3 + 1) (highOf nm lv (termOf nm c) need) ha
        have h2 := blk _ (c * 5 + 2) (highOf nm lv (termOf nm c) need) ha
        simp only [gaN]
        omega
      · by_cases h4' : mix c 9871 9 < 4 ∧ (need = 0 ∨ hon = false)
        · rw [deed_whl h2 h4', gaD, List.length_append, List.length_map, List.length_append, gaL_app, List.length_append]
          have h1 := blk ar (c * 3 + 1) need (by omega)
          have h3 : (gaL ar [moreD nm]).length ≤ ar.length + 1 := by
            unfold moreD
            simp [gaL, gaD, Tm.names]
          have h5 : (if hon then Tm.bin .less (.nam (nameAt nm 0)) (.num (mix c 9859 6)) else termOf nm c).names.length ≤ 4 := by
            split
            · simp [Tm.names]
            · exact tn
          simp only [gaN]
          omega
        · rw [deed_last (fun e => h2 e.2) (fun e => h4' e.2)]
          exact last _
theorem prog_ga {ns : List Int} {k : Int} (h : ns.length ≤ 63) : GaOk 3 (progS ns k) := by
  have co := prog_cut (k := k) h
  refine ⟨Nat.lt_succ_of_le co.dp, co.td, by decide, ?_⟩
  rw [gaL_flat]
  refine Nat.le_trans (flatG_len (n := gaN 2 0) fun d hd => ?_) ?_
  · obtain ⟨c, _, rfl⟩ := List.mem_map.mp hd
    exact ga_many (nmS_len ns) 2 _ _ []
  · have := prog_len (k := k) h
    show (progS ns k).length * 364 ≤ 100000
    omega
def PrSeen : List Ds → PyData → Prop := fun xs d => ∃ (l h : List (Str × Int)) (k : Int), xs = [.dat (encS l), .dat (encS h), .dat (.int k)] ∧ Rising h ∧ l.length ≤ 100000 ∧ d = encS (seenS (look h) k l)
end Wk
/-! ### sets of flows -/
namespace Fs
open PySem PySem.Spec PyProof.Rows L2 Fw
open Fn (Fl Tg encF encG keyF keyG keyF_inj depth_keyF)
open PySem.W (EachIs)
abbrev FRow := Fn.Row
def HF (P : Program) (w : World) (f : Fl) : Int := (nestedKind P w).hash (keyF f)
abbrev IsF (h : Heap) (r : FRow) : Prop := NestedIs h (keyF r.1) (.ref r.2)
section
variable {P : Program} {w : World}
theorem isF_kind {h : Heap} {r : FRow} (k : IsF h r) : (nestedKind P w).is h (keyF r.1) r.2 := ⟨k, by have := depth_keyF r.1; omega⟩
theorem parts {h : Heap} : ∀ (ks : List NestedKey) (vs : List Value), NestedAll h ks vs → ∀ v ∈ vs, ∃ k, NestedIs h k v ∧ k.depth ≤ NestedKey.depthAll ks
  | [], _, x, v, hv => by cases x; cases hv
  | k :: ks, _, x, v, hv => by
    cases x with
    | cons a b =>
      have e : NestedKey.depthAll (k :: ks) = max k.depth (NestedKey.depthAll ks) := by simp only [NestedKey.depthAll]
      rcases List.mem_cons.mp hv with z | z
      · subst z
        exact ⟨k, a, by omega⟩
      · obtain ⟨k', x, y⟩ := parts ks _ b v z
        exact ⟨k', x, by omega⟩
theorem ofA_key (n : Nat) : ∀ (k : NestedKey) (v : Value) (A : Around) (E : Value → Shared → Prop) (s : Shared) (Q : Bool → Shared → Prop), NestedIs s.heap k v → k.depth ≤ n → Q false s → wpAny (model P w) A (ofAClassStatement n v) Q E s := by
  induction n with
  | zero =>
    intro k v A E s Q x hn hq
    cases x with
    | tup a b c d => simp only [NestedKey.depth] at hn; omega
    | _ => exact wpAny_pure hq
  | succ n ih =>
    intro k v A E s Q x hn hq
    cases x with
    | @tup b o vs m ks ho hc hd hk =>
      simp only [NestedKey.depth] at hn
      have hT : s.TypeIs (.ref b) "tuple" := ⟨o, ho, hc⟩
      have pt := parts ks vs.toList hk
      unfold ofAClassStatement
      refine wpAny_bind (wpAny_typeOf hT ?_)
      dsimp only
      simp only [show (("tuple" : String) == "tuple") = true from by decide, if_true, Bool.not_true, Bool.false_eq_true, if_false]
      try refine wpAny_bind (wpAny_pure ?_)
      try simp only [Bool.not_true, Bool.false_eq_true, if_false]
      show wpAny _ _ (seqItems? (.ref b) >>= _) _ _ s
      refine wpAny_bind (wpAny_seqItems ho hd ?_)
      dsimp only
      refine wpAny_bind ?_
      show wpAny _ _ (forIn vs _ _) _ _ s
      rw [← Array.forIn_toList]
      refine wpAny_forIn_list _ (fun rest r s' => r.1 = none ∧ s' = s ∧ ∀ v ∈ rest, ∃ k, NestedIs s.heap k v ∧ k.depth ≤ NestedKey.depthAll ks) _ ?_ ?_ _ _ ⟨rfl, rfl, pt⟩
      · rintro v rest r s' ⟨hr, e, hall⟩
        subst e
        obtain ⟨k, a, c⟩ := hall v List.mem_cons_self
        refine wpAny_bind (ih k v _ _ _ _ a (by omega) ?_)
        simp only [Bool.false_eq_true, if_false]
        exact wpAny_pure ⟨rfl, rfl, fun u z => hall u (List.mem_cons_of_mem _ z)⟩
      · rintro ⟨r1, r2⟩ s' ⟨hr, e, _⟩
        subst e
        simp only at hr
        subst hr
        exact wpAny_pure hq
    | _ => exact wpAny_pure hq
theorem hb_key (n : Nat) : ∀ (k : NestedKey) (v : Value) (A : Around) (E : Value → Shared → Prop) (s : Shared) (Q : Bool → Shared → Prop), NestedIs s.heap k v → (∀ b, Q b s) → wpAny (model P w) A (hashByValue n v) Q E s := by
  induction n with
  | zero =>
    intro k v A E s Q x hq
    cases x <;> exact wpAny_pure (hq _)
  | succ n ih =>
    intro k v A E s Q x hq
    cases x with
    | @tup b o vs m ks ho hc hd hk =>
      have hT : s.TypeIs (.ref b) "tuple" := ⟨o, ho, hc⟩
      have pt := parts ks vs.toList hk
      unfold hashByValue
      refine wpAny_bind (wpAny_specialOf hT F.slot_tuple_hash.lookup ?_)
      show wpAny _ _ (seqItems? (.ref b) >>= _) _ _ s
      refine wpAny_bind (wpAny_seqItems ho hd ?_)
      refine wpAny_bind ?_
      show wpAny _ _ (forIn vs _ _) _ _ s
      rw [← Array.forIn_toList]
      refine wpAny_forIn_list _ (fun rest r s' => r.1 = none ∧ s' = s ∧ ∀ v ∈ rest, ∃ k, NestedIs s.heap k v) _ ?_ ?_ _ _ ⟨rfl, rfl, fun v hv => let ⟨k, a, _⟩ := pt v hv; ⟨k, a⟩⟩
      · rintro v rest r s' ⟨hr, e, hall⟩
        subst e
        obtain ⟨k, a⟩ := hall v List.mem_cons_self
        refine wpAny_bind (ih k v _ _ _ _ a fun c => ?_)
        cases c
        · simp only [Bool.not_false, if_true]
          exact wpAny_pure (wpAny_pure (hq _))
        · simp only [Bool.not_true, Bool.false_eq_true, if_false]
          exact wpAny_pure ⟨rfl, rfl, fun u z => hall u (List.mem_cons_of_mem _ z)⟩
      · rintro ⟨r1, r2⟩ s' ⟨hr, e, _⟩
        subst e
        simp only at hr
        subst hr
        exact wpAny_pure (hq _)
    | _ => exact wpAny_pure (hq _)
variable {A : Around} {E : Value → Shared → Prop} {s : Shared}
theorem unseen {x : FRow} (hx : IsF s.heap x) {ys : List Value} (hy : ∀ y ∈ ys, ∃ r : FRow, y = Value.ref r.2 ∧ IsF s.heap r) {Q : Bool → Shared → Prop} (h : Q false s) :
    wpAny (model P w) A (searchCouldBeSeen (.ref x.2) ys) Q E s := by
  have hd : ∀ r : FRow, (keyF r.1).depth ≤ 8 := fun r => by have := depth_keyF r.1; omega
  unfold searchCouldBeSeen
  refine wpAny_bind (wpAny_forIn_list _ (fun rest r s' => r.1 = none ∧ s' = s ∧ ∀ y ∈ rest, ∃ r : FRow, y = Value.ref r.2 ∧ IsF s.heap r) _ ?_ ?_ _ _ ⟨rfl, rfl, hy⟩)
  · rintro v rest r s' ⟨hr, e, hall⟩
    subst e
    obtain ⟨g, rfl, hc⟩ := hall v List.mem_cons_self
    have more : ∀ y ∈ rest, ∃ r : FRow, y = Value.ref r.2 ∧ IsF s'.heap r := fun u z => hall u (List.mem_cons_of_mem _ z)
    dsimp only
    by_cases hv : (x.2 == g.2 || (carriedByValue (.ref x.2) && carriedByValue (.ref g.2))) = true
    · exact wp_if_pos hv (wpAny_pure ⟨rfl, rfl, more⟩)
    · refine wp_if_neg hv (wpAny_bind ((nestedKind P w).quiet (isF_kind hx) ?_))
      simp only [Bool.not_true, Bool.false_eq_true, if_false]
      refine wpAny_bind ((nestedKind P w).quiet (isF_kind hc) ?_)
      simp only [Bool.not_true, Bool.false_eq_true, if_false]
      refine wpAny_bind (ofA_key 8 _ _ _ _ _ _ hx (hd _) ?_)
      simp only [Bool.false_eq_true, if_false]
      refine wpAny_bind (ofA_key 8 _ _ _ _ _ _ hc (hd _) ?_)
      simp only [Bool.false_eq_true, if_false]
      exact wpAny_pure ⟨rfl, rfl, more⟩
  · rintro ⟨r1, r2⟩ s' ⟨hr, e, _⟩
    subst e
    simp only at hr
    subst hr
    exact wpAny_pure h
/-- the c-th look -/
def lk (m : Nat) (H : Int) (c : Nat) : SetTable.Probe := nth m (runAt m (SetTable.bits H % (m + 1)) (SetTable.bits H)) c
theorem lk_more (m : Nat) (H : Int) (c q : Nat) : nth m (lk m H c) q = lk m H (c + q) := (nth_add m c _ q).symm
theorem lk_j (m : Nat) (H : Int) (c : Nat) : (lk m H c).j = way m H c := rfl
theorem nth_clean (m : Nat) : ∀ (n : Nat) (p : SetTable.Probe), p.dummy = none → (nth m p n).dummy = none
  | 0, p, h => h
  | n + 1, p, h => nth_clean m n (adv m p) (by
    unfold adv
    split <;> exact h)
theorem lk_clean (m : Nat) (H : Int) (c : Nat) : (lk m H c).dummy = none := nth_clean m c _ rfl
def ent (hf : Fl → Int) (r : FRow) : Int × Value := (hf r.1, .ref r.2)
structure SetR (w : World) (hf : Fl → Int) (h : Heap) (a : Addr) (rows : List FRow) (es : Array (Int × Value)) (ep : Nat) (t : SetTable) : Prop where
  obj : ∃ o, h.get? a = some o ∧ o.ExactSet ∧ o.data = .set es ep t
  ents : es.toList = rows.map (ent hf)
  tab : TabOk t (rows.map fun r => hf r.1)
  keys : (rows.map (·.1)).Nodup
  led : w.params.followText "set-order" = true ∨ t.led = true
  room : rows.length * 5 < t.mask * 3
  few : rows.length < 64
variable {hf : Fl → Int} {a : Addr} {rows : List FRow} {es : Array (Int × Value)} {ep : Nat} {t : SetTable}
theorem ents_size (e : es.toList = rows.map (ent hf)) : es.size = rows.length := by
  rw [← Array.length_toList, e, List.length_map]
theorem ents_at (e : es.toList = rows.map (ent hf)) {i : Nat} {r : FRow} (h : rows[i]? = some r) : es[i]? = some (hf r.1, Value.ref r.2) := by
  rw [← Array.getElem?_toList, e, List.getElem?_map, h]
  rfl
theorem tab_size (T : TabOk t (rows.map fun r => hf r.1)) : t.place.size = rows.length := by rw [T.sz, List.length_map]
theorem SetR.fit {h : Heap} (R : SetR w hf h a rows es ep t) : t.fits es.size = true := by
  have h1 := tab_size R.tab
  have h2 := ents_size R.ents
  have h3 := R.room
  unfold SetTable.fits SetTable.fill
  rw [R.tab.dm, Bool.and_eq_true, beq_iff_eq, decide_eq_true_eq]
  show t.place.size = es.size ∧ t.place.size + 0 ≤ t.mask
  omega
theorem whole (T : TabOk t (rows.map fun r => hf r.1)) : ¬ t.gaveWay = true := by
  unfold SetTable.gaveWay
  rw [mask_odd T.mok]
  decide
theorem srch (R : SetR w hf s.heap a rows es ep t) (hk : ∀ r ∈ rows, IsF s.heap r) {x : FRow} (hx : IsF s.heap x) (hu : A.units + 8 < cLine) {K : Nat} (hKf : K < 10 * SetTable.turns t.mask)
    (hK : way t.mask (hf x.1) K ∉ t.place.toList) (hKb : ∀ c, c < K → way t.mask (hf x.1) c ∈ t.place.toList) {Q : SetFound → Shared → Prop}
    (old : x.1 ∈ rows.map (·.1) → Q (.there none) s) (new : x.1 ∉ rows.map (·.1) → Q (.free (way t.mask (hf x.1) K) false) s) :
    ∀ (f c : Nat) (st : Option SetTable.Probe), st.getD (t.probeStart (hf x.1)) = lk t.mask (hf x.1) c → c ≤ K → K - c < f →
      (∀ (i : Nat) (r : FRow), rows[i]? = some r → r.1 = x.1 → ∃ c', c ≤ c' ∧ c' < K ∧ t.place.toList[i]? = some (way t.mask (hf x.1) c')) →
      wpAny (model P w) A (setSearchFrom a (.ref x.2) (hf x.1) true f st) Q E s := by
  intro f
  induction f with
  | zero => intro c st _ _ hlt; exact absurd hlt (Nat.not_lt_zero _)
  | succ f ih =>
    intro c st hst hc hlt hre
    obtain ⟨o, ho, hex, hd⟩ := R.obj
    have hz := tab_size R.tab
    rw [setSearchFrom_succ]
    refine wpAny_bind (wpAny_setState_of ho hd R.fit ?_)
    dsimp only
    refine wp_if_neg (whole R.tab) ?_
    try refine wpAny_bind (wpAny_pure ?_)
    have ej : ∀ q, (nth t.mask (lk t.mask (hf x.1) c) q).j = way t.mask (hf x.1) (c + q) := fun q => by rw [lk_more, lk_j]
    have hat : ∀ (i : Nat) (r : FRow), rows[i]? = some r → (es[i]?.map (·.1)).getD 0 = hf r.1 := fun i r hr => by
      rw [ents_at R.ents hr]
      rfl
    have spec := go_spec t R.tab.ris R.tab.dm (fun i => (es[i]?.map (·.1)).getD 0) (hf x.1) (10 * SetTable.turns t.mask) (K - c) _ (lk_clean t.mask (hf x.1) c) (by omega)
      (fun q hq => by rw [ej]; exact hKb (c + q) (by omega)) (by rw [ej, show c + (K - c) = K by omega]; exact hK)
    rcases spec with ⟨q, i, hq, hi, hh, hno, hpr⟩ | ⟨hno, hpr⟩
    · have hpr' : t.probe (fun i => (es[i]?.map (·.1)).getD 0) (hf x.1) (st.getD (t.probeStart (hf x.1))) = some (.candidate (way t.mask (hf x.1) (c + q)) i (lk t.mask (hf x.1) (c + (q + 1)))) := by
        rw [hst, ← ej, ← lk_more]
        exact hpr
      rw [hpr']
      dsimp only
      rw [ej] at hi
      have hil : i < rows.length := by
        have h1 : i < t.place.toList.length := (List.getElem?_eq_some_iff.mp hi).1
        rw [Array.length_toList] at h1
        omega
      obtain ⟨g, hg⟩ : ∃ g, rows[i]? = some g := ⟨_, List.getElem?_eq_getElem hil⟩
      have gm := List.mem_of_getElem? hg
      have rest : wpAny (model P w) A (searchRest a (.ref x.2) (hf x.1) true f es t (way t.mask (hf x.1) (c + q)) i (lk t.mask (hf x.1) (c + (q + 1)))) Q E s := by
        unfold searchRest
        rw [ents_at R.ents hg]
        dsimp only
        refine wpAny_bind (wpAny_holding ((nestedKind P w).eqBool (show A.units + 8 < cLine from hu) (isF_kind (hk g gm)) (isF_kind hx) ?_))
        refine wpAny_bind (wpAny_setState_of ho hd R.fit ?_)
        dsimp only
        by_cases e : g.1 = x.1
        · refine wp_if_pos (by simp [e]) (wpAny_pure (old (List.mem_map.mpr ⟨g, gm, e⟩)))
        · have e2 : ¬ keyF g.1 = keyF x.1 := fun z => e (keyF_inj z)
          refine wp_if_neg (by simp [e2]) ?_
          try refine wpAny_bind (wpAny_pure ?_)
          rw [sameMem]
          dsimp only
          have hsl : t.slot (way t.mask (hf x.1) (c + q)) = .live i := slot_live R.tab.ris hi
          simp only [if_true, hsl, ents_at R.ents hg]
          refine wpAny_bind (wpAny_isSame_ref_self (wpAny_bind (wpAny_pure ?_)))
          simp only [if_true]
          refine wp_if_neg (by simp [e2]) ?_
          refine ih (c + (q + 1)) _ rfl (by omega) (by omega) fun i0 r0 h0 k0 => ?_
          obtain ⟨c', a1, a2, a3⟩ := hre i0 r0 h0 k0
          refine ⟨c', ?_, a2, a3⟩
          rcases Nat.lt_trichotomy c' (c + q) with z | z | z
          · refine absurd ?_ (hno (c' - c) i0 (by omega) (by rw [ej, show c + (c' - c) = c' by omega]; exact a3))
            exact (hat i0 r0 h0).trans (by rw [k0])
          · exfalso
            rw [z] at a3
            have s0 := slot_live R.tab.ris a3
            rw [hsl] at s0
            injection s0 with s0
            rw [← s0, hg] at h0
            cases h0
            exact e k0
          · omega
      by_cases hl : t.led = true
      · refine wp_if_neg (by simp [hl]) ?_
        try refine wpAny_bind (wpAny_pure ?_)
        exact rest
      · refine wp_if_pos (by simp [hl]) (wpAny_bind (unseen hx (fun y hy => ?_) ?_))
        · obtain ⟨e, he, ee⟩ := List.mem_map.mp hy
          have he1 : e ∈ es ∧ e.1 = hf x.1 := by simpa using he
          have he2 : e ∈ es.toList := by simpa using he1.1
          rw [R.ents] at he2
          obtain ⟨r, hr, e2⟩ := List.mem_map.mp he2
          exact ⟨r, by rw [← ee, ← e2]; rfl, hk r hr⟩
        · refine wp_if_neg (by decide) ?_
          try refine wpAny_bind (wpAny_pure ?_)
          exact rest
    · have hpr' : t.probe (fun i => (es[i]?.map (·.1)).getD 0) (hf x.1) (st.getD (t.probeStart (hf x.1))) = some (.empty (way t.mask (hf x.1) K) none) := by
        have e2 : way t.mask (hf x.1) K = (nth t.mask (lk t.mask (hf x.1) c) (K - c)).j := by rw [ej, show c + (K - c) = K by omega]
        rw [hst, e2]
        exact hpr
      rw [hpr']
      dsimp only
      refine wpAny_pure (new fun hm => ?_)
      obtain ⟨r0, h0, k0⟩ := List.mem_map.mp hm
      obtain ⟨i0, hi0, e0⟩ := List.getElem_of_mem h0
      have h00 : rows[i0]? = some r0 := by rw [List.getElem?_eq_getElem hi0, e0]
      obtain ⟨c', a1, a2, a3⟩ := hre i0 r0 h00 k0
      refine hno (c' - c) i0 (by omega) (by rw [ej, show c + (c' - c) = c' by omega]; exact a3) ?_
      exact (hat i0 r0 h00).trans (by rw [k0])
theorem find_f (R : SetR w hf s.heap a rows es ep t) (hk : ∀ r ∈ rows, IsF s.heap r) {x : FRow} (hx : IsF s.heap x) (hu : A.units + 8 < cLine) {Q : SetFound → Shared → Prop}
    (old : x.1 ∈ rows.map (·.1) → Q (.there none) s)
    (new : ∀ K, x.1 ∉ rows.map (·.1) → way t.mask (hf x.1) K ∉ t.place.toList → (∀ c, c < K → way t.mask (hf x.1) c ∈ t.place.toList) → Q (.free (way t.mask (hf x.1) K) false) s) :
    wpAny (model P w) A (setSearch a (.ref x.2) (hf x.1) true) Q E s := by
  have hroom := R.room
  have hz := tab_size R.tab
  obtain ⟨K, hKf, hK, hKb⟩ := R.tab.first (by rw [List.length_map]; omega) (hf x.1)
  have hbig : K < 100000 := by
    have : 10 * SetTable.turns t.mask ≤ 1420 := by
      unfold SetTable.turns
      rcases R.tab.mok with e | e | e <;> omega
    omega
  unfold setSearch
  refine srch R hk hx hu hKf hK hKb old (fun hn => new K hn hK hKb) 100000 0 none rfl (Nat.zero_le _) (by omega) fun i r hr k => ?_
  have hi : (rows.map fun r => hf r.1)[i]? = some (hf x.1) := by
    rw [List.getElem?_map, hr, ← k]
    rfl
  have hil : i < t.place.toList.length := by
    have h1 : i < rows.length := (List.getElem?_eq_some_iff.mp hr).1
    rw [Array.length_toList]
    omega
  have hj := List.getElem?_eq_getElem hil
  obtain ⟨c, hc, e⟩ := R.tab.before hK hi hj
  exact ⟨c, Nat.zero_le _, hc, by rw [hj, e]⟩
theorem isF_but {h h' : Heap} {r : FRow} {o : Obj} (k : IsF h r) (ho : h.get? a = some o) (hd : o.data = .set es ep t) (sb : Heap.SameBut a h h') : IsF h' r :=
  NestedIs.at (fun b u vs n hb hc => (sb.2 b fun e => by
    subst e
    rw [ho] at hb
    cases hb
    rw [hd] at hc
    cases hc).trans hb) _ _ k
theorem order_ents {order : Array Nat} (hr : es.toList = rows.map (ent hf)) (hp : order.toList.Perm (List.range rows.length)) :
    ∃ rows2 : List FRow, (order.filterMap (es[·]?)).toList = rows2.map (ent hf) ∧ rows2.Perm rows ∧ (rows2.map fun r => hf r.1) = order.toList.map fun i => (es.map (·.1)).getD i 0 := by
  have key : ∀ l : List Nat, (∀ i ∈ l, i < rows.length) → (l.filterMap fun i => es[i]?) = (l.filterMap fun i => rows[i]?).map (ent hf) ∧ ((l.filterMap fun i => rows[i]?).map fun r => hf r.1) = l.map fun i => (es.map (·.1)).getD i 0 := by
    intro l
    induction l with
    | nil => exact fun _ => ⟨rfl, rfl⟩
    | cons i l ih =>
      intro hl
      have hi := hl i List.mem_cons_self
      obtain ⟨e1, e2⟩ := ih fun j hj => hl j (List.mem_cons_of_mem _ hj)
      have g := List.getElem?_eq_getElem hi
      have g2 := ents_at hr g
      have e5 : (es.map (·.1))[i]? = some (hf rows[i].1) := by
        rw [Array.getElem?_map, g2]
        rfl
      have e4 : (es.map (·.1)).getD i 0 = hf rows[i].1 := by simp [Array.getD_eq_getD_getElem?, e5]
      rw [List.filterMap_cons_some g2, List.filterMap_cons_some g, e1, List.map_cons, List.map_cons, List.map_cons, e2, e4]
      exact ⟨rfl, rfl⟩
  have back : ∀ n, n ≤ rows.length → ((List.range n).filterMap fun i => rows[i]?) = rows.take n := by
    intro n
    induction n with
    | zero => exact fun _ => rfl
    | succ n ih =>
      intro hn
      have g := List.getElem?_eq_getElem (show n < rows.length from hn)
      rw [List.range_succ, List.filterMap_append, ih (Nat.le_of_lt hn), List.take_add_one, g, List.filterMap_cons_some g]
      rfl
  obtain ⟨e1, e2⟩ := key order.toList fun i hi => List.mem_range.mp (hp.mem_iff.mp hi)
  refine ⟨_, by first | (rw [Array.toList_filterMap]; exact e1) | simpa using e1, ?_, e2⟩
  have h1 := hp.filterMap fun i => rows[i]?
  rwa [back rows.length (Nat.le_refl _), List.take_length] at h1
theorem relay_f {o : Obj} (ho : s.heap.get? a = some o) (hex : o.ExactSet) (hd : o.data = .set es ep t) (hr : es.toList = rows.map (ent hf)) (hz : t.place.size = es.size) (hdm : t.dummies = #[]) (hfl : es.size ≤ t.mask)
    (nd : (rows.map (·.1)).Nodup) (ld : w.params.followText "set-order" = true ∨ t.led = true) (few : rows.length < 64) {wanted M : Nat} (hw : SetTable.sizeAbove wanted - 1 = M) (hM : MaskOk M) (hw2 : SetTable.sizeAbove wanted ≤ 128)
    (hn : rows.length * 5 < M * 3) {Q : Unit → Shared → Prop} (hQ : ∀ h' rows' es' ep' t', Heap.SameBut a s.heap h' → SetR w hf h' a rows' es' ep' t' → rows'.Perm rows → Q () { s with heap := h' }) :
    wpAny (model P w) A (setRelay a wanted) Q E s := by
  have hsl := ents_size hr
  have h16 : sizeLine = 16777216 := by first | exact sizeLine_eq | rfl
  have fit : t.fits es.size = true := by
    unfold SetTable.fits SetTable.fill
    rw [hdm, Bool.and_eq_true, beq_iff_eq, decide_eq_true_eq]
    show t.place.size = es.size ∧ t.place.size + 0 ≤ t.mask
    omega
  obtain ⟨t', order, e, hp, T, em, el, _, _⟩ := relaid_ok t (hs := es.map (·.1)) (wanted := wanted) hw hM (by rw [Array.size_map, hsl]; omega)
  rw [Array.size_map, hsl] at hp
  obtain ⟨rows2, r1, r2, r3⟩ := order_ents hr hp
  rw [← r3] at T
  have hs2 : (order.filterMap (es[·]?)).size = es.size := by rw [ents_size r1, r2.length_eq, hsl]
  rw [setRelay_eq]
  refine wpAny_bind (wpAny_setState_of ho hd fit ?_)
  dsimp only
  refine wp_if_neg (by omega) ?_
  try refine wpAny_bind (wpAny_pure ?_)
  rw [e]
  dsimp only
  refine wpAny_bind (wp_if_neg (by rw [hs2]; simp) ?_)
  try refine wpAny_bind (wpAny_pure ?_)
  refine wpAny_pure ?_
  dsimp only
  refine wpAny_storeSet_of ho hd ?_ (by omega)
  have sb : Heap.SameBut a s.heap (s.heap.update a (Obj.putSet (order.filterMap (es[·]?)) t')) := Heap.SameBut.update ..
  exact hQ _ rows2 (order.filterMap (es[·]?)) (ep + 1) t' sb ⟨⟨_, store_at ho hd, ⟨hex.1, hex.2.1, hex.2.2⟩, rfl⟩, r1, T, (r2.map (·.1)).nodup_iff.mpr nd, by rw [el]; exact ld, by rw [r2.length_eq, em]; exact hn, by rw [r2.length_eq]; exact few⟩ r2
theorem tab_plain {hs : List Int} (T : TabOk t hs) (b : Bool) : TabOk { t with plain := b } hs := ⟨T.ris, T.dm, T.sz, T.mok, T.bd, T.reach⟩
theorem add_f (R : SetR w hf s.heap a rows es ep t) (hk : ∀ r ∈ rows, IsF s.heap r) {x : FRow} (hx : IsF s.heap x) (hu : A.units + 8 < cLine) (hfew : rows.length + 1 < 64) {Q : Bool → Shared → Prop}
    (hQ : ∀ b h' rows' es' ep' t', Heap.SameBut a s.heap h' → SetR w hf h' a rows' es' ep' t' → (x.1 ∈ rows.map (·.1) → rows' = rows) → (x.1 ∉ rows.map (·.1) → rows'.Perm (x :: rows)) → Q b { s with heap := h' }) :
    wpAny (model P w) A (setAddHashed a (.ref x.2) (hf x.1)) Q E s := by
  obtain ⟨o, ho, hex, hd⟩ := R.obj
  have hsl := ents_size R.ents
  have hroom := R.room
  have h16 : sizeLine = 16777216 := by first | exact sizeLine_eq | rfl
  unfold setAddHashed
  refine wpAny_holding ?_
  rw [show (100000 : Nat) = 99999 + 1 from rfl, setAddHashedIn_succ]
  refine wpAny_bind (wpAny_setState_of ho hd R.fit ?_)
  dsimp only
  refine wp_if_neg (by simp [byScan, Value.scannable]) ?_
  try refine wpAny_bind (wpAny_pure ?_)
  refine wpAny_bind (find_f R hk hx hu (fun hm => ?_) fun K hm hK hb => ?_)
  · exact wpAny_pure (hQ false s.heap rows es ep t (Heap.SameBut.refl a s.heap) R (fun _ => rfl) fun z => absurd hm z)
  · dsimp only
    refine wpAny_bind (wpAny_setState_of ho hd R.fit ?_)
    dsimp only
    obtain ⟨q1, q2, q3, q4, q5, _, _, _, q9⟩ := R.tab.put hK hb
    generalize hpt : t.put (way t.mask (hf x.1) K) = pt at q1 q3 q4 q5 q9 ⊢
    obtain ⟨t1, p⟩ := pt
    dsimp only at q1 q3 q4 q5 q9 ⊢
    subst q1
    have fin : ∀ t2 : SetTable, TabOk t2 ((rows.map fun r => hf r.1).take (SetTable.below t.place (way t.mask (hf x.1) K)) ++ hf x.1 :: (rows.map fun r => hf r.1).drop (SetTable.below t.place (way t.mask (hf x.1) K))) → t2.mask = t.mask → t2.led = t.led → t2.fill = (rows.map fun r => hf r.1).length + 1 →
        wpAny (model P w) A (do
          storeSet a (SetTable.insertAt es (SetTable.below t.place (way t.mask (hf x.1) K)) (hf x.1, Value.ref x.2)) t2
          if !false && t2.tooFull then setRelay a (SetTable.grown (es.size + 1))
          return true) Q E s := by
      intro t2 q3 q4 q5 q9
      rw [List.length_map] at q9
      have hin : (SetTable.insertAt es (SetTable.below t.place (way t.mask (hf x.1) K)) (hf x.1, Value.ref x.2)).toList = (rows.take (SetTable.below t.place (way t.mask (hf x.1) K)) ++ x :: rows.drop (SetTable.below t.place (way t.mask (hf x.1) K))).map (ent hf) := by
        rw [SetTable.toList_insertAt, R.ents, List.map_append, List.map_cons, List.map_take, List.map_drop]
        rfl
      have hhs : (rows.take (SetTable.below t.place (way t.mask (hf x.1) K)) ++ x :: rows.drop (SetTable.below t.place (way t.mask (hf x.1) K))).map (fun r => hf r.1) = (rows.map fun r => hf r.1).take (SetTable.below t.place (way t.mask (hf x.1) K)) ++ hf x.1 :: (rows.map fun r => hf r.1).drop (SetTable.below t.place (way t.mask (hf x.1) K)) := by
        rw [List.map_append, List.map_cons, List.map_take, List.map_drop]
      rw [← hhs] at q3
      have pm := put_perm rows (SetTable.below t.place (way t.mask (hf x.1) K)) x
      generalize SetTable.insertAt es (SetTable.below t.place (way t.mask (hf x.1) K)) (hf x.1, Value.ref x.2) = es1 at hin ⊢
      generalize rows.take (SetTable.below t.place (way t.mask (hf x.1) K)) ++ x :: rows.drop (SetTable.below t.place (way t.mask (hf x.1) K)) = rows1 at hin q3 pm
      have hlen : rows1.length = rows.length + 1 := pm.length_eq
      have nd1 : (rows1.map (·.1)).Nodup := (pm.map (·.1)).nodup_iff.mpr (List.nodup_cons.mpr ⟨hm, R.keys⟩)
      have hes := ents_size hin
      refine wpAny_bind (wpAny_storeSet_of ho hd ?_ (by omega))
      have sb : Heap.SameBut a s.heap (s.heap.update a (Obj.putSet es1 t2)) := Heap.SameBut.update ..
      have ho1 := store_at (es' := es1) (t' := t2) ho hd
      generalize s.heap.update a (Obj.putSet es1 t2) = h1 at sb ho1 ⊢
      have ld1 : w.params.followText "set-order" = true ∨ t2.led = true := by rw [q5]; exact R.led
      by_cases hfu : t2.tooFull = true
      · have hfull : (rows.length + 1) * 5 ≥ t2.mask * 3 := by
          have h := hfu
          unfold SetTable.tooFull at h
          rw [decide_eq_true_eq, q9] at h
          exact h
        have hsz1 : t2.place.size = es1.size := by rw [tab_size q3, hes]
        have two : (t.mask = 7 ∧ rows.length = 4) ∨ (t.mask = 31 ∧ rows.length = 18) := by
          rcases R.tab.mok with e | e | e
          · exact .inl ⟨e, by omega⟩
          · exact .inr ⟨e, by omega⟩
          · exfalso; omega
        have go : ∀ M, SetTable.sizeAbove (SetTable.grown (rows.length + 1)) - 1 = M → MaskOk M → SetTable.sizeAbove (SetTable.grown (rows.length + 1)) ≤ 128 → (rows.length + 1) * 5 < M * 3 →
            wpAny (model P w) A (setRelay a (SetTable.grown (es.size + 1))) (fun _ s' => wpAny (model P w) A (pure true) Q E s') E { s with heap := h1 } := fun M h1' h2' h3' h4' => by
          rw [hsl]
          refine relay_f (s := { s with heap := h1 }) ho1 ⟨hex.1, hex.2.1, hex.2.2⟩ rfl hin hsz1 q3.dm (by rcases two with ⟨e, e2⟩ | ⟨e, e2⟩ <;> omega) nd1 ld1 (by omega) h1' h2' h3' (by rw [hlen]; exact h4') ?_
          intro h2 rows2 es2 ep2 t3 sb2 R2 pm2
          exact wpAny_pure (hQ true h2 rows2 es2 ep2 t3 (sb.trans sb2) R2 (fun z => absurd z hm) fun _ => pm2.trans pm)
        have fin2 : wpAny (model P w) A (setRelay a (SetTable.grown (es.size + 1))) (fun _ s' => wpAny (model P w) A (pure true) Q E s') E { s with heap := h1 } := by
          rcases two with ⟨_, e2⟩ | ⟨_, e2⟩
          · exact go 31 (by rw [e2, size_20]) (.inr (.inl rfl)) (by rw [e2, size_20]; decide) (by omega)
          · exact go 127 (by rw [e2, size_76]) (.inr (.inr rfl)) (by rw [e2, size_76]; decide) (by omega)
        first
          | exact wpAny_bind (wp_if_pos (by simp [hfu]) fin2)
          | exact wp_if_pos (by simp [hfu]) (wpAny_bind fin2)
      · have hroom2 : rows1.length * 5 < t2.mask * 3 := by
          have h := hfu
          unfold SetTable.tooFull at h
          rw [decide_eq_true_eq, q9] at h
          omega
        have fin2 := hQ true h1 rows1 es1 (ep + 1) t2 sb ⟨⟨_, ho1, ⟨hex.1, hex.2.1, hex.2.2⟩, rfl⟩, hin, q3, nd1, ld1, hroom2, by omega⟩ (fun z => absurd z hm) fun _ => pm
        first
          | exact wp_if_neg (by simp [hfu]) (wpAny_pure fin2)
          | exact wpAny_bind (wp_if_neg (by simp [hfu]) (wpAny_pure (wpAny_pure fin2)))
    have both : ∀ b : Bool, wpAny (model P w) A (do
          storeSet a (SetTable.insertAt es (SetTable.below t.place (way t.mask (hf x.1) K)) (hf x.1, Value.ref x.2)) (if b = true then t1 else { t1 with plain := false })
          if !false && (if b = true then t1 else { t1 with plain := false }).tooFull then setRelay a (SetTable.grown (es.size + 1))
          return true) Q E s := fun b => by
      cases b
      · exact fin { t1 with plain := false } (tab_plain q3 false) q4 q5 q9
      · exact fin t1 q3 q4 q5 q9
    by_cases hp : t1.plain = true
    · first
        | exact wp_if_pos hp (wpAny_bind (hb_key 8 _ _ _ _ _ _ hx fun b => both b))
        | exact wpAny_bind (wp_if_pos hp (hb_key 8 _ _ _ _ _ _ hx fun b => both b))
    · first
        | exact wp_if_neg hp (wpAny_bind (wpAny_pure (both true)))
        | exact wpAny_bind (wp_if_neg hp (wpAny_pure (both true)))
        | exact wp_if_neg hp (both true)
end
end Fs
/-! ### set(xs) and sorted(set(xs)), xs a list or a tuple of flows -/
namespace Fs
open PySem PySem.Spec PyProof.Rows L2 Fw Ft Wk
open Fn (Fl Tg encF encG keyF keyG keyF_inj depth_keyF sortF KeysIn reads_of reads_keyF list_sort_flows)
open PySem.W (EachIs dataLe)
section
variable {P : Program} {w : World} {A : Around} {E : Value → Shared → Prop} {s : Shared}
theorem SetR.at {h h' : Heap} {a : Addr} {rows : List FRow} {es : Array (Int × Value)} {ep : Nat} {t : SetTable} (R : SetR w (HF P w) h a rows es ep t) (k : ∀ o, h.get? a = some o → h'.get? a = some o) : SetR w (HF P w) h' a rows es ep t := by
  obtain ⟨o, ho, r⟩ := R.obj
  exact ⟨⟨o, k o ho, r⟩, R.ents, R.tab, R.keys, R.led, R.room, R.few⟩
theorem setR_0 {h : Heap} {a : Addr} (ho : h.get? a = some (fresh0 w)) : SetR w (HF P w) h a [] #[] 0 (.fresh 0 0 (!w.params.followText "set-order")) where
  obj := ⟨_, ho, ⟨rfl, rfl, rfl⟩, rfl⟩
  ents := rfl
  tab := ⟨List.Pairwise.nil, rfl, rfl, .inl rfl, fun x hx => (by cases hx), fun i h j hi => (by simp at hi)⟩
  keys := List.nodup_nil
  led := by
    show _ ∨ (!w.params.followText "set-order") = true
    cases w.params.followText "set-order"
    · exact .inr rfl
    · exact .inl rfl
  room := by show 0 * 5 < 7 * 3; decide
  few := by show 0 < 64; decide
def GotF (P : Program) (w : World) (h0 : Heap) (ks : List FRow) (i : Nat) (h : Heap) : Prop :=
  (∀ b o, h0.get? b = some o → h.get? b = some o) ∧ ∃ rows es ep t, SetR w (HF P w) h h0.objs.size rows es ep t ∧ (∀ r ∈ rows, r ∈ ks.take i) ∧ ∀ r ∈ ks.take i, r.1 ∈ rows.map (·.1)
theorem old_ne {h0 : Heap} {b n : Nat} {o : Obj} (e : h0.get? b = some o) (hn : h0.objs.size ≤ n) : b ≠ n := Nat.ne_of_lt (Nat.lt_of_lt_of_le (Heap.lt_size e) hn)
theorem adds_f {h0 : Heap} {ks : List FRow} {items : Array Value} (hv : ∀ (i : Nat) (v : Value), items[i]? = some v → ∃ r, ks[i]? = some r ∧ v = Value.ref r.2) (hk : ∀ r ∈ ks, IsF h0 r) (hb : (ddp (ks.map (·.1))).length < 63) (hu : A.units + 8 < cLine) :
    Adds P w A h0.objs.size [h0.objs.size + 1] (fun i h => GotF P w h0 ks i h) fun i v => items[i]? = some v where
  up := fun i h h' ⟨k, rows, es, ep, t, R, g1, g2⟩ kp =>
    ⟨fun b o e => kp b o (by rw [List.mem_singleton]; exact old_ne e (Nat.le_succ _)) (k b o e), rows, es, ep, t, R.at fun o e => kp _ o (by rw [List.mem_singleton]; exact Nat.ne_of_lt (Nat.lt_succ_self _)) e, g1, g2⟩
  add := fun i v s Q E hi ⟨k, rows, es, ep, t, R, g1, g2⟩ hQ => by
    obtain ⟨r, hr, rfl⟩ := hv i v hi
    have ht : ks.take (i + 1) = ks.take i ++ [r] := by rw [List.take_add_one, hr]; rfl
    have up : ∀ q : FRow, IsF h0 q → IsF s.heap q := fun q x => NestedIs.at (fun b o _ _ e _ => k b o e) _ _ x
    have hx := up r (hk r (List.mem_of_getElem? hr))
    have hks : ∀ q ∈ rows, IsF s.heap q := fun q hq => up q (hk q (List.mem_of_mem_take (g1 q hq)))
    have hl : (rows.map (·.1)).length ≤ (ddp (ks.map (·.1))).length := nodup_len R.keys fun x hx => by
      obtain ⟨q, hq, e⟩ := List.mem_map.mp hx
      exact mem_ddp.mpr (List.mem_map.mpr ⟨q, List.mem_of_mem_take (g1 q hq), e⟩)
    rw [List.length_map] at hl
    unfold setAdd
    refine wpAny_holding (wpAny_bind ((nestedKind P w).pyHash (show A.units + 8 < cLine from hu) (isF_kind hx) ?_))
    refine add_f (s := { s with toks := s.toks + (nestedKind P w).draws (keyF r.1) }) R hks hx hu (by omega) fun b h' rows' es' ep' t' sb R' c1 c2 => ?_
    refine hQ h' (s.toks + (nestedKind P w).draws (keyF r.1)) b (Nat.le_add_right _ _) sb ⟨fun c o e => (sb.2 c (old_ne e (Nat.le_refl _))).trans (k c o e), rows', es', ep', t', R', fun q hq => ?_, fun q hq => ?_⟩
    · rw [ht]
      by_cases hm : r.1 ∈ rows.map (·.1)
      · rw [c1 hm] at hq
        exact List.mem_append_left _ (g1 q hq)
      · rcases List.mem_cons.mp ((c2 hm).mem_iff.mp hq) with z | z
        · rw [z]
          exact List.mem_append_right _ List.mem_cons_self
        · exact List.mem_append_left _ (g1 q z)
    · rw [ht] at hq
      by_cases hm : r.1 ∈ rows.map (·.1)
      · rw [c1 hm]
        rcases List.mem_append.mp hq with z | z
        · exact g2 q z
        · rw [List.mem_singleton.mp z]
          exact hm
      · refine ((c2 hm).map (·.1)).mem_iff.mpr ?_
        rw [List.map_cons]
        rcases List.mem_append.mp hq with z | z
        · exact List.mem_cons_of_mem _ (g2 q z)
        · rw [List.mem_singleton.mp z]
          exact List.mem_cons_self
/-- set(xs), xs a tuple -/
theorem set_ofT {l : Addr} {items : Array Value} {Q : Value → Shared → Prop} {E : Value → Shared → Prop} {J : Nat → Heap → Prop} (hh : A.handled = none) (hl : s.heap.IsTuple l items)
    (T : ∀ A' : Around, A'.units ≤ A.units + 8 → Adds P w A' s.heap.objs.size [s.heap.objs.size + 1] J fun i v => items[i]? = some v)
    (j0 : ∀ h : Heap, h.get? s.heap.objs.size = some (fresh0 w) → (∀ b o, s.heap.get? b = some o → h.get? b = some o) → J 0 h)
    (h : ∀ (h' : Heap) (tk : Nat), J items.size h' → (∀ b o, b < s.heap.objs.size → s.heap.get? b = some o → h'.get? b = some o) → Q (.ref s.heap.objs.size) { s with heap := h', toks := tk }) :
    wpAny (model P w) A (call (.type "set") [.ref l]) Q E s := by
  obtain ⟨c, tl, hmro⟩ := F.called_set.mro
  have hmade := F.called_set.made
  have hsub := F.called_set.sub
  refine wpAny_call (codeAny_of_tree ?_)
  show wpAny _ _ (callAny (.type "set") _) _ _ _
  refine wpAny_pure ⟨Code.quiet_builtin _ (by decide +kernel), codeAny_builtin F.entry_type_call ?_⟩
  rw [Around.under_plain (weight_type_call_type "set" [.ref l] []) rfl]
  have h1 := F.called_set.notType
  have h2 := F.called_set.canCreate
  have hct := F.typeCall_set_1 (.ref l)
  repeat (any_goals (first | assumption | wp_step))

  refine codeAny_mono (code_set_led1 (.ref l) (E := E) (Q₁ := fun obj s₁ => obj = .ref s.heap.objs.size ∧ s₁ = { s with heap := s.heap.push (fresh0 w) }) ⟨rfl, rfl⟩) fun r s₁ hr => ?_
  cases r with
  | error e => exact hr
  | ok fl =>
    cases fl with
    | ret obj =>
      obtain ⟨rfl, rfl⟩ := hr
      have hS : (s.heap.push (fresh0 w)).get? s.heap.objs.size = some (fresh0 w) := Heap.get?_push_size _ rfl
      have hT : Shared.TypeIs { s with heap := s.heap.push (fresh0 w) } (.ref s.heap.objs.size) "set" := ⟨_, hS, rfl⟩
      have hli := F.called_set.init.lookup
      have hbi := F.called_set.init.bind (.ref s.heap.objs.size)
      repeat (any_goals (first | assumption | wp_step))

      refine codeAny_mono (codeAny_call_builtin (R := wants (fun r s₂ => r = .none ∧ ∃ h' tk, s₂ = { s with heap := h', toks := tk } ∧ J items.size h' ∧ (∀ b o, b < s.heap.objs.size → s.heap.get? b = some o → h'.get? b = some o)) E)
        F.called_set.init.plain F.entry_set_init (check_set_init_1 hT ?_)) fun r₂ s₂ hr₂ => ?_
      · obtain ⟨ol, hol, hcl, nl, hdl⟩ := hl
        obtain ⟨ocls, odict, odata, oslots⟩ := ol
        simp only at hcl hdl
        subst hcl; subst hdl
        have hol' : (s.heap.push (fresh0 w)).get? l = some { cls := .type "tuple", dict := odict, data := .seq items nl, slots := oslots } := Heap.get?_push_of_some _ hol
        have hsls := F.sub_tuple_set
        have hslf := F.sub_tuple_frozenset
        have hne : (Value.type "tuple" == Value.type "dict") = false := by decide
        have hl1 : (s.heap.push (fresh0 w)).IsTuple l items := ⟨_, hol', rfl, nl, rfl⟩
        unfold Builtin.«set.__init__» noKeywords Builtin.Frozenset.updateFrom
        generalize hPI : pyIter = PI
        wp_walk
        subst hPI

        refine wpAny_pyIter_tuple hl1 ?_
        refine wpAny_bind (wpAny_runValue ?_)
        have hlS : l < s.heap.objs.size := Heap.lt_size hol
        have hh3 : A.in1.in1.in1.handled = none := by simp [hh]
        have hz : (s.heap.push (fresh0 w)).objs.size = s.heap.objs.size + 1 := Heap.size_push ..
        have hneI : l ≠ (s.heap.push (fresh0 w)).objs.size := by
          rw [hz]; exact Nat.ne_of_lt (Nat.lt_succ_of_lt hlS)
        have hSf : s.heap.objs.size ∉ [(s.heap.push (fresh0 w)).objs.size, l] := by
          rw [hz]; simp only [List.mem_cons, List.mem_singleton, List.not_mem_nil, or_false, not_or]
          exact ⟨Nat.ne_of_lt (Nat.lt_succ_self _), Nat.ne_of_gt hlS⟩
        refine adds_loop (J := J) ((Walks.tuple hh3 _ l hneI items).toS)
          hSf (by rw [hz]; exact T _ (by show _ ≤ _; simp [Around.in1])) (items.size - 0) 0 _ (by omega) (Nat.zero_le _)
          ⟨⟨_, Heap.get?_push_size _ rfl, rfl, rfl⟩, (hl1.push _)⟩ (j0 _ (Heap.get?_push_of_some _ hS) fun b o e => Heap.get?_push_of_some _ (Heap.get?_push_of_some _ e)) ?hR
        case hR =>
          intro s' hm hS'
          obtain ⟨h', g2, d', tk', os'⟩ := s'
          have eg : g2 = s.gens := hm.gens
          have ed : d' = s.drawn := hm.drawn
          have eo : os' = s.os := hm.os
          subst eg; subst ed; subst eo
          show wpAny _ _ _ _ _ _
          refine wpAny_pure ?_
          show wpAny _ _ (ret Value.none) _ _ _
          refine wpAny_pure ⟨rfl, h', tk', rfl, hS', fun b o hb e => ?_⟩
          have hb1 : b ≠ s.heap.objs.size := Nat.ne_of_lt hb
          have hb2 : b ≠ (s.heap.push (fresh0 w)).objs.size := by
            rw [hz]; exact Nat.ne_of_lt (Nat.lt_succ_of_lt hb)
          exact hm.heap b o (by simp only [List.mem_cons, List.mem_singleton, List.not_mem_nil, or_false, not_or]; exact ⟨hb1, hb2⟩) (Heap.get?_push_of_some _ (Heap.get?_push_of_some _ e))
      · cases r₂ with
        | error e => exact hr₂
        | ok fl₂ =>
          cases fl₂ with
          | ret r =>
            obtain ⟨rfl, h', tk, rfl, hS', hk'⟩ := hr₂
            repeat (any_goals (first | assumption | wp_step))
            exact h _ _ hS' hk'
          | _ => exact hr₂.elim
    | _ => exact hr.elim
theorem set_flows {l : Addr} {items : Array Value} {ks : List FRow} {Q : Value → Shared → Prop} (hh : A.handled = none) (hl : s.heap.IsList l items ∨ s.heap.IsTuple l items) (hit : items.toList = ks.map fun r => Value.ref r.2) (hk : ∀ r ∈ ks, IsF s.heap r)
    (hb : (ddp (ks.map (·.1))).length < 63) (hu : A.units + 16 < cLine)
    (h : ∀ (h' : Heap) (tk : Nat) rows es ep t, SetR w (HF P w) h' s.heap.objs.size rows es ep t → (∀ r ∈ rows, r ∈ ks) → (∀ r ∈ ks, r.1 ∈ rows.map (·.1)) → (∀ b o, s.heap.get? b = some o → h'.get? b = some o) → Q (.ref s.heap.objs.size) { s with heap := h', toks := tk }) :
    wpAny (model P w) A (call (.type "set") [.ref l]) Q E s := by
  have hsz : items.size = ks.length := by
    have q := congrArg List.length hit
    rwa [Array.length_toList, List.length_map] at q
  have hv : ∀ (i : Nat) (v : Value), items[i]? = some v → ∃ r, ks[i]? = some r ∧ v = Value.ref r.2 := fun i v e => by
    have q : items.toList[i]? = some v := by rw [Array.getElem?_toList]; exact e
    rw [hit, List.getElem?_map] at q
    cases hq : ks[i]? with
    | none => rw [hq] at q; cases q
    | some r =>
      rw [hq] at q
      exact ⟨r, rfl, (Option.some.inj q).symm⟩
  have a0 : ∀ h : Heap, h.get? s.heap.objs.size = some (fresh0 w) → (∀ b o, s.heap.get? b = some o → h.get? b = some o) → GotF P w s.heap ks 0 h := fun h ho kp =>
    ⟨kp, [], #[], 0, _, setR_0 ho, fun r hr => (by cases hr), fun r hr => (by simp at hr)⟩
  have a1 : ∀ (h' : Heap) (tk : Nat), GotF P w s.heap ks items.size h' → (∀ b o, b < s.heap.objs.size → s.heap.get? b = some o → h'.get? b = some o) → Q (.ref s.heap.objs.size) { s with heap := h', toks := tk } := fun h' tk ⟨kp, rows, es, ep, t, R, g1, g2⟩ _ => by
    rw [hsz, List.take_length] at g1 g2
    exact h h' tk rows es ep t R g1 g2 kp
  rcases hl with hl | hl
  · exact set_of (J := fun i h => GotF P w s.heap ks i h) hh hl (fun A' hA => adds_f hv hk hb (by omega)) a0 a1
  · exact set_ofT (J := fun i h => GotF P w s.heap ks i h) hh hl (fun A' hA => adds_f hv hk hb (by omega)) a0 a1
end
/-! ### the order of flows -/
theorem str_cps {x y : Str} (h : x.cps.toList = y.cps.toList) : x = y := by
  rcases Classical.em (x = y) with e | e
  · exact e
  · exfalso
    have q := strLt_total (x := x) (y := y) (by unfold strLt; rw [h]; exact decide_eq_false (List.lt_irrefl _)) e
    unfold strLt at q
    rw [h] at q
    exact List.lt_irrefl _ (of_decide_eq_true q)
theorem toksF_inj {f g : Fl} (h : PySem.W.keyToks (encF f) = PySem.W.keyToks (encF g)) : f = g := by
  obtain ⟨x, t⟩ := f
  obtain ⟨y, u⟩ := g
  cases t with
  | nm a =>
    cases u with
    | nm b =>
      simp only [encF, encG, PySem.W.keyToks, PySem.W.keyToksAll, List.cons_append, List.nil_append, List.cons.injEq, Sum.inr.injEq, true_and, and_true] at h
      rw [str_cps h.1, str_cps h.2]
    | pg b =>
      simp only [encF, encG, PySem.W.keyToks, PySem.W.keyToksAll, List.cons_append, List.nil_append, List.cons.injEq, Sum.inr.injEq, true_and, and_true] at h
      exact absurd h (by simp)
  | pg a =>
    cases u with
    | nm b =>
      simp only [encF, encG, PySem.W.keyToks, PySem.W.keyToksAll, List.cons_append, List.nil_append, List.cons.injEq, Sum.inr.injEq, true_and, and_true] at h
      exact absurd h (by simp)
    | pg b =>
      simp only [encF, encG, PySem.W.keyToks, PySem.W.keyToksAll, List.cons_append, List.nil_append, List.cons.injEq, Sum.inr.injEq, Sum.inl.injEq, true_and, and_true] at h
      rw [str_cps h.1, h.2]
def LeF (f g : Fl) : Prop := dataLe false encF f g = true
theorem leF_anti {f g : Fl} (h : LeF f g) (k : LeF g f) : f = g := by
  have h1 : (!PyProof.Rows.lexLt PyProof.Rows.itemOrd (PySem.W.keyToks (encF g)) (PySem.W.keyToks (encF f))) = true := h
  have k1 : (!PyProof.Rows.lexLt PyProof.Rows.itemOrd (PySem.W.keyToks (encF f)) (PySem.W.keyToks (encF g))) = true := k
  exact toksF_inj ((PyProof.Rows.listOrd PyProof.Rows.itemOrd).total _ _ (by simpa using k1) (by simpa using h1))
theorem sortF_up (fs : List Fl) : (sortF fs).Pairwise LeF := PySem.W.sort_pairwise (PySem.W.sortLe_total _ false _) fs
theorem sortF_iff (fs : List Fl) : (sortF fs).Perm fs := List.mergeSort_perm _ _
theorem sortF_perm {fs gs : List Fl} (p : fs.Perm gs) : sortF fs = sortF gs :=
  List.Perm.eq_of_pairwise (le := LeF) (fun _ _ _ _ => leF_anti) (sortF_up fs) (sortF_up gs) ((sortF_iff fs).trans (p.trans (sortF_iff gs).symm))
def upF (fs : List Fl) : List Fl := sortF (ddp fs)
theorem mem_upF {f : Fl} {fs : List Fl} : f ∈ upF fs ↔ f ∈ fs := (sortF_iff _).mem_iff.trans mem_ddp
theorem upF_nodup (fs : List Fl) : (upF fs).Nodup := (sortF_iff _).nodup_iff.mpr (ddp_nodup fs)
theorem upF_same {fs gs : List Fl} (h : ∀ f, f ∈ fs ↔ f ∈ gs) : upF fs = upF gs :=
  sortF_perm ((List.perm_ext_iff_of_nodup (ddp_nodup fs) (ddp_nodup gs)).mpr fun f => by rw [mem_ddp, mem_ddp]; exact h f)
theorem upF_of {fs gs : List Fl} (nd : gs.Nodup) (h : ∀ f, f ∈ gs ↔ f ∈ fs) : sortF gs = upF fs :=
  sortF_perm ((List.perm_ext_iff_of_nodup nd (ddp_nodup fs)).mpr fun f => by rw [mem_ddp]; exact h f)
theorem map_back {α β : Type} {f : α → β} {k m : List β} (h : k.Perm m) : ∀ {l : List α}, l.map f = k → ∃ l', l.Perm l' ∧ m = l'.map f := by
  induction h with
  | nil => exact fun {l} e => ⟨l, .refl _, e.symm⟩
  | cons x h ih =>
    intro l e
    cases l with
    | nil => cases e
    | cons a l =>
      cases e
      obtain ⟨l', p, q⟩ := ih rfl
      exact ⟨a :: l', p.cons a, by rw [q]; rfl⟩
  | swap x y r =>
    intro l e
    match l, e with
    | a :: b :: l, e =>
      cases e
      exact ⟨b :: a :: l, .swap .., rfl⟩
  | trans _ _ ih1 ih2 =>
    intro l e
    obtain ⟨l1, p1, e1⟩ := ih1 e
    obtain ⟨l2, p2, e2⟩ := ih2 e1.symm
    exact ⟨l2, p1.trans p2, e2⟩
theorem each_rows {R : Value → Fl → Prop} : ∀ {rows : List FRow}, (∀ r ∈ rows, R (.ref r.2) r.1) → EachIs R (rows.map fun r => Value.ref r.2) (rows.map (·.1))
  | [], _ => .nil
  | r :: rows, h => .cons (h r List.mem_cons_self) (each_rows fun q hq => h q (List.mem_cons_of_mem _ hq))
section
variable {P : Program} {w : World} {A : Around} {E : Value → Shared → Prop} {s : Shared} {a : Addr} {rows : List FRow} {es : Array (Int × Value)} {ep : Nat} {t : SetTable}
theorem sorted_setF {R : Value → Fl → Prop} {Q : Value → Shared → Prop} (S : SetR w (HF P w) s.heap a rows es ep t) (hh : A.handled = none) (hu : A.units + 24 < cLine)
    (hk : ∀ r ∈ rows, ∃ as, Reads s.heap (.ref r.2) (encF r.1) as) (hR : ∀ r ∈ rows, R (.ref r.2) r.1)
    (hQ : ∀ s' p (out : Array Value) (c : Nat), (∀ b o, s.heap.get? b = some o → s'.heap.get? b = some o) → s'.gens = s.gens → s'.os = s.os → s.heap.objs.size ≤ p →
      s'.heap.get? p = some (seqObj "list" out c) → EachIs R out.toList (sortF (rows.map (·.1))) → Q (.ref p) s') :
    wpAny (model P w) A (call (.builtin "sorted") [.ref a]) Q E s := by
  obtain ⟨o, ho, hex, hd⟩ := S.obj
  have hsz := ents_size S.ents
  have hfew := S.few
  have h16 : sizeLine = 16777216 := by first | exact sizeLine_eq | rfl
  refine Calls.call_function_entry kind_sorted plain_sorted entry_sorted (args_sorted1 _) ?_
  unfold Builtin.«sorted»
  refine wpAny_bind (m := checkCount "sorted" 1 1 _) (wpAny_pure ?_)
  refine wpAny_bind (collect_set (A := A.in1) hh ⟨o, ho, hex.1, hd⟩ S.fit (by unfold scanBound; omega) S.tab.ris S.led fun s1 vs k1 hz g1 o1 pm => ?_)
  have hes : es.toList.map (·.2) = rows.map fun r => Value.ref r.2 := by
    rw [S.ents, List.map_map]
    rfl
  rw [hes] at pm
  obtain ⟨rows1, p1, e1⟩ := map_back pm.symm rfl
  subst e1
  have hvl : (rows1.map fun r => Value.ref r.2).length = rows.length := by rw [List.length_map, p1.length_eq]
  refine wpAny_bind (wpAny_newList ?_ (by rw [hvl]; omega))
  generalize hvs : rows1.map (fun r : FRow => Value.ref r.2) = vs at hvl ⊢
  have hoL : (s1.heap.push (seqObj "list" vs.toArray 0)).get? s1.heap.objs.size = some (seqObj "list" vs.toArray 0) := Heap.get?_push_size _ rfl
  have hin := Fn.in1_units A
  have each : ∀ {R' : Value → Fl → Prop}, (∀ r ∈ rows, R' (.ref r.2) r.1) → EachIs R' vs (rows1.map (·.1)) := fun h => by
    rw [← hvs]
    exact each_rows fun r hr => h r (p1.mem_iff.mpr hr)
  refine wpAny_bind (wpAny_holding (list_sort_flows (s := { s1 with heap := s1.heap.push (seqObj "list" vs.toArray 0) }) hoL (each hR) (each fun r hr => ?_) (by rw [List.length_map, ← p1.length_eq]; omega) (by omega) fun out a1 a2 => ?_))
  · obtain ⟨as, q⟩ := hk r hr
    exact ⟨as, PyProof.Rows.Reads.keeps (fun b o e => Heap.get?_push_of_some _ (k1 b o e)) q⟩
  · obtain ⟨c, hc⟩ := sortedHeap_at (vs := vs) (out := out.toArray) hoL
    have a2' : EachIs R out (sortF (rows1.map (·.1))) := a2
    rw [← sortF_perm (p1.map (·.1))] at a2'
    refine wpAny_pure ⟨_, rfl, hQ _ s1.heap.objs.size out.toArray c (fun b u e => ?_) g1 o1 hz hc a2'⟩
    have q := k1 b u e
    have hlt := Heap.lt_size q
    show (sortedHeap (s1.heap.push (seqObj "list" vs.toArray 0)) s1.heap.objs.size vs out.toArray).get? b = some u
    rw [sortedHeap_old (Nat.ne_of_lt hlt) (by rw [size_push']; exact Nat.lt_succ_of_lt hlt)]
    exact Heap.get?_push_of_some _ q
end
/-! ### the rules -/
def SetFO (P : Program) (w : World) (a : Addr) (rows : List FRow) : HO := .ext fun h => ∃ es ep t, SetR w (HF P w) h a rows es ep t
theorem setFO_new {P : Program} {w : World} {H : Hp} {h : Heap} {a : Addr} {rows : List FRow} {es : Array (Int × Value)} {ep : Nat} {t : SetTable} (R : SetR w (HF P w) h a rows es ep t) : ObjOk P w H h a (SetFO P w a rows) := by
  have ⟨o, ho, _⟩ := R.obj
  exact ⟨⟨es, ep, t, R⟩, ⟨o, ho⟩, fun h1 h2 ⟨es, ep, t, p⟩ k => ⟨es, ep, t, p.at k⟩⟩
theorem rows_of {H : Hp} : ∀ {fs : List Fl} {us : List V}, DrAll H us (fs.map encF) → ∃ rows : List FRow, rows.map (·.1) = fs ∧ us = rows.map (fun r => V.ref r.2) ∧ ∀ r ∈ rows, Dr H (.ref r.2) (encF r.1)
  | [], _, h => by
    cases h
    exact ⟨[], rfl, rfl, fun r hr => by cases hr⟩
  | f :: fs, _, h => by
    cases h with
    | cons h1 h2 =>
      obtain ⟨rows, e1, e2, e3⟩ := rows_of h2
      have h1' := h1
      cases h1 with
      | @tup a vs ds ha hs =>
        refine ⟨(f, a) :: rows, by rw [← e1]; rfl, by rw [e2]; rfl, fun r hr => ?_⟩
        rcases List.mem_cons.mp hr with z | z
        · rw [z]
          exact h1'
        · exact e3 r z
theorem refs_rows : ∀ {rows : List FRow} {us : List Value}, Vals (rows.map fun r => V.ref r.2) us → us = rows.map fun r => Value.ref r.2
  | [], _, .nil => rfl
  | r :: rows, _, .cons h t => by
    cases h
    rw [refs_rows t]
    rfl
def rSetF (K : PySem.W.Frag) (P : Program) (w : World) : List V → Hp → VK → Prop := fun vs H Q => ∃ (a : Addr) (us : List V) (fs : List Fl) (G : Hp), vs = [.ref a] ∧ Same G H ∧ (SqL K H a us ∨ SqT K H a us) ∧ DrAll G us (fs.map encF) ∧ (ddp fs).length < 63 ∧
  ∀ p rows, H p = none → KeysIn G rows → sortF (rows.map (·.1)) = upF fs → rows.length < 64 → Q (.ref p) (upd H p (SetFO P w p rows))
def rSortSF (P : Program) (w : World) : List V → Hp → VK → Prop := fun vs H Q => ∃ (a : Addr) (rows : List FRow) (G : Hp), vs = [.ref a] ∧ Same G H ∧ H a = some (SetFO P w a rows) ∧ KeysIn G rows ∧ rows.length < 64 ∧
  ∀ p us, H p = none → DrAll G us ((sortF (rows.map (·.1))).map encF) → Q (.ref p) (upd H p (.lst us))
section
variable {X : Cx}
theorem cr_setF (hc : X.calm = true) (hu : X.A.units + 64 < cLine) : CallR X (.type "set") (rSetF X.K X.prog X.w) := by
  intro pins s σ H vs us Q I r h
  obtain ⟨a, ws, fs, G, rfl, sG, hq, hd, hb, q⟩ := h
  obtain ⟨ks, rfl, rfl, hk⟩ := rows_of hd
  rw [Vals.ref1 r]
  obtain ⟨its, rv, hl⟩ : ∃ its : List Value, Vals (ks.map fun r => V.ref r.2) its ∧ (s.heap.IsList a its.toArray ∨ s.heap.IsTuple a its.toArray) := by
    rcases hq with h | h
    · obtain ⟨its, rv, h, _⟩ := I.list h
      exact ⟨its, rv, .inl h.isList⟩
    · obtain ⟨its, rv, h, _⟩ := I.tuple h
      exact ⟨its, rv, .inr h⟩
  have hn : H s.heap.objs.size = none := I.hok.fresh (Nat.le_refl _)
  refine set_flows (ks := ks) (I.ok.hd hc) hl (by rw [refs_rows rv]) (fun r hr => ?_) hb (by omega) fun h' tk rows es ep t R g1 g2 k => ?_
  · obtain ⟨as, q⟩ := reads_of I ((hk r hr).up sG)
    exact reads_keyF q
  · exact ⟨.ref _, upd H s.heap.objs.size (SetFO X.prog X.w s.heap.objs.size rows), I.laid (t' := tk) (fun b o e => k b o e) (Nat.le_refl _) (setFO_new R), rfl, q _ rows hn (fun r hr => hk r (g1 r hr)) (upF_of R.keys fun f => ⟨fun hf => by
      obtain ⟨r, hr, e⟩ := List.mem_map.mp hf
      exact List.mem_map.mpr ⟨r, g1 r hr, e⟩, fun hf => by
      obtain ⟨r, hr, e⟩ := List.mem_map.mp hf
      rw [← e]
      exact g2 r hr⟩) R.few⟩
theorem cr_sortSF (hc : X.calm = true) (hu : X.A.units + 100 < cLine) : CallR X (.builtin "sorted") (rSortSF X.prog X.w) := by
  intro pins s σ H vs us Q I r h
  obtain ⟨a, rows, G, rfl, sG, ha, hk, hf, q⟩ := h
  obtain ⟨es, ep, t, R⟩ : ∃ es ep t, SetR X.w (HF X.prog X.w) s.heap a rows es ep t := (I.hok a _ ha).1
  rw [Vals.ref1 r]
  refine sorted_setF (R := fun u f => ∃ v, RelV v u ∧ Dr G v (encF f)) R (I.ok.hd hc) (by omega) (fun r hr => reads_of I ((hk r hr).up sG)) (fun r hr => ⟨.ref r.2, rfl, hk r hr⟩) fun s' p out c k g o hp hg he => ?_
  obtain ⟨ws, w1, w2⟩ := vals_each (PySem.W.each_map (R := fun u d => ∃ v, RelV v u ∧ Dr G v d) encF he)
  have h16 : sizeLine = 16777216 := by first | exact sizeLine_eq | rfl
  have hlen : ws.length ≤ sizeLine := by
    have e : ws.length = rows.length := by rw [w2.len, List.length_map, (sortF_iff _).length_eq, List.length_map]
    omega
  have hn : H p = none := I.hok.fresh hp
  have J : Inv X pins σ (upd H p (.lst ws)) { s with heap := s'.heap, gens := s'.gens, drawn := s'.drawn, toks := s'.toks } :=
    I.call (ch := []) (Un.laid k hp hn) (I.hok.laid k hp ⟨hlen, out.toList, c, w1, hg⟩) (by rw [g]; exact I.bare) (fun _ z => nomatch z)
  have e : s' = { s with heap := s'.heap, gens := s'.gens, drawn := s'.drawn, toks := s'.toks } := by
    cases s'
    cases s
    cases o
    rfl
  rw [e]
  exact ⟨.ref p, _, J, rfl, q p ws hn w2⟩
end
section
variable {P : Program} {w : World} {K : PySem.W.Frag} {Γ : List Ds} {t : TE}
theorem ev_sortSF {fs : List Fl} (h : EvS K t Γ (fs.map encF)) (hb : (ddp fs).length < 63) : Ev K (tCB (rSortSF P w) (tCons (tCB (rSetF K P w) (tCons t tNil)) tNil)) Γ (.dat (.list ((upF fs).map encF))) := fun G0 H0 G H σ E Q q =>
  h G0 H0 G H σ E _ fun a vs G1 H1 e1 hp hs => by
    refine ⟨a, vs, fs, G1, rfl, e1.i, .inl (SqL.of hp), hs, hb, fun p rows np hk he hf => ⟨p, rows, G1, rfl, e1.i.trans (same_up np), upd_same, hk, hf, fun p2 us np2 hd => ?_⟩⟩
    have e2 := e1.trans (Ext.hid (o := SetFO P w p rows) e1.i np)
    rw [he] at hd
    exact q _ _ _ (e2.trans (Ext.new e2.i np2)) (.lst upd_same (hd.up (same_up (e2.i.free np2))))
theorem ev_sortSFt {fs : List Fl} (h : Ev K t Γ (.dat (.tuple (fs.map encF)))) (hb : (ddp fs).length < 63) : Ev K (tCB (rSortSF P w) (tCons (tCB (rSetF K P w) (tCons t tNil)) tNil)) Γ (.dat (.list ((upF fs).map encF))) := fun G0 H0 G H σ E Q q =>
  h G0 H0 G H σ E _ fun v G1 H1 e1 hd => by
    cases hd with
    | @tup a vs ds ht hs =>
      refine ⟨a, vs, fs, G1, rfl, e1.i, .inr (ht.up e1.i).sq, hs, hb, fun p rows np hk he hf => ⟨p, rows, G1, rfl, e1.i.trans (same_up np), upd_same, hk, hf, fun p2 us np2 hd => ?_⟩⟩
      have e2 := e1.trans (Ext.hid (o := SetFO P w p rows) e1.i np)
      rw [he] at hd
      exact q _ _ _ (e2.trans (Ext.new e2.i np2)) (.lst upd_same (hd.up (same_up (e2.i.free np2))))
end
end Fs
/-! ### what is a term, a deed, a program, a house: of any data -/
namespace Wk
open PySem PySem.Spec L2 Fw
def item (i : Nat) : PyData → PyData
  | .tuple xs => xs.getD i .none
  | _ => .none
def isNum (most : Int) : PyData → Bool
  | .int i => decide (0 ≤ i) && decide (i ≤ most)
  | _ => false
def abcB (z : Str) : Bool := (signsD z).all fun d => match d with | .str ⟨#[c]⟩ => decide (c ∈ abc.cps.toList) | _ => false
def isNm : PyData → Bool
  | .str z => (decide (1 ≤ (z.length : Int)) && decide ((z.length : Int) ≤ 3)) && abcB z
  | _ => false
def form (heads : List Str) (n : Nat) : PyData → Bool
  | .tuple (.str h :: r) => decide (((r.length + 1 : Nat) : Int) = (n : Int)) && decide (h ∈ heads)
  | _ => false
def isTm : Nat → PyData → Bool
  | 0, _ => false
  | n + 1, d => if form ["number"] 2 d then isNum 996 (item 1 d) else if form ["name"] 2 d then isNm (item 1 d) else form ["sum", "times", "less"] 3 d && (isTm n (item 1 d) && isTm n (item 2 d))
mutual
def isDd : Nat → PyData → Bool
  | 0, _ => false
  | n + 1, d => if form ["put"] 3 d then isNm (item 1 d) && isTm n (item 2 d) else if form ["show"] 3 d then isNum 2 (item 1 d) && isTm n (item 2 d) else if form ["while"] 3 d then isTm n (item 1 d) && isPg n (item 2 d)
    else form ["if"] 4 d && (isTm n (item 1 d) && (isPg n (item 2 d) && isPg n (item 3 d)))
def isPg : Nat → PyData → Bool
  | 0, _ => false
  | n + 1, .tuple xs => xs.all (isDd n)
  | _ + 1, _ => false
end
/-! short texts, short lists -/
mutual
def sml : PyData → Bool
  | .str z => decide (z.length ≤ 1000)
  | .list xs => decide (xs.length ≤ 1000) && smlL xs
  | .tuple xs => decide (xs.length ≤ 1000) && smlL xs
  | .dict _ => false
  | .none => true
  | .bool _ => true
  | .int _ => true
def smlL : List PyData → Bool
  | [] => true
  | d :: r => sml d && smlL r
end
theorem smlL_mem : ∀ {xs : List PyData}, smlL xs = true → ∀ d ∈ xs, sml d = true
  | [], _, d, h => by cases h
  | e :: r, h, d, hd => by
    rw [smlL, Bool.and_eq_true] at h
    rcases List.mem_cons.mp hd with q | q
    · subst q; exact h.1
    · exact smlL_mem h.2 d q
theorem smlL_of : ∀ {xs : List PyData}, (∀ d ∈ xs, sml d = true) → smlL xs = true
  | [], _ => by rw [smlL]
  | e :: r, h => by
    rw [smlL, h e List.mem_cons_self, smlL_of fun d hd => h d (List.mem_cons_of_mem _ hd)]
    rfl
theorem sml_tup {xs : List PyData} (hl : xs.length ≤ 1000) (h : ∀ d ∈ xs, sml d = true) : sml (.tuple xs) = true := by
  rw [sml, decide_eq_true hl, smlL_of h]
  rfl
theorem depth_mem : ∀ {xs : List PyData}, ∀ d ∈ xs, d.depth ≤ PyData.depthAll xs
  | [], d, h => by cases h
  | e :: r, d, h => by
    rw [PyData.depthAll]
    rcases List.mem_cons.mp h with q | q
    · subst q; omega
    · have := depth_mem (xs := r) d q; omega
/-- data to be looked at, less than n deep -/
structure Dt (n : Nat) (d : PyData) : Prop where
  s : sml d = true
  d : d.depth < n
theorem Dt.mem {n : Nat} {xs : List PyData} (h : Dt (n + 1) (.tuple xs)) : ∀ d ∈ xs, Dt n d := fun d hd => by
  have hs := h.s
  have hd' := h.d
  rw [sml, Bool.and_eq_true] at hs
  rw [PyData.depth] at hd'
  exact ⟨smlL_mem hs.2 d hd, by have := depth_mem d hd; omega⟩
theorem Dt.len {n : Nat} {xs : List PyData} (h : Dt n (.tuple xs)) : xs.length ≤ 1000 := by
  have hs := h.s
  rw [sml, Bool.and_eq_true] at hs
  exact of_decide_eq_true hs.1
theorem Dt.str {n : Nat} {z : Str} (h : Dt n (.str z)) : z.length ≤ 1000 := by
  have hs := h.s
  rw [sml] at hs
  exact of_decide_eq_true hs
theorem Dt.le {n m : Nat} {d : PyData} (h : Dt n d) (e : n ≤ m) : Dt m d := ⟨h.s, Nat.lt_of_lt_of_le h.d e⟩
theorem form_tup {heads : List Str} {n : Nat} {d : PyData} (h : form heads n d = true) : ∃ z r, d = .tuple (.str z :: r) ∧ r.length + 1 = n ∧ z ∈ heads := by
  unfold form at h
  split at h
  · rename_i z r
    rw [Bool.and_eq_true] at h
    have h1 := of_decide_eq_true h.1
    exact ⟨z, r, rfl, by omega, of_decide_eq_true h.2⟩
  · cases h
/-- the i-th of a tuple of that form -/
theorem form_item {heads : List Str} {n k i : Nat} {d : PyData} (h : form heads k d = true) (hd : Dt (n + 1) d) (hi : i < k) : ∃ xs, d = .tuple xs ∧ xs[i]? = some (item i d) ∧ Dt n (item i d) := by
  obtain ⟨z, r, rfl, hl, _⟩ := form_tup h
  have hlt : i < (PyData.str z :: r).length := by rw [List.length_cons]; omega
  have e : (PyData.str z :: r)[i]? = some (item i (.tuple (.str z :: r))) := by
    show _ = some ((PyData.str z :: r).getD i .none)
    rw [List.getD_eq_getElem?_getD, List.getElem?_eq_getElem hlt]
    rfl
  exact ⟨_, rfl, e, hd.mem _ (List.mem_of_getElem? e)⟩
def isTup : PyData → Bool
  | .tuple _ => true
  | _ => false
def isStr : PyData → Bool
  | .str _ => true
  | _ => false
def isIntB : PyData → Bool
  | .int _ => true
  | .bool _ => true
  | _ => false
def isBl : PyData → Bool
  | .bool _ => true
  | _ => false
section
variable {K : PySem.W.Frag} {Γ : List Ds} {te ta tb : TE} {d : PyData}
theorem ev_isTup (h : Ev K te Γ (.dat d)) : Ev K (tCB (rIsi K) (tCons te (tCons (tC (.ty "tuple")) tNil))) Γ (.dat (.bool (isTup d))) := by
  cases d <;> exact ev_isi h rfl (.ty _)
theorem ev_isStr (h : Ev K te Γ (.dat d)) : Ev K (tCB (rIsi K) (tCons te (tCons (tC (.ty "str")) tNil))) Γ (.dat (.bool (isStr d))) := by
  cases d <;> exact ev_isi h rfl (.ty _)
theorem ev_isIntB (h : Ev K te Γ (.dat d)) : Ev K (tCB (rIsi K) (tCons te (tCons (tC (.ty "int")) tNil))) Γ (.dat (.bool (isIntB d))) := by
  cases d <;> exact ev_isi h rfl (.ty _)
theorem ev_isBl (h : Ev K te Γ (.dat d)) : Ev K (tCB (rIsi K) (tCons te (tCons (tC (.ty "bool")) tNil))) Γ (.dat (.bool (isBl d))) := by
  cases d <;> exact ev_isi h rfl (.ty _)
theorem inV_str (x : Str) : ∀ hs : List Str, inV (.str x) (hs.map V.str) = decide (x ∈ hs)
  | [] => by simp [inV]
  | h :: r => by
    show (eqV (.str h) (.str x) || inV (.str x) (r.map V.str)) = _
    rw [inV_str x r]
    by_cases e : h = x
    · subst e; simp [eqV]
    · have e' : ¬ x = h := fun q => e q.symm
      simp [eqV, e, e']
theorem ev_inT {x : Str} {hs : List Str} (ha : Ev K ta Γ (.dat (.str x))) (hb : Ev K tb Γ (.dat (.tuple (hs.map .str)))) : Ev K (tOp (rIn K false) ta tb) Γ (.dat (.bool (decide (x ∈ hs)))) :=
  ev_bin ha hb fun G H u v s hu hv Q q => by
    cases hu
    cases hv with
    | tup hp hq =>
      have e := hq.strs
      subst e
      refine ⟨_, _, rfl, .inr (hp.up s).sq, rfl, ?_, ?_⟩
      · rw [List.all_map]
        exact List.all_eq_true.mpr fun _ _ => rfl
      · rw [if_neg (by decide), inV_str]
        exact q _ G H (Ext.refl s) (.bl _)
theorem ev_ltS {x y : Str} (ha : Ev K ta Γ (.dat (.str x))) (hb : Ev K tb Γ (.dat (.str y))) : Ev K (tOp (fun x y H Q => ∃ i j, x = .str i ∧ y = .str j ∧ Q (.bl (decide (i.cps.toList < j.cps.toList))) H) ta tb) Γ (.dat (.bool (strLt x y))) :=
  ev_bin ha hb fun G H u v s hu hv Q q => by
    cases hu; cases hv
    exact ⟨x, y, rfl, rfl, q _ G H (Ext.refl s) (.bl _)⟩
end
def PrNumB : List Ds → PyData → Prop := fun xs o => ∃ (d : PyData) (most : Int), xs = [.dat d, .dat (.int most)] ∧ o = .bool (isNum most d)
def PrNmB : List Ds → PyData → Prop := fun xs o => ∃ (d : PyData), xs = [.dat d] ∧ sml d = true ∧ o = .bool (isNm d)
def PrForm : List Ds → PyData → Prop := fun xs o => ∃ (d : PyData) (hs : List Str) (n : Nat), xs = [.dat d, .dat (.tuple (hs.map .str)), .dat (.int (n : Nat))] ∧ 0 < n ∧ o = .bool (form hs n d)
def PrTmB (n : Nat) : List Ds → PyData → Prop := fun xs o => ∃ (d : PyData), xs = [.dat d] ∧ Dt n d ∧ o = .bool (isTm n d)
def PrDdB (n : Nat) : List Ds → PyData → Prop := fun xs o => ∃ (d : PyData), xs = [.dat d] ∧ Dt n d ∧ o = .bool (isDd n d)
def PrPgB (n : Nat) : List Ds → PyData → Prop := fun xs o => ∃ (d : PyData), xs = [.dat d] ∧ Dt n d ∧ o = .bool (isPg n d)
def pairOk (most : Int) (d : PyData) : Bool := match d with
  | .tuple [a, b] => isNm a && isNum most b
  | _ => false
def keyS : PyData → Str
  | .tuple (.str x :: _) => x
  | _ => ""
def isPairs (most : Int) : PyData → Bool
  | .tuple xs => xs.all (pairOk most) && ((List.range (xs.length - 1)).all fun k => strLt (keyS (xs.getD k .none)) (keyS (xs.getD (k + 1) .none)))
  | _ => false
def PrPairs : List Ds → PyData → Prop := fun xs o => ∃ (d : PyData) (most : Int), xs = [.dat d, .dat (.int most)] ∧ sml d = true ∧ o = .bool (isPairs most d)
def PrPairsB (most : Int) : List Ds → PyData → Prop := fun xs o => ∃ (d : PyData), xs = [.dat d] ∧ sml d = true ∧ o = .bool (isPairs most d)
end Wk
namespace Wk
open PySem PySem.Spec L2 Fw
/-! ### good names, terms, programs -/
theorem nm_abc {l : List Nat} (h : ∀ c ∈ l, 97 ≤ c ∧ c < 123) : abcB (Sg l) = true := by
  unfold abcB signsD
  refine List.all_eq_true.mpr fun d hd => ?_
  obtain ⟨c, hc, rfl⟩ := List.mem_map.mp hd
  have hc := h c (by simpa [Sg] using hc)
  show decide (c ∈ abc.cps.toList) = true
  rw [abc_codes]
  exact decide_eq_true (List.mem_map.mpr ⟨c - 97, List.mem_range.mpr (by omega), by omega⟩)
theorem nm_is {ns : List Int} : ∀ x ∈ nmS ns, isNm (.str x) = true ∧ x.length ≤ 1000 := by
  intro x hx
  obtain ⟨k, _, rfl⟩ := List.mem_map.mp hx
  have hl : (nameS (cell ns 0) k).length = (tailC (cell ns 0)).length + 1 := by
    unfold nameS
    rw [sg_len, nameC_len]
  have h2 := tailC_le (cell ns 0)
  refine ⟨?_, by omega⟩
  unfold isNm
  have hz := nm_abc (nameC_abc (cell ns 0) k)
  show ((decide (1 ≤ (((nameS (cell ns 0) k).length : Nat) : Int)) && decide ((((nameS (cell ns 0) k).length : Nat) : Int) ≤ 3)) && abcB (nameS (cell ns 0) k)) = true
  rw [decide_eq_true (show 1 ≤ (((nameS (cell ns 0) k).length : Nat) : Int) by omega), decide_eq_true (show (((nameS (cell ns 0) k).length : Nat) : Int) ≤ 3 by omega)]
  exact hz
def NmOk (nm : List Str) : Prop := ∀ x ∈ nm, isNm (.str x) = true ∧ x.length ≤ 1000
theorem isNum_int (m i : Int) : isNum m (.int i) = (decide (0 ≤ i) && decide (i ≤ m)) := rfl
theorem isTm_ok {nm : List Str} (hn : NmOk nm) : ∀ (t : Tm) (n : Nat), t.ok nm → t.depth < n → isTm n (encT t) = true
  | .num i, n + 1, h, _ => by
    show isNum 996 (.int i) = true
    rw [isNum_int, decide_eq_true h.1, decide_eq_true h.2]
    rfl
  | .nam x, n + 1, h, _ => (hn x h).1
  | .bin o a b, n + 1, h, hd => by
    have hd : max a.depth b.depth + 1 < n + 1 := hd
    have e : isTm (n + 1) (encT (.bin o a b)) = (isTm n (encT a) && isTm n (encT b)) := by cases o <;> rfl
    rw [e, isTm_ok hn a n h.1 (by omega), isTm_ok hn b n h.2 (by omega)]
    rfl
theorem sml_t {nm : List Str} (hn : NmOk nm) : ∀ (t : Tm), t.ok nm → sml (encT t) = true
  | .num i, _ => sml_tup (by show 2 ≤ 1000; decide) fun d hd => by
    simp only [List.mem_cons, List.not_mem_nil, or_false] at hd
    rcases hd with e | e <;> subst e
    · decide +kernel
    · rfl
  | .nam x, h => sml_tup (by show 2 ≤ 1000; decide) fun d hd => by
    simp only [List.mem_cons, List.not_mem_nil, or_false] at hd
    rcases hd with e | e <;> subst e
    · decide +kernel
    · rw [sml]; exact decide_eq_true (hn x h).2
  | .bin o a b, h => sml_tup (by show 3 ≤ 1000; decide) fun d hd => by
    simp only [List.mem_cons, List.not_mem_nil, or_false] at hd
    rcases hd with e | e | e <;> subst e
    · cases o <;> decide +kernel
    · exact sml_t hn a h.1
    · exact sml_t hn b h.2
theorem depth_t : ∀ t : Tm, (encT t).depth ≤ t.depth + 1
  | .num i => by simp [encT, PyData.depth, PyData.depthAll]
  | .nam x => by simp [encT, PyData.depth, PyData.depthAll]
  | .bin o a b => by
    have h1 := depth_t a
    have h2 := depth_t b
    have h3 : (Tm.bin o a b).depth = max a.depth b.depth + 1 := rfl
    simp only [encT, PyData.depth, PyData.depthAll]
    omega
mutual
theorem isDd_ok {nm : List Str} (hn : NmOk nm) : ∀ (d : Dd) (n : Nat), d.ok nm → d.tdep ≤ 2 → 2 * d.depth + 4 ≤ n → isDd n (encD d) = true
  | .put x t, n + 1, h, ht, hd => by
    simp only [Dd.ok] at h
    simp only [Dd.tdep] at ht
    show (isNm (.str x) && isTm n (encT t)) = true
    rw [(hn x h.1).1, isTm_ok hn t n h.2 (by omega)]
    rfl
  | .shw l t, n + 1, h, ht, hd => by
    simp only [Dd.ok] at h
    simp only [Dd.tdep] at ht
    show (isNum 2 (.int l) && isTm n (encT t)) = true
    have : isNum 2 (.int l) = true := by
      rw [isNum_int, decide_eq_true h.1.1, decide_eq_true h.1.2]
      rfl
    rw [this, isTm_ok hn t n h.2 (by omega)]
    rfl
  | .whl t a, n + 2, h, ht, hd => by
    simp only [Dd.ok] at h
    simp only [Dd.tdep] at ht
    simp only [Dd.depth] at hd
    show (isTm (n + 1) (encT t) && (encL a).all (isDd n)) = true
    rw [isTm_ok hn t _ h.1 (by omega), isPg_ok hn a n h.2 (by omega) (by omega)]
    rfl
  | .ite t a b, n + 2, h, ht, hd => by
    simp only [Dd.ok] at h
    simp only [Dd.tdep] at ht
    simp only [Dd.depth] at hd
    show (isTm (n + 1) (encT t) && ((encL a).all (isDd n) && (encL b).all (isDd n))) = true
    rw [isTm_ok hn t _ h.1 (by omega), isPg_ok hn a n h.2.1 (by omega) (by omega), isPg_ok hn b n h.2.2 (by omega) (by omega)]
    rfl
  | .whl t a, 1, _, _, hd => by omega
  | .ite t a b, 1, _, _, hd => by omega
theorem isPg_ok {nm : List Str} (hn : NmOk nm) : ∀ (b : List Dd) (n : Nat), okL nm b → tdepL b ≤ 2 → 2 * depthL b + 4 ≤ n → (encL b).all (isDd n) = true
  | [], n, _, _, _ => by rw [encL]; rfl
  | d :: r, n, h, ht, hd => by
    simp only [okL] at h
    simp only [tdepL] at ht
    simp only [depthL] at hd
    rw [encL, List.all_cons, isDd_ok hn d n h.1 (by omega) (by omega), isPg_ok hn r n h.2 (by omega) (by omega)]
    rfl
end
mutual
theorem sml_D {nm : List Str} (hn : NmOk nm) : ∀ (d : Dd), d.ok nm → WD 63 d → sml (encD d) = true
  | .put x t, h, _ => by
    simp only [Dd.ok] at h
    rw [encD]
    refine sml_tup (by show 3 ≤ 1000; decide) fun e he => ?_
    simp only [List.mem_cons, List.not_mem_nil, or_false] at he
    rcases he with e | e | e <;> subst e
    · decide +kernel
    · rw [sml]; exact decide_eq_true (hn x h.1).2
    · exact sml_t hn t h.2
  | .shw l t, h, _ => by
    simp only [Dd.ok] at h
    rw [encD]
    refine sml_tup (by show 3 ≤ 1000; decide) fun e he => ?_
    simp only [List.mem_cons, List.not_mem_nil, or_false] at he
    rcases he with e | e | e <;> subst e
    · decide +kernel
    · rfl
    · exact sml_t hn t h.2
  | .ite t a b, h, hw => by
    simp only [Dd.ok] at h
    simp only [WD] at hw
    rw [encD]
    refine sml_tup (by show 4 ≤ 1000; decide) fun e he => ?_
    simp only [List.mem_cons, List.not_mem_nil, or_false] at he
    rcases he with e | e | e | e <;> subst e
    · decide +kernel
    · exact sml_t hn t h.1
    · exact sml_tup (by rw [encL_len]; omega) (sml_L hn a h.2.1 hw.1.2)
    · exact sml_tup (by rw [encL_len]; omega) (sml_L hn b h.2.2 hw.2.2)
  | .whl t a, h, hw => by
    simp only [Dd.ok] at h
    simp only [WD] at hw
    rw [encD]
    refine sml_tup (by show 3 ≤ 1000; decide) fun e he => ?_
    simp only [List.mem_cons, List.not_mem_nil, or_false] at he
    rcases he with e | e | e <;> subst e
    · decide +kernel
    · exact sml_t hn t h.1
    · exact sml_tup (by rw [encL_len]; omega) (sml_L hn a h.2 hw.2)
theorem sml_L {nm : List Str} (hn : NmOk nm) : ∀ (b : List Dd), okL nm b → WL 63 b → ∀ e ∈ encL b, sml e = true
  | [], _, _, e, he => by simp [encL] at he
  | d :: r, h, hw, e, he => by
    simp only [okL] at h
    simp only [WL] at hw
    simp only [encL] at he
    rcases List.mem_cons.mp he with q | q
    · subst q
      exact sml_D hn d h.1 hw.1
    · exact sml_L hn r h.2 hw.2 e q
end
/-! ### spoilt ones -/
def badTerms (t : PyData) : List PyData := [.none, .int 7, .str "name", .tuple [], .tuple [.str "number"], .tuple [.str "number", .int 997], .tuple [.str "number", .int (-1)], .tuple [.str "number", .bool true], .tuple [.str "name", .str ""],
  .tuple [.str "name", .str "abcd"], .tuple [.str "name", .int 1], .tuple [.str "sum", t], .tuple [.str "sum", t, t, t], .tuple [.str "less", t, .none], .tuple [.str "minus", t, t], .tuple [.str "times", .tuple [], t], .tuple [.str "number", .str "1"], .tuple [.str "sum", .tuple [.str "name", .str "a1"], t],
  .tuple [.str "name", .str "A"], (match t with | .tuple xs => .list xs | d => d), .tuple [.list [.str "name"], .str "a"]]
theorem badTerm_no {t : Tm} (n : Nat) : ∀ d ∈ badTerms (encT t), isTm n d = false := by
  intro d hd
  cases n with
  | zero => rfl
  | succ n =>
    have nn : ∀ n, isTm n .none = false := fun n => by cases n <;> rfl
    have nt : ∀ n, isTm n (.tuple []) = false := fun n => by cases n <;> rfl
    have na : ∀ n, isTm n (.tuple [.str "name", .str "a1"]) = false := fun n => by
      cases n with
      | zero => rfl
      | succ n => show isNm (.str "a1") = false; decide +kernel
    simp only [badTerms, List.mem_cons, List.not_mem_nil, or_false] at hd
    rcases hd with e | e | e | e | e | e | e | e | e | e | e | e | e | e | e | e | e | e | e | e | e <;> subst e
    · rfl
    · rfl
    · rfl
    · rfl
    · rfl
    · rfl
    · rfl
    · rfl
    · rfl
    · rfl
    · rfl
    · rfl
    · rfl
    · show (isTm n (encT t) && isTm n .none) = false
      rw [nn, Bool.and_false]
    · rfl
    · show (isTm n (.tuple []) && isTm n (encT t)) = false
      rw [nt]
      rfl
    · rfl
    · show (isTm n (.tuple [.str "name", .str "a1"]) && isTm n (encT t)) = false
      rw [na]
      rfl
    · show isNm (.str "A") = false
      decide +kernel
    · cases t <;> rfl
    · rfl
def badDeeds (bad t : PyData) (x : Str) : List PyData := [.tuple [.str "put", .str x, bad], .tuple [.str "show", .int 1, bad], .tuple [.str "if", bad, .tuple [], .tuple []], .tuple [.str "while", bad, .tuple []], .tuple [.str "put", .str "", t],
  .tuple [.str "show", .int 3, t], .tuple [.str "show", .bool true, t], .tuple [.str "if", t, .tuple []], .tuple [.str "if", t, .tuple [], .none], .tuple [.str "say", t], .none, .tuple [.str "while", t], .tuple [.str "show", .int (-1), t], .list [.str "put", .str x, t], .tuple [.str "put", .str x], .tuple [.str "while", t, .list []]]
theorem badDeed_no {bad t : PyData} {x : Str} (hb : ∀ n, isTm n bad = false) (n : Nat) : ∀ d ∈ badDeeds bad t x, isDd n d = false := by
  intro d hd
  cases n with
  | zero => rfl
  | succ n =>
    have pn : ∀ n, isPg n .none = false := fun n => by cases n <;> rfl
    have pl : ∀ n, isPg n (.list []) = false := fun n => by cases n <;> rfl
    simp only [badDeeds, List.mem_cons, List.not_mem_nil, or_false] at hd
    rcases hd with e | e | e | e | e | e | e | e | e | e | e | e | e | e | e | e <;> subst e
    · show (isNm (.str x) && isTm n bad) = false
      rw [hb, Bool.and_false]
    · show (isNum 2 (.int 1) && isTm n bad) = false
      rw [hb, Bool.and_false]
    · show (isTm n bad && _) = false
      rw [hb]
      rfl
    · show (isTm n bad && _) = false
      rw [hb]
      rfl
    · rfl
    · rfl
    · rfl
    · rfl
    · show (isTm n t && (isPg n (.tuple []) && isPg n .none)) = false
      rw [pn, Bool.and_false, Bool.and_false]
    · rfl
    · rfl
    · rfl
    · rfl
    · rfl
    · rfl
    · show (isTm n t && isPg n (.list [])) = false
      rw [pl, Bool.and_false]
def badPairs (ps : List (Str × Int)) (m : Int) : List PyData := [.list (ps.map encP), .tuple [.tuple [.str "b", .int 1], .tuple [.str "a", .int 1]], .tuple [.tuple [.str "a", .int 1], .tuple [.str "a", .int 1]], .tuple [.tuple [.str "a"]], .tuple [.tuple [.str "a", .int (m + 1)]], .tuple [.tuple [.str "a", .int (-1)]],
  .tuple [.tuple [.str "a", .bool true]], .tuple [.tuple [.str "A", .int 1]], .tuple [.tuple [.str "abcd", .int 1]], .none, .tuple [.list [.str "a", .int 1]], .tuple [.tuple [.str "a", .str "1"]], .tuple [.str "a", .int 1]]
theorem isPairs_two (m : Int) (a b : PyData) : isPairs m (.tuple [a, b]) = ([a, b].all (pairOk m) && (strLt (keyS a) (keyS b) && true)) := by rfl
theorem badPairs_no {ps : List (Str × Int)} {m : Int} : ∀ d ∈ badPairs ps m, isPairs m d = false := by
  intro d hd
  simp only [badPairs, List.mem_cons, List.not_mem_nil, or_false] at hd
  have hA : isNm (.str "A") = false := by decide +kernel
  have hr : ∀ x y : Bool, (x && false) = y → y = false := fun x y h => by rw [Bool.and_false] at h; exact h.symm
  rcases hd with e | e | e | e | e | e | e | e | e | e | e | e | e <;> subst e
  · rfl
  · rw [isPairs_two, show strLt (keyS (.tuple [.str "b", .int 1])) (keyS (.tuple [.str "a", .int 1])) = false by decide +kernel, Bool.false_and, Bool.and_false]
  · rw [isPairs_two, show strLt (keyS (.tuple [.str "a", .int 1])) (keyS (.tuple [.str "a", .int 1])) = false by decide +kernel, Bool.false_and, Bool.and_false]
  · rfl
  · show ((isNm (.str "a") && isNum m (.int (m + 1)) && true) && true) = false
    have : isNum m (.int (m + 1)) = false := by
      rw [isNum_int, decide_eq_false (show ¬ m + 1 ≤ m by omega), Bool.and_false]
    rw [this, Bool.and_false]
    rfl
  · show ((isNm (.str "a") && isNum m (.int (-1)) && true) && true) = false
    have : isNum m (.int (-1)) = false := rfl
    rw [this, Bool.and_false]
    rfl
  · show ((isNm (.str "a") && isNum m (.bool true) && true) && true) = false
    have : isNum m (.bool true) = false := rfl
    rw [this, Bool.and_false]
    rfl
  · show ((isNm (.str "A") && isNum m (.int 1) && true) && true) = false
    rw [hA]
    rfl
  · rfl
  · rfl
  · rfl
  · show ((isNm (.str "a") && isNum m (.str "1") && true) && true) = false
    have : isNum m (.str "1") = false := rfl
    rw [this, Bool.and_false]
    rfl
  · rfl
theorem isPairs_ok {nm : List Str} (hn : NmOk nm) {ps : List (Str × Int)} {m : Int} (ri : Rising ps) (h : ∀ p ∈ ps, p.1 ∈ nm ∧ 0 ≤ p.2 ∧ p.2 ≤ m) : isPairs m (encS ps) = true := by
  unfold isPairs encS
  rw [Bool.and_eq_true]
  refine ⟨List.all_eq_true.mpr fun d hd => ?_, List.all_eq_true.mpr fun k hk => ?_⟩
  · obtain ⟨p, hp, rfl⟩ := List.mem_map.mp hd
    obtain ⟨h1, h2, h3⟩ := h p hp
    show (isNm (.str p.1) && (decide (0 ≤ p.2) && decide (p.2 ≤ m))) = true
    rw [(hn _ h1).1, decide_eq_true h2, decide_eq_true h3]
    rfl
  · have hk := List.mem_range.mp hk
    rw [List.length_map] at hk
    have g1 : k < ps.length := by omega
    have g2 : k + 1 < ps.length := by omega
    have e : ∀ i (hi : i < ps.length), (ps.map encP).getD i .none = encP ps[i] := fun i hi => by
      rw [List.getD_eq_getElem?_getD, List.getElem?_map, List.getElem?_eq_getElem hi]
      rfl
    rw [e k g1, e (k + 1) g2]
    exact List.pairwise_iff_getElem.mp ri k (k + 1) g1 g2 (by omega)
theorem sml_P {nm : List Str} (hn : NmOk nm) {ps : List (Str × Int)} (hl : ps.length ≤ 1000) (h : ∀ p ∈ ps, p.1 ∈ nm) : sml (encS ps) = true := sml_tup (by rw [List.length_map]; exact hl) fun d hd => by
  obtain ⟨p, hp, rfl⟩ := List.mem_map.mp hd
  refine sml_tup (by show 2 ≤ 1000; decide) fun e he => ?_
  simp only [List.mem_cons, List.not_mem_nil, or_false] at he
  rcases he with e | e <;> subst e
  · rw [sml]; exact decide_eq_true (hn _ (h p hp)).2
  · rfl
end Wk
namespace Fw
open PySem PySem.Spec L2
section
variable {K : PySem.W.Frag} {Γ : List Ds} {te ta tb : TE}
theorem ev_neg {i : Int} (h : Ev K te Γ (.dat (.int i))) : Ev K (tUn (rU fun i => .int (-i)) te) Γ (.dat (.int (-i))) := fun G0 H0 G H σ E Q q =>
  h G0 H0 G H σ E _ fun v G1 H1 e hv => by
    cases hv
    exact ⟨i, rfl, q _ G1 H1 e (.int _)⟩
theorem at_getD {l : List PyData} {i : Int} (h0 : 0 ≤ i) (h : i < l.length) : atI l i = some (l.getD i.toNat .none) ∧ l.getD i.toNat .none ∈ l := by
  have e : i = ((i.toNat : Nat) : Int) := by omega
  have hi : i.toNat < l.length := by omega
  have g : l[i.toNat]? = some (l.getD i.toNat .none) := by
    rw [List.getD_eq_getElem?_getD, List.getElem?_eq_getElem hi]
    rfl
  have q : atI l ((i.toNat : Nat) : Int) = some (l.getD i.toNat .none) := atI_nat g
  rw [← e] at q
  exact ⟨q, List.mem_of_getElem? g⟩
theorem ev_fdiv {i j : Int} (ha : Ev K te Γ (.dat (.int i))) (h : (decide (0 < j) && decide (j < 1073741824)) = true) : Ev K (tOp (rI CDiv fun i j => .int (i / j)) te (tC (.int j))) Γ (.dat (.int (i / j))) :=
  ev_iI ha ev_cint (by
    rw [Bool.and_eq_true, decide_eq_true_eq, decide_eq_true_eq] at h
    exact h)
end
end Fw
namespace Wk
open PySem PySem.Spec L2 Fw
def badT (c : Int) (ts : List PyData) : PyData := (badTerms (.tuple ts)).getD (c % 21).toNat .none
def badD (c : Int) (ts : List PyData) (x : Str) : PyData := (badDeeds (badT (c / 16) ts) (.tuple ts) x).getD (c % 16).toNat .none
def badP (ps : List (Str × Int)) (m c : Int) : PyData := (badPairs ps m).getD (c % 13).toNat .none
def PrBadT : List Ds → PyData → Prop := fun xs d => ∃ (c : Int) (ts : List PyData), xs = [.dat (.int c), .dat (.tuple ts)] ∧ d = badT c ts
def PrBadD : List Ds → PyData → Prop := fun xs d => ∃ (c : Int) (ts : List PyData) (x : Str), xs = [.dat (.int c), .dat (.tuple ts), .dat (.str x)] ∧ d = badD c ts x
def PrBadP : List Ds → PyData → Prop := fun xs d => ∃ (ps : List (Str × Int)) (m c : Int), xs = [.dat (encS ps), .dat (.int m), .dat (.int c)] ∧ d = badP ps m c
theorem badT_mem (c : Int) (ts : List PyData) : badT c ts ∈ badTerms (.tuple ts) := (at_getD (l := badTerms (.tuple ts)) (i := c % 21) (by omega) (by show c % 21 < ((21 : Nat) : Int); omega)).2
theorem badD_mem (c : Int) (ts : List PyData) (x : Str) : badD c ts x ∈ badDeeds (badT (c / 16) ts) (.tuple ts) x := (at_getD (l := badDeeds (badT (c / 16) ts) (.tuple ts) x) (i := c % 16) (by omega) (by show c % 16 < ((16 : Nat) : Int); omega)).2
theorem badP_mem (ps : List (Str × Int)) (m c : Int) : badP ps m c ∈ badPairs ps m := (at_getD (l := badPairs ps m) (i := c % 13) (by omega) (by show c % 13 < ((13 : Nat) : Int); omega)).2
theorem enc_tup (t : Tm) : ∃ ts, encT t = .tuple ts := by cases t <;> exact ⟨_, rfl⟩
/-- sml and depth of what is spoilt -/
theorem sml_cons {d : PyData} {r : List PyData} (h : sml d = true) (h' : sml (.tuple r) = true) (hl : r.length + 1 ≤ 1000) : sml (.tuple (d :: r)) = true := by
  rw [sml, Bool.and_eq_true] at h'
  exact sml_tup hl fun e he => by
    rcases List.mem_cons.mp he with q | q
    · subst q; exact h
    · exact smlL_mem h'.2 e q
theorem dt_badT {ts : List PyData} (h : Dt 4 (.tuple ts)) : ∀ d ∈ badTerms (.tuple ts), Dt 6 d := by
  intro d hd
  have hs := h.s
  have hdp := h.d
  have hl := h.len
  have hsl : sml (.list ts) = true := by
    have hs2 := hs
    simp only [sml] at hs2 ⊢
    exact hs2
  have hdl : (PyData.list ts).depth = (PyData.tuple ts).depth := by rw [PyData.depth, PyData.depth]
  generalize hT : PyData.tuple ts = T at hs hdp hdl hd
  have two : ∀ a b : PyData, sml a = true → sml b = true → a.depth < 5 → b.depth < 5 → Dt 6 (.tuple [a, b]) := fun a b h1 h2 h3 h4 => ⟨by rw [sml, smlL, smlL, smlL, h1, h2]; rfl, by simp only [PyData.depth, PyData.depthAll]; omega⟩
  have three : ∀ a b c : PyData, sml a = true → sml b = true → sml c = true → a.depth < 5 → b.depth < 5 → c.depth < 5 → Dt 6 (.tuple [a, b, c]) := fun a b c h1 h2 h3 h4 h5 h6 => ⟨by rw [sml, smlL, smlL, smlL, smlL, h1, h2, h3]; rfl, by simp only [PyData.depth, PyData.depthAll]; omega⟩
  have st : ∀ z : Str, z.length ≤ 1000 → sml (.str z) = true := fun z hz => by rw [sml]; exact decide_eq_true hz
  have dst : ∀ z : Str, (PyData.str z).depth < 5 := fun z => by simp [PyData.depth]
  have din : ∀ i : Int, (PyData.int i).depth < 5 := fun z => by simp [PyData.depth]
  have hT5 : T.depth < 5 := by omega
  simp only [badTerms, List.mem_cons, List.not_mem_nil, or_false] at hd
  rcases hd with e | e | e | e | e | e | e | e | e | e | e | e | e | e | e | e | e | e | e | e | e <;> subst e
  · exact ⟨rfl, by decide⟩
  · exact ⟨rfl, by simp [PyData.depth]⟩
  · exact ⟨st _ (by decide +kernel), by simp [PyData.depth]⟩
  · exact ⟨by decide +kernel, by simp [PyData.depth, PyData.depthAll]⟩
  · exact ⟨by decide +kernel, by simp [PyData.depth, PyData.depthAll]⟩
  · exact two _ _ (st _ (by decide +kernel)) rfl (dst _) (din _)
  · exact two _ _ (st _ (by decide +kernel)) rfl (dst _) (din _)
  · exact two _ _ (st _ (by decide +kernel)) rfl (dst _) (by simp [PyData.depth])
  · exact two _ _ (st _ (by decide +kernel)) (st _ (by decide +kernel)) (dst _) (dst _)
  · exact two _ _ (st _ (by decide +kernel)) (st _ (by decide +kernel)) (dst _) (dst _)
  · exact two _ _ (st _ (by decide +kernel)) rfl (dst _) (din _)
  · exact two _ _ (st _ (by decide +kernel)) hs (dst _) hT5
  · refine ⟨by rw [sml, smlL, smlL, smlL, smlL, smlL, st "sum" (by decide +kernel), hs]; rfl, by simp only [PyData.depth, PyData.depthAll]; omega⟩
  · exact three _ _ _ (st _ (by decide +kernel)) hs rfl (dst _) hT5 (by simp [PyData.depth])
  · exact three _ _ _ (st _ (by decide +kernel)) hs hs (dst _) hT5 hT5
  · exact three _ _ _ (st _ (by decide +kernel)) (by decide +kernel) hs (dst _) (by simp [PyData.depth, PyData.depthAll]) hT5
  · exact two _ _ (st _ (by decide +kernel)) (st _ (by decide +kernel)) (dst _) (dst _)
  · exact three _ _ _ (st _ (by decide +kernel)) (by decide +kernel) hs (dst _) (by simp [PyData.depth, PyData.depthAll]) hT5
  · exact two _ _ (st _ (by decide +kernel)) (st _ (by decide +kernel)) (dst _) (dst _)
  · subst hT
    exact ⟨hsl, by show (PyData.list ts).depth < 6; omega⟩
  · exact two _ _ (by decide +kernel) (st _ (by decide +kernel)) (by simp [PyData.depth, PyData.depthAll]) (dst _)
theorem dt_badD {ts : List PyData} {bad : PyData} {x : Str} (h : Dt 4 (.tuple ts)) (hb : Dt 6 bad) (hx : x.length ≤ 1000) : ∀ d ∈ badDeeds bad (.tuple ts) x, Dt 8 d := by
  intro d hd
  have hs := h.s
  have hdp := h.d
  have hbs := hb.s
  have hbd := hb.d
  generalize PyData.tuple ts = T at hs hdp hd
  have st : ∀ z : Str, z.length ≤ 1000 → sml (.str z) = true := fun z hz => by rw [sml]; exact decide_eq_true hz
  have fin : ∀ xs : List PyData, xs.length ≤ 1000 → (∀ e ∈ xs, sml e = true ∧ e.depth < 7) → Dt 8 (.tuple xs) := fun xs hl hxs => by
    refine ⟨sml_tup hl fun e he => (hxs e he).1, ?_⟩
    have : ∀ xs : List PyData, (∀ e ∈ xs, e.depth < 7) → PyData.depthAll xs < 7 := by
      intro xs
      induction xs with
      | nil => intro _; simp [PyData.depthAll]
      | cons a r ih =>
        intro h
        rw [PyData.depthAll]
        have h1 := h a List.mem_cons_self
        have h2 := ih fun e he => h e (List.mem_cons_of_mem _ he)
        omega
    have := this xs fun e he => (hxs e he).2
    rw [PyData.depth]
    omega
  have cs : ∀ {e : PyData} {xs : List PyData}, (sml e = true ∧ e.depth < 7) → (∀ f ∈ xs, sml f = true ∧ f.depth < 7) → ∀ f ∈ e :: xs, sml f = true ∧ f.depth < 7 := fun h1 h2 f hf => by
    rcases List.mem_cons.mp hf with q | q
    · subst q; exact h1
    · exact h2 f q
  have nl : ∀ f ∈ ([] : List PyData), sml f = true ∧ f.depth < 7 := fun f hf => by cases hf
  have s1 : ∀ z : Str, z.length ≤ 1000 → sml (.str z) = true ∧ (PyData.str z).depth < 7 := fun z hz => ⟨st z hz, by simp [PyData.depth]⟩
  have i1 : ∀ i : Int, sml (.int i) = true ∧ (PyData.int i).depth < 7 := fun i => ⟨rfl, by simp [PyData.depth]⟩
  have b1 : sml bad = true ∧ bad.depth < 7 := ⟨hbs, by omega⟩
  have t1 : sml T = true ∧ T.depth < 7 := ⟨hs, by omega⟩
  have e1 : sml (.tuple []) = true ∧ (PyData.tuple []).depth < 7 := ⟨by decide +kernel, by simp [PyData.depth, PyData.depthAll]⟩
  have n1 : sml .none = true ∧ PyData.none.depth < 7 := ⟨rfl, by simp [PyData.depth]⟩
  have l1 : sml (.list []) = true ∧ (PyData.list []).depth < 7 := ⟨by decide +kernel, by simp [PyData.depth, PyData.depthAll]⟩
  have o1 : sml (.bool true) = true ∧ (PyData.bool true).depth < 7 := ⟨rfl, by simp [PyData.depth]⟩
  have w1 := fun (z : Str) (hz : decide (z.length ≤ 1000) = true) => s1 z (of_decide_eq_true hz)
  simp only [badDeeds, List.mem_cons, List.not_mem_nil, or_false] at hd
  rcases hd with e | e | e | e | e | e | e | e | e | e | e | e | e | e | e | e <;> subst e
  · exact fin _ (by show 3 ≤ 1000; decide) (cs (w1 _ (by decide +kernel)) (cs (s1 x hx) (cs b1 nl)))
  · exact fin _ (by show 3 ≤ 1000; decide) (cs (w1 _ (by decide +kernel)) (cs (i1 _) (cs b1 nl)))
  · exact fin _ (by show 4 ≤ 1000; decide) (cs (w1 _ (by decide +kernel)) (cs b1 (cs e1 (cs e1 nl))))
  · exact fin _ (by show 3 ≤ 1000; decide) (cs (w1 _ (by decide +kernel)) (cs b1 (cs e1 nl)))
  · exact fin _ (by show 3 ≤ 1000; decide) (cs (w1 _ (by decide +kernel)) (cs (w1 _ (by decide +kernel)) (cs t1 nl)))
  · exact fin _ (by show 3 ≤ 1000; decide) (cs (w1 _ (by decide +kernel)) (cs (i1 _) (cs t1 nl)))
  · exact fin _ (by show 3 ≤ 1000; decide) (cs (w1 _ (by decide +kernel)) (cs o1 (cs t1 nl)))
  · exact fin _ (by show 3 ≤ 1000; decide) (cs (w1 _ (by decide +kernel)) (cs t1 (cs e1 nl)))
  · exact fin _ (by show 4 ≤ 1000; decide) (cs (w1 _ (by decide +kernel)) (cs t1 (cs e1 (cs n1 nl))))
  · exact fin _ (by show 2 ≤ 1000; decide) (cs (w1 _ (by decide +kernel)) (cs t1 nl))
  · exact ⟨rfl, by simp [PyData.depth]⟩
  · exact fin _ (by show 2 ≤ 1000; decide) (cs (w1 _ (by decide +kernel)) (cs t1 nl))
  · exact fin _ (by show 3 ≤ 1000; decide) (cs (w1 _ (by decide +kernel)) (cs (i1 _) (cs t1 nl)))
  · have q := fin [.str "put", .str x, T] (by show 3 ≤ 1000; decide) (cs (w1 _ (by decide +kernel)) (cs (s1 x hx) (cs t1 nl)))
    exact ⟨by have := q.s; simp only [sml] at this ⊢; exact this, by have := q.d; simp only [PyData.depth] at this ⊢; exact this⟩
  · exact fin _ (by show 2 ≤ 1000; decide) (cs (w1 _ (by decide +kernel)) (cs (s1 x hx) nl))
  · exact fin _ (by show 3 ≤ 1000; decide) (cs (w1 _ (by decide +kernel)) (cs t1 (cs l1 nl)))
end Wk
namespace Wk
open PySem PySem.Spec L2 Fw
theorem depthAll_lt {k : Nat} (h0 : 0 < k) : ∀ {xs : List PyData}, (∀ e ∈ xs, e.depth < k) → PyData.depthAll xs < k
  | [], _ => by rw [PyData.depthAll]; exact h0
  | a :: r, h => by
    rw [PyData.depthAll]
    have h1 := h a List.mem_cons_self
    have h2 := depthAll_lt h0 (xs := r) fun e he => h e (List.mem_cons_of_mem _ he)
    omega
theorem dt_tup {k : Nat} (h0 : 0 < k) {xs : List PyData} (hl : xs.length ≤ 1000) (h : ∀ e ∈ xs, Dt k e) : Dt (k + 1) (.tuple xs) :=
  ⟨sml_tup hl fun e he => (h e he).s, by rw [PyData.depth]; have := depthAll_lt h0 fun e he => (h e he).d; omega⟩
theorem dt_str {k : Nat} (h0 : 0 < k) {z : Str} (h : decide (z.length ≤ 1000) = true) : Dt k (.str z) := ⟨by rw [sml]; exact h, by rw [PyData.depth]; exact h0⟩
theorem dt_cons {k : Nat} {d : PyData} {r : List PyData} (h : Dt k d) (hr : ∀ e ∈ r, Dt k e) : ∀ e ∈ d :: r, Dt k e := fun e he => by
  rcases List.mem_cons.mp he with q | q
  · subst q; exact h
  · exact hr e q
theorem dt_nil {k : Nat} : ∀ e ∈ ([] : List PyData), Dt k e := fun e he => by cases he
def around (bad t : PyData) (pr : List PyData) : List PyData := [.tuple ([bad] ++ pr), .tuple (pr ++ [bad]), .tuple [.tuple [.str "if", t, .tuple pr, .tuple [bad]]], .tuple [.tuple [.str "while", t, .tuple ([bad] ++ pr)]]]
theorem around_no {bad t : PyData} {pr : List PyData} (hb : ∀ n, isDd n bad = false) : ∀ d ∈ around bad t pr, isPg 16 d = false := by
  intro d hd
  simp only [around, List.mem_cons, List.not_mem_nil, or_false] at hd
  rcases hd with e | e | e | e <;> subst e
  · show (isDd 15 bad && _) = false
    rw [hb]
    rfl
  · show (pr ++ [bad]).all (isDd 15) = false
    rw [List.all_append, List.all_cons, hb, Bool.false_and, Bool.and_false]
  · show ((isTm 14 t && (isPg 14 (.tuple pr) && (isDd 13 bad && true))) && true) = false
    rw [hb, Bool.false_and, Bool.and_false, Bool.and_false]
    rfl
  · show ((isTm 14 t && (isDd 13 bad && _)) && true) = false
    rw [hb, Bool.false_and, Bool.and_false]
    rfl
theorem around_dt {bad t : PyData} {pr : List PyData} (hb : Dt 8 bad) (ht : Dt 4 t) (hp : Dt 10 (.tuple pr)) (hl : pr.length ≤ 900) : ∀ d ∈ around bad t pr, Dt 16 d := by
  intro d hd
  simp only [around, List.mem_cons, List.not_mem_nil, or_false] at hd
  have b9 := hb.le (m := 9) (by decide)
  have m9 : ∀ e ∈ pr, Dt 9 e := fun e he => hp.mem e he
  have c9 : ∀ e ∈ [bad] ++ pr, Dt 9 e := dt_cons b9 m9
  have l9 : ([bad] ++ pr).length ≤ 1000 := by rw [List.length_append]; show 1 + pr.length ≤ 1000; omega
  rcases hd with e | e | e | e <;> subst e
  · exact (dt_tup (by decide) l9 c9).le (by decide)
  · refine (dt_tup (k := 9) (by decide) (by rw [List.length_append]; show pr.length + 1 ≤ 1000; omega) fun e he => ?_).le (by decide)
    rcases List.mem_append.mp he with q | q
    · exact m9 e q
    · exact dt_cons b9 dt_nil e q
  · exact (dt_tup (k := 11) (by decide) (by show 1 ≤ 1000; decide) (dt_cons (dt_tup (k := 10) (by decide) (by show 4 ≤ 1000; decide) (dt_cons (dt_str (by decide) (by decide +kernel)) (dt_cons (ht.le (by decide)) (dt_cons hp (dt_cons ((dt_tup (k := 8) (by decide) (by show 1 ≤ 1000; decide) (dt_cons hb dt_nil)).le (by decide)) dt_nil))))) dt_nil)).le (by decide)
  · exact (dt_tup (k := 11) (by decide) (by show 1 ≤ 1000; decide) (dt_cons (dt_tup (k := 10) (by decide) (by show 3 ≤ 1000; decide) (dt_cons (dt_str (by decide) (by decide +kernel)) (dt_cons (ht.le (by decide)) (dt_cons (dt_tup (k := 9) (by decide) l9 c9) dt_nil)))) dt_nil)).le (by decide)
theorem sml_badP {nm : List Str} (hn : NmOk nm) {ps : List (Str × Int)} {m : Int} (hl : ps.length ≤ 1000) (h : ∀ p ∈ ps, p.1 ∈ nm) : ∀ d ∈ badPairs ps m, sml d = true := by
  intro d hd
  simp only [badPairs, List.mem_cons, List.not_mem_nil, or_false] at hd
  have i1 : ∀ i : Int, sml (.int i) = true := fun i => rfl
  have w1 : ∀ z : Str, decide (z.length ≤ 1000) = true → sml (.str z) = true := fun z hz => by rw [sml]; exact hz
  have wA := w1 "a" (by decide +kernel)
  have pr : ∀ a b : PyData, sml a = true → sml b = true → sml (.tuple [a, b]) = true := fun a b h1 h2 => by rw [sml, smlL, smlL, smlL, h1, h2]; rfl
  have on : ∀ a : PyData, sml a = true → sml (.tuple [a]) = true := fun a h1 => by rw [sml, smlL, smlL, h1]; rfl
  rcases hd with e | e | e | e | e | e | e | e | e | e | e | e | e <;> subst e
  · have q := sml_P hn hl h
    unfold encS at q
    simp only [sml] at q ⊢
    exact q
  · exact pr _ _ (pr _ _ (w1 _ (by decide +kernel)) (i1 _)) (pr _ _ wA (i1 _))
  · exact pr _ _ (pr _ _ wA (i1 _)) (pr _ _ wA (i1 _))
  · exact on _ (on _ wA)
  · exact on _ (pr _ _ wA (i1 _))
  · exact on _ (pr _ _ wA (i1 _))
  · exact on _ (pr _ _ wA rfl)
  · exact on _ (pr _ _ (w1 _ (by decide +kernel)) (i1 _))
  · exact on _ (pr _ _ (w1 _ (by decide +kernel)) (i1 _))
  · rfl
  · have q := pr _ _ wA (i1 1)
    refine on _ ?_
    simp only [sml] at q ⊢
    exact q
  · exact on _ (pr _ _ wA (w1 _ (by decide +kernel)))
  · exact pr _ _ wA (i1 _)
/-! what the first law gives -/
theorem nm_ok (ns : List Int) : NmOk (nmS ns) := nm_is
theorem prog_dt {ns : List Int} (h : ns.length ≤ 63) : Dt 10 (encB (progS ns 2)) := by
  have co := prog_cut (k := 2) h
  have l := prog_len (k := 2) h
  exact ⟨sml_tup (by rw [encL_len]; omega) (sml_L (nm_ok ns) _ co.ok co.w), Nat.lt_succ_of_le (shd_B (nmS_ok (ns := ns)) co.ok co.td co.dp).2⟩
theorem prog_is {ns : List Int} (h : ns.length ≤ 63) : isPg 16 (encB (progS ns 2)) = true := by
  have co := prog_cut (k := 2) h
  exact isPg_ok (nm_ok ns) _ 15 co.ok co.td (by have := co.dp; omega)
theorem term_dt {nm : List Str} (hn : NmOk nm) (h4 : nm.length = 4) (s : Int) : Dt 4 (encT (termS nm 1 s)) := by
  have ⟨h1, h2⟩ := termS_ok h4 1 s
  exact ⟨sml_t hn _ h1, by have := depth_t (termS nm 1 s); omega⟩
end Wk
/-! ### all names of a program -/
namespace Wk
open PySem PySem.Spec L2 Fw Ft
mutual
def allD : Dd → List Str
  | .put x t => x :: t.names
  | .shw _ t => t.names
  | .ite t a b => t.names ++ (allL a ++ allL b)
  | .whl t a => t.names ++ allL a
def allL : List Dd → List Str
  | [] => []
  | d :: r => allD d ++ allL r
end
theorem allL_flat : ∀ b : List Dd, allL b = b.flatMap allD
  | [] => by rw [allL]; rfl
  | d :: r => by rw [allL, allL_flat r]; rfl
theorem allL_app (a b : List Dd) : allL (a ++ b) = allL a ++ allL b := by rw [allL_flat, allL_flat, allL_flat, List.flatMap_append]
theorem all_next {b : List Dd} {i : Nat} {e : Dd} (h : b[i]? = some e) : allL (b.take (i + 1)) = allL (b.take i) ++ allD e := by
  rw [List.take_add_one, h, allL_app]
  show _ ++ allL [e] = _
  rw [allL, allL, List.append_nil]
theorem all_take {b : List Dd} {i : Nat} : (allL (b.take i)).length ≤ (allL b).length := by
  have h : allL b = allL (b.take i) ++ allL (b.drop i) := by rw [← allL_app, List.take_append_drop]
  rw [h, List.length_append]
  omega
mutual
theorem allD_ok {nm : List Str} : ∀ (d : Dd), d.ok nm → ∀ x ∈ allD d, x ∈ nm
  | .put y t, h, x, hx => by
    simp only [Dd.ok] at h
    rw [allD] at hx
    rcases List.mem_cons.mp hx with q | q
    · subst q; exact h.1
    · exact names_mem h.2 x q
  | .shw l t, h, x, hx => by
    simp only [Dd.ok] at h
    rw [allD] at hx
    exact names_mem h.2 x hx
  | .ite t a b, h, x, hx => by
    simp only [Dd.ok] at h
    rw [allD] at hx
    rcases List.mem_append.mp hx with q | q
    · exact names_mem h.1 x q
    · rcases List.mem_append.mp q with q | q
      · exact allL_ok a h.2.1 x q
      · exact allL_ok b h.2.2 x q
  | .whl t a, h, x, hx => by
    simp only [Dd.ok] at h
    rw [allD] at hx
    rcases List.mem_append.mp hx with q | q
    · exact names_mem h.1 x q
    · exact allL_ok a h.2 x q
theorem allL_ok {nm : List Str} : ∀ (b : List Dd), okL nm b → ∀ x ∈ allL b, x ∈ nm
  | [], _, x, hx => by rw [allL] at hx; cases hx
  | d :: r, h, x, hx => by
    simp only [okL] at h
    rw [allL] at hx
    rcases List.mem_append.mp hx with q | q
    · exact allD_ok d h.1 x q
    · exact allL_ok r h.2 x q
end
/-! how many -/
theorem flat_len {α β : Type} {f : α → List β} {n : Nat} : ∀ {l : List α}, (∀ x ∈ l, (f x).length ≤ n) → (l.flatMap f).length ≤ l.length * n
  | [], _ => by simp
  | x :: l, h => by
    rw [List.flatMap_cons, List.length_append, List.length_cons, Nat.succ_mul]
    have h1 := h x List.mem_cons_self
    have h2 := flat_len (l := l) fun y hy => h y (List.mem_cons_of_mem _ hy)
    omega
theorem names_four {t : Tm} (h : t.depth ≤ 2) : t.names.length ≤ 4 := Nat.le_trans (names_len t) (Nat.le_trans (Nat.pow_le_pow_right (by decide) h) (by decide))
def manyN : Nat → Nat
  | 0 => 5
  | n + 1 => 4 * manyN n + 20
theorem deed_many {nm : List Str} {lv : List Int} {hon : Bool} (h4 : nm.length = 4) : ∀ (n : Nat) (c need : Int), (allD (deedS nm lv hon n c need)).length ≤ manyN n
  | n, c, need => by
    have tn : (termOf nm c).names.length ≤ 4 := by
      have := (termS_ok h4 (1 + c % 2).toNat c).2
      exact names_four (by unfold termOf; omega)
    have five : 5 ≤ manyN n := by cases n <;> simp only [manyN] <;> omega
    have last : ∀ high, (allD (lastD nm lv hon c high)).length ≤ manyN n := fun high => by
      unfold lastD
      split
      · rw [allD, List.length_cons]; omega
      · rw [allD]; omega
    match n, five, last with
    | 0, _, last =>
      rw [deed_last (fun e => absurd e.1 (by decide)) (fun e => absurd e.1 (by decide))]
      exact last _
    | n + 1, _, last =>
      have blk : ∀ c' need', (allL (blockS nm lv hon n c' need')).length ≤ 2 * manyN n := fun c' need' => by
        rw [allL_flat]
        refine Nat.le_trans (flat_len (n := manyN n) fun d hd => ?_) (Nat.mul_le_mul_right _ blockS_len)
        obtain ⟨k, _, rfl⟩ := List.mem_map.mp hd
        exact deed_many h4 n _ _
      by_cases h2 : mix c 9871 9 < 2
      · rw [deed_ite h2, allD, List.length_append, List.length_append]
        have h1 := blk (c * 3 + 1) (highOf nm lv (termOf nm c) need)
        have h2 := blk (c * 5 + 2) (highOf nm lv (termOf nm c) need)
        simp only [manyN]
        omega
      · by_cases h4' : mix c 9871 9 < 4 ∧ (need = 0 ∨ hon = false)
        · rw [deed_whl h2 h4', allD, List.length_append, allL_app, List.length_append]
          have h1 := blk (c * 3 + 1) need
          have h3 : (allL [moreD nm]).length ≤ 3 := by
            unfold moreD
            simp [allL, allD, Tm.names]
          have h5 : (if hon then Tm.bin .less (.nam (nameAt nm 0)) (.num (mix c 9859 6)) else termOf nm c).names.length ≤ 4 := by
            split
            · simp [Tm.names]
            · exact tn
          simp only [manyN]
          omega
        · rw [deed_last (fun e => h2 e.2) (fun e => h4' e.2)]
          exact last _
theorem prog_many {ns : List Int} {k : Int} (h : ns.length ≤ 63) : (allL (progS ns k)).length ≤ 50000 := by
  rw [allL_flat]
  refine Nat.le_trans (flat_len (n := manyN 2) fun d hd => ?_) ?_
  · obtain ⟨c, _, rfl⟩ := List.mem_map.mp hd
    exact deed_many (nmS_len ns) 2 _ _
  · have := prog_len (k := k) h
    show (progS ns k).length * 180 ≤ 50000
    omega
/-! the specs -/
def PrAll (n : Nat) : List Ds → PyData → Prop := fun xs d => ∃ b : List Dd, xs = [.dat (encB b)] ∧ tdepL b ≤ 2 ∧ depthL b < n ∧ (allL b).length ≤ 50000 ∧ d = .list ((allL b).map .str)
def PrNmsOf (n : Nat) : List Ds → PyData → Prop := fun xs d => ∃ (nm : List Str) (b : List Dd), xs = [.dat (encB b)] ∧ okL nm b ∧ nm.length < 1000 ∧ tdepL b ≤ 2 ∧ depthL b < n ∧ (allL b).length ≤ 50000 ∧ d = .tuple ((upX (allL b)).map .str)
def PrVal (n : Nat) : List Ds → PyData → Prop := fun xs d => ∃ (nm : List Str) (t : Tm) (l : List (Str × Int)), xs = [.dat (encT t), .dat (encS l)] ∧ t.ok nm ∧ t.depth < n ∧ Rising l ∧ (∀ p ∈ l, 0 ≤ p.2 ∧ p.2 ≤ 996) ∧ d = .int (valT t (look l))
def PrWholeB : List Ds → PyData → Prop := fun xs d => ∃ i : Int, xs = [.dat (.int i)] ∧ d = .bool true
theorem all_ddp {nm : List Str} {b : List Dd} (h : okL nm b) (hl : nm.length < 1000) : (ddp (allL b)).length < 1000 :=
  Nat.lt_of_le_of_lt (nodup_len (ddp_nodup _) fun x hx => allL_ok b h x (mem_ddp.mp hx)) hl
section
variable {K : PySem.W.Frag}
/-- for block in ..: found.extend(all_names(block)) -/
theorem do_inner {n : Nat} {wi : TI} {R : Ds → Prop} {pre : List Str} {Pd D : PyData} {E : XK} {bs : List (List Dd)} (hsl : EvI K RvD wi [.dat Pd, .own (pre.map .str), .dat D, .any] (bs.map encB))
    (hb : ∀ a ∈ bs, tdepL a ≤ 2 ∧ depthL a < n) (hz : (pre ++ bs.flatMap allL).length ≤ 50000) :
    Do K (tFor wi (gName 3) (tDrop (tBM K "list" rExtend (tVar 1) (tCons (tCall (spP K (PrAll n)) [] E (tCons (tVar 3) tNil)) tNil)))) [.dat Pd, .own (pre.map .str), .dat D, .any] (some [.dat Pd, .own ((pre ++ bs.flatMap allL).map .str), .dat D, .any]) R := by
  rw [List.length_append] at hz
  refine do_for (ds := bs.map encB) (fun _ => True) (fun i => [.dat Pd, .own ((pre ++ (bs.take i).flatMap allL).map .str), .dat D, .any]) hsl ?_ trivial (fun i d hd _ => ?_) fun _ => ⟨_, rfl, ?_⟩
  · rw [List.take_zero, List.flatMap_nil, List.append_nil]
    exact Sub.refl _
  · rw [List.getElem?_map] at hd
    cases ha : bs[i]? with
    | none => rw [ha] at hd; cases hd
    | some a =>
      rw [ha] at hd
      cases hd
      have hm := List.mem_of_getElem? ha
      have en : (bs.take (i + 1)).flatMap allL = (bs.take i).flatMap allL ++ allL a := by
        rw [List.take_add_one, ha, List.flatMap_append]
        show _ ++ List.flatMap allL [a] = _
        rw [List.flatMap_cons, List.flatMap_nil, List.append_nil]
      have hl : ((bs.take i).flatMap allL).length + (allL a).length ≤ (bs.flatMap allL).length := by
        rw [← List.length_append, ← en]
        have h : bs.flatMap allL = (bs.take (i + 1)).flatMap allL ++ (bs.drop (i + 1)).flatMap allL := by rw [← List.flatMap_append, List.take_append_drop]
        rw [h, List.length_append]
        omega
      refine ⟨_, _, some [.dat Pd, .own ((pre ++ (bs.take (i + 1)).flatMap allL).map .str), .dat D, .any], evg_name, ?_, fun Γn q => by cases q; exact ⟨trivial, Sub.refl _⟩⟩
      refine do_post (do_extend rfl (es := (allL a).map .str) (evs_dat (ev_call (Pr := PrAll n) (eva_cons (ev_var rfl rfl) eva_nil) ⟨a, rfl, (hb a hm).1, (hb a hm).2, by omega, rfl⟩)) ?_) ?_
      · rw [List.length_map, List.length_map, List.length_append]
        omega
      · rw [en, ← List.append_assoc, List.map_append (l₁ := pre ++ (bs.take i).flatMap allL)]
        exact ⟨.inr rfl, .inr rfl, .inr rfl, .inl rfl, trivial⟩
  · rw [List.length_map, List.take_length]
    exact Sub.refl _
end
end Wk
/-! ### flows by hand -/
namespace Wk
open PySem PySem.Spec L2 Fw Fn
open Ft (ddp mem_ddp ddp_nodup)
open Fs (upF mem_upF upF_nodup upF_same upF_of FRow)
def lfD (ar : List Str) : Dd → List Fl
  | .put x t => (ar ++ t.names).map fun n => (n, Tg.nm x)
  | .shw l t => (ar ++ t.names).map fun n => (n, Tg.pg l)
  | .ite t a b => upF (gaL (ar ++ t.names) a) ++ upF (gaL (ar ++ t.names) b)
  | .whl t a => (ar ++ t.names).map (fun n => (n, Tg.pg 0)) ++ upF (gaL ar a)
def lfL (ar : List Str) (b : List Dd) : List Fl := b.flatMap (lfD ar)
theorem mem_lfD {ar : List Str} {f : Fl} {d : Dd} : f ∈ lfD ar d ↔ f ∈ gaD ar d := by
  cases d with
  | put x t => rw [lfD, gaD]
  | shw l t => rw [lfD, gaD]
  | ite t a b => rw [lfD, gaD, List.mem_append, List.mem_append, mem_upF, mem_upF]
  | whl t a => rw [lfD, gaD, List.mem_append, List.mem_append, mem_upF]
theorem mem_lfL {ar : List Str} {f : Fl} {b : List Dd} : f ∈ lfL ar b ↔ f ∈ gaL ar b := by
  unfold lfL
  rw [gaL_flat, List.mem_flatMap, List.mem_flatMap]
  exact ⟨fun ⟨d, h, k⟩ => ⟨d, h, mem_lfD.mp k⟩, fun ⟨d, h, k⟩ => ⟨d, h, mem_lfD.mpr k⟩⟩
theorem upF_len (fs : List Fl) : (upF fs).length ≤ fs.length := Ft.nodup_len (upF_nodup fs) fun f hf => mem_upF.mp hf
theorem lfD_len {ar : List Str} {d : Dd} : (lfD ar d).length ≤ (gaD ar d).length := by
  cases d with
  | put x t => rw [lfD, gaD]; exact Nat.le_refl _
  | shw l t => rw [lfD, gaD]; exact Nat.le_refl _
  | ite t a b =>
    rw [lfD, gaD, List.length_append, List.length_append]
    have h1 := upF_len (gaL (ar ++ t.names) a)
    have h2 := upF_len (gaL (ar ++ t.names) b)
    omega
  | whl t a =>
    rw [lfD, gaD, List.length_append, List.length_append]
    have h1 := upF_len (gaL ar a)
    omega
theorem lfL_len {ar : List Str} : ∀ b : List Dd, (lfL ar b).length ≤ (gaL ar b).length
  | [] => Nat.zero_le _
  | d :: r => by
    have h1 := lfD_len (ar := ar) (d := d)
    have h2 := lfL_len (ar := ar) r
    unfold lfL at h2 ⊢
    rw [List.flatMap_cons, gaL, List.length_append, List.length_append]
    omega
theorem lf_next {ar : List Str} {b : List Dd} {i : Nat} {e : Dd} (h : b[i]? = some e) : lfL ar (b.take (i + 1)) = lfL ar (b.take i) ++ lfD ar e := by
  unfold lfL
  rw [List.take_add_one, h, List.flatMap_append]
  simp
theorem lf_up (ar : List Str) (b : List Dd) : upF (lfL ar b) = upF (gaL ar b) := upF_same fun _ => mem_lfL
theorem flows_up (b : List Dd) : flowsS b = upF (gaL [] b) := upF_of (insF_nodup List.nodup_nil) fun f => mem_insF.trans ⟨fun h => h.elim (fun z => by cases z) id, .inr⟩
def PrLF (n : Nat) : List Ds → PyData → Prop := fun xs d => ∃ (b : List Dd) (ar : List Str) (S : List Fl), xs = [.dat (encB b), .dat (.list (ar.map .str))] ∧ depthL b < n ∧ tdepL b ≤ 2 ∧ ar.length + 4 * n ≤ 1000 ∧ (gaL ar b).length ≤ 100000 ∧ (∀ f ∈ gaL ar b, f ∈ S) ∧ S.length < 63 ∧ d = .list ((upF (gaL ar b)).map encF)
/-- all flows over names -/
def allF (nm : List Str) : List Fl := nm.flatMap fun x => nm.map (fun y => (x, Tg.nm y)) ++ [(x, .pg 0), (x, .pg 1), (x, .pg 2)]
theorem allF_len {nm : List Str} (h : nm.length = 4) : (allF nm).length < 63 := by
  match nm, h with
  | [a, b, c, d], _ => simp [allF]
theorem allF_nm {nm : List Str} {x y : Str} (hx : x ∈ nm) (hy : y ∈ nm) : (x, Tg.nm y) ∈ allF nm :=
  List.mem_flatMap.mpr ⟨x, hx, List.mem_append_left _ (List.mem_map.mpr ⟨y, hy, rfl⟩)⟩
theorem allF_pg {nm : List Str} {x : Str} {i : Int} (hx : x ∈ nm) (hi : 0 ≤ i ∧ i ≤ 2) : (x, Tg.pg i) ∈ allF nm :=
  List.mem_flatMap.mpr ⟨x, hx, List.mem_append_right _ (by
    have : i = 0 ∨ i = 1 ∨ i = 2 := by omega
    rcases this with e | e | e <;> subst e <;> simp)⟩
theorem tnm {nm : List Str} : ∀ {t : Tm}, t.ok nm → ∀ x ∈ t.names, x ∈ nm
  | .num _, _, x, hx => by simp [Tm.names] at hx
  | .nam y, h, x, hx => by
    simp only [Tm.names, List.mem_singleton] at hx
    subst hx
    exact h
  | .bin _ a b, h, x, hx => by
    simp only [Tm.names, List.mem_append] at hx
    exact hx.elim (tnm h.1 x) (tnm h.2 x)
mutual
theorem ga_inD {nm : List Str} : ∀ (d : Dd) (ar : List Str), d.ok nm → (∀ x ∈ ar, x ∈ nm) → ∀ f ∈ gaD ar d, f ∈ allF nm
  | .put x t, ar, h, ha, f, hf => by
    simp only [Dd.ok] at h
    rw [gaD] at hf
    obtain ⟨n, hn, rfl⟩ := List.mem_map.mp hf
    exact allF_nm ((List.mem_append.mp hn).elim (ha n) (tnm h.2 n)) h.1
  | .shw l t, ar, h, ha, f, hf => by
    simp only [Dd.ok] at h
    rw [gaD] at hf
    obtain ⟨n, hn, rfl⟩ := List.mem_map.mp hf
    exact allF_pg ((List.mem_append.mp hn).elim (ha n) (tnm h.2 n)) h.1
  | .ite t a b, ar, h, ha, f, hf => by
    simp only [Dd.ok] at h
    rw [gaD] at hf
    have ha2 : ∀ x ∈ ar ++ t.names, x ∈ nm := fun n hn => (List.mem_append.mp hn).elim (ha n) (tnm h.1 n)
    exact (List.mem_append.mp hf).elim (ga_inL a _ h.2.1 ha2 f) (ga_inL b _ h.2.2 ha2 f)
  | .whl t a, ar, h, ha, f, hf => by
    simp only [Dd.ok] at h
    rw [gaD] at hf
    rcases List.mem_append.mp hf with hf | hf
    · obtain ⟨n, hn, rfl⟩ := List.mem_map.mp hf
      exact allF_pg ((List.mem_append.mp hn).elim (ha n) (tnm h.1 n)) (by decide)
    · exact ga_inL a _ h.2 ha f hf
theorem ga_inL {nm : List Str} : ∀ (b : List Dd) (ar : List Str), okL nm b → (∀ x ∈ ar, x ∈ nm) → ∀ f ∈ gaL ar b, f ∈ allF nm
  | [], ar, h, ha, f, hf => by rw [gaL] at hf; cases hf
  | d :: r, ar, h, ha, f, hf => by
    simp only [okL] at h
    rw [gaL] at hf
    exact (List.mem_append.mp hf).elim (ga_inD d ar h.1 ha f) (ga_inL r ar h.2 ha f)
end
theorem ga_in {nm : List Str} {b : List Dd} (h : okL nm b) : ∀ f ∈ gaL [] b, f ∈ allF nm := ga_inL b [] h fun x hx => by cases hx
theorem allF_ok {nm : List Str} {f : Fl} (h : f ∈ allF nm) : f.1 ∈ nm ∧ ∀ y, f.2 = .nm y → y ∈ nm := by
  obtain ⟨x, hx, k⟩ := List.mem_flatMap.mp h
  rcases List.mem_append.mp k with k | k
  · obtain ⟨y, hy, rfl⟩ := List.mem_map.mp k
    exact ⟨hx, fun z e => by cases e; exact hy⟩
  · simp only [List.mem_cons, List.not_mem_nil, or_false] at k
    rcases k with e | e | e <;> subst e <;> exact ⟨hx, fun z e => by cases e⟩
theorem shd_F {f : Fl} (h1 : PyData.strOk f.1 = true) (h2 : ∀ y, f.2 = .nm y → PyData.strOk y = true) : Shd 2 (encF f) := shd_tup fun d hd => by
  simp only [List.mem_cons, List.not_mem_nil, or_false] at hd
  rcases hd with e | e <;> subst e
  · exact shd_str h1
  · obtain ⟨x, t⟩ := f
    cases t with
    | nm y =>
      exact shd_tup fun d hd => by
        simp only [List.mem_cons, List.not_mem_nil, or_false] at hd
        rcases hd with e | e <;> subst e
        · exact shd_str (by decide +kernel)
        · exact shd_str (h2 y rfl)
    | pg i =>
      exact shd_tup fun d hd => by
        simp only [List.mem_cons, List.not_mem_nil, or_false] at hd
        rcases hd with e | e <;> subst e
        · exact shd_str (by decide +kernel)
        · exact shd_int _
theorem shd_Fs {nm : List Str} (hn : ∀ x ∈ nm, PyData.strOk x = true) {fs : List Fl} (h : ∀ f ∈ fs, f ∈ allF nm) : Shd 3 (.list (fs.map encF)) := shd_lst fun d hd => by
  obtain ⟨f, hf, rfl⟩ := List.mem_map.mp hd
  have q := allF_ok (h f hf)
  exact shd_F (hn _ q.1) fun y e => hn y (q.2 y e)
theorem ddp_small {fs S : List Fl} (h : ∀ f ∈ fs, f ∈ S) (hs : S.length < 63) : (ddp fs).length < 63 := Nat.lt_of_le_of_lt (Ft.nodup_len (ddp_nodup fs) fun f hf => h f (mem_ddp.mp hf)) hs
/-- two programs, one behind the other -/
theorem okL_two {nm : List Str} : ∀ {a b : List Dd}, okL nm a → okL nm b → okL nm (a ++ b)
  | [], b, _, h => h
  | d :: a, b, h, k => by
    simp only [okL] at h
    rw [List.cons_append]
    simp only [okL]
    exact ⟨h.1, okL_two h.2 k⟩
theorem prog_half {ns : List Int} {k : Int} (h : ns.length ≤ 63) : (gaL [] (progS ns k)).length ≤ 50000 := by
  rw [gaL_flat]
  refine Nat.le_trans (flatG_len (n := gaN 2 0) fun d hd => ?_) ?_
  · obtain ⟨c, _, rfl⟩ := List.mem_map.mp hd
    exact ga_many (nmS_len ns) 2 _ _ []
  · have := prog_len (k := k) h
    show (progS ns k).length * 364 ≤ 50000
    omega
theorem two_ga {ns : List Int} {j k : Int} (h : ns.length ≤ 63) : GaOk 3 (progS ns j ++ progS ns k) := by
  have a := prog_ga (k := j) h
  have b := prog_ga (k := k) h
  refine ⟨Nat.lt_succ_of_le (depthL_le.mpr fun d hd => ?_), tdepL_le.mpr fun d hd => ?_, by decide, ?_⟩
  · exact (List.mem_append.mp hd).elim (fun q => depthL_le.mp (Nat.le_of_lt_succ a.dp) d q) fun q => depthL_le.mp (Nat.le_of_lt_succ b.dp) d q
  · exact (List.mem_append.mp hd).elim (fun q => tdepL_le.mp a.td d q) fun q => tdepL_le.mp b.td d q
  · rw [gaL_app, List.length_append]
    have q1 := prog_half (k := j) h
    have q2 := prog_half (k := k) h
    omega
theorem two_up (a b : List Dd) : upF (flowsS a ++ flowsS b) = flowsS (a ++ b) := by
  rw [flows_up (a ++ b), gaL_app]
  refine upF_same fun f => ?_
  rw [List.mem_append, List.mem_append, mem_flows, mem_flows]
end Wk
/-! ### honest programs -/
namespace Wk
open PySem PySem.Spec L2 Fw Fn
def OkF (L : Str → Int) (fs : List Fl) : Prop := ∀ f ∈ fs, L f.1 ≤ lvG L f.2
theorem okF_app {L : Str → Int} {a b : List Fl} (h : OkF L a) (k : OkF L b) : OkF L (a ++ b) := fun f hf => (List.mem_append.mp hf).elim (h f) (k f)
theorem okF_to {L : Str → Int} {ns : List Str} {t : Tg} (h : ∀ x ∈ ns, L x ≤ lvG L t) : OkF L (ns.map fun x => (x, t)) := fun f hf => by
  obtain ⟨x, hx, rfl⟩ := List.mem_map.mp hf
  exact h x hx
theorem high_ge {nm : List Str} {lv : List Int} {t : Tm} {need : Int} : need ≤ highOf nm lv t need ∧ ∀ x ∈ t.names, lvOf nm lv x ≤ highOf nm lv t need := by
  unfold highOf
  induction t.names with
  | nil => exact ⟨Int.le_refl _, fun x hx => by cases hx⟩
  | cons y r ih =>
    have e : ((y :: r).map (lvOf nm lv)).foldr max need = max (lvOf nm lv y) ((r.map (lvOf nm lv)).foldr max need) := rfl
    rw [e]
    refine ⟨by have := ih.1; omega, fun x hx => ?_⟩
    rcases List.mem_cons.mp hx with q | q
    · subst q; omega
    · have := ih.2 x q; omega
theorem lv_nameAt {nm : List Str} {lv : List Int} (nd : nm.Nodup) {i : Int} (h0 : 0 ≤ i) (h : i < nm.length) : lvOf nm lv (nameAt nm i) = lv.getD i.toNat 0 := by
  have hi : i.toNat < nm.length := by omega
  have e : nameAt nm i = nm[i.toNat] := by
    unfold nameAt
    rw [List.getD_eq_getElem?_getD, List.getElem?_eq_getElem hi]
    rfl
  unfold lvOf
  rw [e, nd.idxOf_getElem]
theorem hon_last {nm : List Str} {lv : List Int} {c high : Int} {ar : List Str} (nd : nm.Nodup) (n4 : nm.length = 4) (ha : ∀ x ∈ ar, lvOf nm lv x ≤ high) (ht : ∀ x ∈ (termOf nm c).names, lvOf nm lv x ≤ high) : OkF (lvOf nm lv) (gaD ar (lastD nm lv true c high)) := by
  have hx : ∀ x ∈ ar ++ (termOf nm c).names, lvOf nm lv x ≤ high := fun x hx => (List.mem_append.mp hx).elim (ha x) (ht x)
  by_cases h : mix c 9871 9 < 7 ∧ someOf lv true high ≠ []
  · rw [last_put h, gaD]
    have hl : 0 < (someOf lv true high).length := List.length_pos_iff.mpr h.2
    have hm : 0 ≤ mix c 9857 (someOf lv true high).length ∧ mix c 9857 (someOf lv true high).length < (someOf lv true high).length := ⟨mix_lo _ (by omega), mix_hi _ (by omega)⟩
    generalize mix c 9857 (someOf lv true high).length = j at hm
    have hj : j.toNat < (someOf lv true high).length := by omega
    have e : (someOf lv true high).getD j.toNat 0 ∈ someOf lv true high := by
      rw [List.getD_eq_getElem?_getD, List.getElem?_eq_getElem hj]
      exact List.getElem_mem hj
    obtain ⟨k, hk, e2⟩ := List.mem_map.mp e
    rw [← e2]
    obtain ⟨k1, k2⟩ := List.mem_filter.mp hk
    have k1 := List.mem_range.mp k1
    have k2 : lv.getD k 0 ≥ high := by simpa using k2
    refine okF_to fun x hx' => ?_
    have q := lv_nameAt (lv := lv) nd (i := (k : Int)) (by omega) (by omega)
    rw [Int.toNat_natCast] at q
    show lvOf nm lv x ≤ lvOf nm lv (nameAt nm (k : Int))
    have := hx x hx'
    omega
  · rw [last_shw h, gaD]
    refine okF_to fun x hx' => ?_
    have := hx x hx'
    show lvOf nm lv x ≤ max (mix c 9851 3) (high * (if true = true then 1 else 0))
    rw [if_pos rfl, Int.mul_one]
    omega
theorem hon_D {nm : List Str} {lv : List Int} (nd : nm.Nodup) (n4 : nm.length = 4) (l0 : lv.getD 0 0 = 0) : ∀ (n : Nat) (c need : Int) (ar : List Str), (∀ x ∈ ar, lvOf nm lv x ≤ need) → OkF (lvOf nm lv) (gaD ar (deedS nm lv true n c need))
  | n, c, need, ar, ha => by
    obtain ⟨g1, g2⟩ := high_ge (nm := nm) (lv := lv) (t := termOf nm c) (need := need)
    have last := hon_last (c := c) (high := highOf nm lv (termOf nm c) need) (ar := ar) nd n4 (fun x hx => Int.le_trans (ha x hx) g1) g2
    have z0 : lvOf nm lv (nameAt nm 0) = 0 := by
      rw [lv_nameAt nd (by decide) (by omega)]
      exact l0
    match n with
    | 0 =>
      rw [deed_last (fun e => absurd e.1 (by decide)) (fun e => absurd e.1 (by decide))]
      exact last
    | n + 1 =>
      have blk : ∀ (ar' : List Str) c' need', (∀ x ∈ ar', lvOf nm lv x ≤ need') → OkF (lvOf nm lv) (gaL ar' (blockS nm lv true n c' need')) := fun ar' c' need' ha' f hf => by
        rw [gaL_flat] at hf
        obtain ⟨d, hd, hf⟩ := List.mem_flatMap.mp hf
        obtain ⟨k, _, rfl⟩ := List.mem_map.mp hd
        exact hon_D nd n4 l0 n _ _ _ ha' f hf
      by_cases h2 : mix c 9871 9 < 2
      · rw [deed_ite h2, gaD]
        have ha2 : ∀ x ∈ ar ++ (termOf nm c).names, lvOf nm lv x ≤ highOf nm lv (termOf nm c) need := fun x hx => (List.mem_append.mp hx).elim (fun q => Int.le_trans (ha x q) g1) (g2 x)
        exact okF_app (blk _ _ _ ha2) (blk _ _ _ ha2)
      · by_cases h4' : mix c 9871 9 < 4 ∧ (need = 0 ∨ true = false)
        · have hn : need = 0 := h4'.2.elim id fun e => by cases e
          rw [deed_whl h2 h4', gaD, gaL_app]
          subst hn
          refine okF_app (okF_to fun x hx => ?_) (okF_app (blk _ _ _ ha) ?_)
          · rw [if_pos rfl] at hx
            rcases List.mem_append.mp hx with q | q
            · exact ha x q
            · simp only [Tm.names, List.append_nil, List.mem_singleton] at q
              rw [q, z0]
              exact Int.le_refl _
          · unfold moreD
            rw [gaL, gaL, gaD, List.append_nil]
            refine okF_to fun x hx => ?_
            show lvOf nm lv x ≤ lvOf nm lv (nameAt nm 0)
            rw [z0]
            rcases List.mem_append.mp hx with q | q
            · exact ha x q
            · simp only [Tm.names, List.append_nil, List.mem_singleton] at q
              rw [q, z0]
              exact Int.le_refl _
        · rw [deed_last (fun e => h2 e.2) (fun e => h4' e.2)]
          exact last
theorem hon_prog {ns : List Int} {k : Int} (h : honS ns = true) : OkF (lvOf (nmS ns) (lvS ns)) (gaL [] (progS ns k)) := fun f hf => by
  rw [gaL_flat] at hf
  obtain ⟨d, hd, hf⟩ := List.mem_flatMap.mp hf
  obtain ⟨c, _, rfl⟩ := List.mem_map.mp hd
  rw [h] at hf
  exact hon_D (nmS_nodup ns) (nmS_len ns) rfl 2 c 0 [] (fun x hx => by cases hx) f hf
theorem key_one {l : List (Str × Int)} (nd : (l.map (·.1)).Nodup) {x : Str} {a b : Int} (h : (x, a) ∈ l) (k : (x, b) ∈ l) : a = b := by
  induction l with
  | nil => cases h
  | cons p r ih =>
    have nd := List.nodup_cons.mp nd
    rcases List.mem_cons.mp h with e | h' <;> rcases List.mem_cons.mp k with e' | k'
    · rw [← e] at e'
      exact (congrArg Prod.snd e').symm
    · exact absurd (List.mem_map.mpr ⟨_, k', by rw [← e]⟩) nd.1
    · exact absurd (List.mem_map.mpr ⟨_, h', by rw [← e']⟩) nd.1
    · exact ih nd.2 h' k'
theorem look_at {l : List (Str × Int)} (nd : (l.map (·.1)).Nodup) {x : Str} {v : Int} (h : (x, v) ∈ l) : look l x = v := by
  unfold look
  cases c : look? l x with
  | none =>
    unfold look? at c
    rw [Option.map_eq_none_iff, List.find?_eq_none] at c
    exact absurd (decide_eq_true rfl) (c _ h)
  | some u => exact key_one nd (look?_mem c) h
theorem house_lv {ns : List Int} {x : Str} (hx : x ∈ nmS ns) : look (houseS ns) x = lvOf (nmS ns) (lvS ns) x := by
  have p := plan_ok ns
  have nz : (((nmS ns).zip (lvS ns)).map (·.1)).Nodup := by rw [zip_keys]; exact nmS_nodup ns
  have hi := List.idxOf_lt_length_of_mem hx
  have n4 := nmS_len ns
  have hi2 : (nmS ns).idxOf x < (lvS ns).length := by rw [p.l4]; omega
  have hz : (x, lvOf (nmS ns) (lvS ns) x) ∈ (nmS ns).zip (lvS ns) := by
    refine List.mem_of_getElem? (i := (nmS ns).idxOf x) ?_
    rw [List.getElem?_zip_eq_some]
    refine ⟨?_, ?_⟩
    · rw [List.getElem?_eq_getElem hi, List.getElem_idxOf]
    · unfold lvOf
      rw [List.getD_eq_getElem?_getD, List.getElem?_eq_getElem hi2]
      rfl
  have ndr := rawH_nodup ns
  have ndu : ((houseS ns).map (·.1)).Nodup := ((upP_perm (rawH ns)).map (·.1)).nodup_iff.mpr ndr
  by_cases hr : (x, lvOf (nmS ns) (lvS ns) x) ∈ rawH ns
  · exact look_at ndu ((upP_perm (rawH ns)).mem_iff.mpr hr)
  · have h0 : lvOf (nmS ns) (lvS ns) x = 0 := by
      have lo := lvOf_lo p x
      unfold rawH at hr
      split at hr
      · have : ¬ lvOf (nmS ns) (lvS ns) x > 0 := fun q => hr (List.mem_filter.mpr ⟨hz, decide_eq_true q⟩)
        omega
      · exact absurd hz hr
    rw [h0]
    unfold look
    cases c : look? (houseS ns) x with
    | none => rfl
    | some u =>
      exfalso
      have q := (upP_perm (rawH ns)).mem_iff.mp (look?_mem c)
      have e := key_one nz (rawH_sub ns _ q) hz
      rw [e] at q
      exact hr q
theorem lets_hon {ns : List Int} {k : Int} (h63 : ns.length ≤ 63) (h : honS ns = true) : letsB (look (houseS ns)) (progS ns k) = true := lets_iff.mpr fun f hf => by
  have q := allF_ok (ga_in (prog_ok ns k h63).ok f hf)
  have r := hon_prog h f hf
  rw [house_lv q.1]
  obtain ⟨x, t⟩ := f
  cases t with
  | nm y =>
    show _ ≤ look (houseS ns) y
    rw [house_lv (q.2 y rfl)]
    exact r
  | pg i => exact r
/-- lets, by hand -/
theorem all_lets {lv : Str → Int} {fs : List Fl} {b : List Dd} (h : ∀ f, f ∈ fs ↔ f ∈ gaL [] b) : (fs.all fun f => decide (lv f.1 ≤ lvG lv f.2)) = letsB lv b := by
  unfold letsB
  rw [Bool.eq_iff_iff, List.all_eq_true, List.all_eq_true]
  exact ⟨fun k f hf => k f ((h f).mpr (mem_flows.mp hf)), fun k f hf => k f (mem_flows.mpr ((h f).mp hf))⟩
end Wk
/-! ### dicts of one's own whose keys are texts; while; insert -/
namespace Fv
open PySem PySem.Spec L2 Fw Wk
abbrev Lv := List (Str × V)
def lkV (l : Lv) (x : Str) : Option V := (l.find? fun p => decide (p.1 = x)).map (·.2)
def hsV (l : Lv) (x : Str) : Bool := l.any fun p => decide (p.1 = x)
def ptV (l : Lv) (x : Str) (v : V) : Lv := if hsV l x = true then l.map (fun p => if p.1 = x then (p.1, v) else p) else l ++ [(x, v)]
theorem lkV_pos {p : Str × V} {r : Lv} {x : Str} (e : p.1 = x) : lkV (p :: r) x = some p.2 := by simp [lkV, List.find?_cons, e]
theorem lkV_neg {p : Str × V} {r : Lv} {x : Str} (e : ¬ p.1 = x) : lkV (p :: r) x = lkV r x := by simp [lkV, List.find?_cons, e]
theorem valV_kvl (l : Lv) (x : Str) : valV (kvl l) (Sum.inr x : Key) = lkV l x := by
  unfold kvl
  induction l with
  | nil => rfl
  | cons p r ih =>
    rw [List.map_cons]
    by_cases e : p.1 = x
    · rw [valV_pos (show ((Sum.inr p.1 : Key), p.2).1 = Sum.inr x from congrArg Sum.inr e), lkV_pos e]
    · rw [valV_neg (p := ((Sum.inr p.1 : Key), p.2)) (inr_ne e), lkV_neg e]
      exact ih
theorem any_kvl (l : Lv) (x : Str) : ((kvl l).any fun kv => decide (kv.1 = (Sum.inr x : Key))) = hsV l x := by
  unfold kvl hsV
  rw [List.any_map]
  congr 1
  funext p
  show decide ((Sum.inr p.1 : Key) = Sum.inr x) = decide (p.1 = x)
  by_cases e : p.1 = x
  · rw [decide_eq_true e, decide_eq_true (congrArg Sum.inr e)]
  · rw [decide_eq_false e, decide_eq_false (inr_ne e)]
theorem putK_kvl (l : Lv) (x : Str) (v : V) : putK (kvl l) (Sum.inr x : Key) v = kvl (ptV l x v) := by
  unfold putK ptV
  rw [any_kvl]
  split
  · unfold kvl
    rw [List.map_map, List.map_map]
    refine List.map_congr_left fun p _ => ?_
    show (if (Sum.inr p.1 : Key) = Sum.inr x then ((Sum.inr p.1 : Key), v) else (Sum.inr p.1, p.2)) = (Sum.inr (if p.1 = x then (p.1, v) else p).1, (if p.1 = x then (p.1, v) else p).2)
    by_cases e : p.1 = x
    · rw [if_pos (congrArg Sum.inr e), if_pos e]
    · rw [if_neg (inr_ne e), if_neg e]
  · unfold kvl
    rw [List.map_append]
    rfl
theorem lkV_has (l : Lv) (x : Str) : (lkV l x).isSome = hsV l x := by
  induction l with
  | nil => rfl
  | cons p r ih =>
    by_cases e : p.1 = x
    · rw [lkV_pos e]
      simp [hsV, e]
    · rw [lkV_neg e, ih]
      simp [hsV, e]
theorem kvl_len (l : Lv) : (kvl l).length = l.length := List.length_map _
theorem lkV_bk (l : List (Str × Int)) (x : Str) : lkV (bk l) x = (look? l x).map V.int := by rw [← valV_kvl, valV_bk]
theorem hsV_bk (l : List (Str × Int)) (x : Str) : hsV (bk l) x = has l x := by rw [← any_kvl, any_bk]
theorem has_look? (l : List (Str × Int)) (x : Str) : (look? l x).isSome = has l x := by
  rw [← hsV_bk, ← lkV_has, lkV_bk]
  cases look? l x <;> rfl
theorem ptV_bk (l : List (Str × Int)) (x : Str) (v : Int) : ptV (bk l) x (.int v) = bk (dput l x v) := by
  have h := (putK_kvl (bk l) x (.int v)).symm.trans (putK_bk l x v)
  unfold kvl at h
  have inj : ∀ {a b : Lv}, a.map (fun p => ((Sum.inr p.1 : Key), p.2)) = b.map (fun p => (Sum.inr p.1, p.2)) → a = b := by
    intro a
    induction a with
    | nil => intro b h; cases b with | nil => rfl | cons q s => cases h
    | cons p r ih =>
      intro b h
      cases b with
      | nil => cases h
      | cons q s =>
        rw [List.map_cons, List.map_cons, List.cons.injEq] at h
        obtain ⟨h1, h2⟩ := h
        rw [Prod.mk.injEq] at h1
        rw [ih h2, Prod.ext (Sum.inr.inj h1.1) h1.2]
  exact inj h
/-- what a flat datum is -/
def flatV : PyData → Option V
  | .none => some .non
  | .bool b => some (.bl b)
  | .int i => some (.int i)
  | .str x => some (.str x)
  | _ => Option.none
theorem flatV_of {G : Hp} {v u : V} {d : PyData} (h : Dr G v d) (e : flatV d = some u) : v = u := by
  cases h with
  | non => cases e; rfl
  | bl b => cases e; rfl
  | int i => cases e; rfl
  | str x => cases e; rfl
  | lst _ _ => cases e
  | tup _ _ => cases e
theorem flatV_dr {G : Hp} {u : V} {d : PyData} (e : flatV d = some u) : Dr G u d := by
  cases d with
  | none => cases e; exact .non
  | bool b => cases e; exact .bl b
  | int i => cases e; exact .int i
  | str x => cases e; exact .str x
  | _ => cases e
section
variable {K : PySem.W.Frag} {Γ Γ1 : List Ds} {x : Str} {d : PyData} {l : Lv} {td ty tv te tx : TE} {tt : TT} {ts tz tb : TS} {N : Option (List Ds)} {R : Ds → Prop} {i : Nat}
/-! reading -/
theorem evm_dic (h : Ev K te Γ (.dic l)) : EvM K te Γ l := fun G0 H0 G H σ E Q q => h G0 H0 G H σ E _ fun v G1 H1 e hv => by
  obtain ⟨a, rfl, ha⟩ := hv
  exact q a G1 H1 e (e.i _ _ ha)
theorem evm_own (h : Γ[i]? = some (.ownD l)) : EvM K (tVar i) Γ l := fun G0 H0 G H σ E Q q => by
  obtain ⟨a, h1, h2, _⟩ := E.ownD h
  exact ⟨_, h1, q a G H (Ext.refl E.s) h2⟩
theorem ev_inV (hk : Ev K ty Γ (.dat (.str x))) (h : EvM K td Γ l) : Ev K (tDIn ty td) Γ (.dat (.bool (hsV l x))) := fun G0 H0 G H σ E Q q =>
  hk G0 H0 G H σ E _ fun y G1 H1 e1 hy => h G0 H0 G1 H1 σ (E.up e1) _ fun a G2 H2 e2 ha => by
    cases hy
    refine ⟨a, _, rfl, DGet.k (k := (Sum.inr x : Key)) ha, ?_⟩
    rw [valV_kvl, lkV_has]
    exact q _ G2 H2 (e1.trans e2) (.bl _)
theorem ev_ninV (hk : Ev K ty Γ (.dat (.str x))) (h : EvM K td Γ l) : Ev K (tDNotIn ty td) Γ (.dat (.bool (!hsV l x))) := fun G0 H0 G H σ E Q q =>
  hk G0 H0 G H σ E _ fun y G1 H1 e1 hy => h G0 H0 G1 H1 σ (E.up e1) _ fun a G2 H2 e2 ha => by
    cases hy
    refine ⟨a, _, rfl, DGet.k (k := (Sum.inr x : Key)) ha, ?_⟩
    rw [valV_kvl, lkV_has]
    exact q _ G2 H2 (e1.trans e2) (.bl _)
theorem ev_dgV {u : V} (h : EvM K td Γ l) (hk : Ev K ty Γ (.dat (.str x))) (hu : lkV l x = some u) (hd : flatV d = some u) : Ev K (tDGet td ty) Γ (.dat d) := fun G0 H0 G H σ E Q q =>
  h G0 H0 G H σ E _ fun a G1 H1 e1 ha => hk G0 H0 G1 H1 σ (E.up e1) _ fun y G2 H2 e2 hy => by
    cases hy
    have g := DGet.k (k := (Sum.inr x : Key)) (e2.h _ _ ha)
    rw [valV_kvl, hu] at g
    exact ⟨a, u, rfl, g, q _ G2 H2 (e1.trans e2) (flatV_dr hd)⟩
theorem ev_dg2V {l : List (Str × Int)} (h : EvM K td Γ (bk l)) (hk : Ev K ty Γ (.dat (.str x))) : Ev K (tDGet2 td ty (tC (.int 0))) Γ (.dat (.int (look l x))) := fun G0 H0 G H σ E Q q =>
  h G0 H0 G H σ E _ fun a G1 H1 e1 ha => by
    refine ⟨a, rfl, .inl ⟨_, .inl ha⟩, hk G0 H0 G1 H1 σ (E.up e1) _ fun y G2 H2 e2 hy => ?_⟩
    cases hy
    refine ⟨_, DGet.k (k := (Sum.inr x : Key)) (e2.h _ _ ha), ?_⟩
    rw [valV_bk]
    have e : ((look? l x).map V.int).getD (.int 0) = .int (look l x) := by
      unfold look
      cases look? l x <;> rfl
    rw [e]
    exact q _ G2 H2 (e1.trans e2) (.int _)
/-! making -/
theorem upd_upd {H : Hp} {p : Addr} {a b : HO} : upd (upd H p a) p b = upd H p b := by
  funext q
  unfold upd
  split <;> rfl
/-- d = {x: None} -/
theorem do_dispN {j : Nat} (hj : Γ[j]? = some (.dat (.str x))) : Do K (tAsg (tDisp [(tVar j, tC .non)]) (gName i)) Γ (some (Γ.set i (.ownD [(x, V.non)]))) R := fun G0 H0 G H σ D E hn hr p hp => by
  obtain ⟨ov, h1, v, rfl, hv⟩ := E.ok j _ hj
  cases hv
  refine ⟨.str x, h1, upd_same, [((Sum.inr x : Key), V.non)], rfl, by show 1 ≤ 15; decide, ?_⟩
  rw [upd_upd]
  exact hn _ rfl _ G _ (E.make hp ⟨p, rfl, upd_same, E.s.free hp, E.x.h.free hp⟩)
/-- d = dict(h) -/
theorem do_dictO {l : List (Str × Int)} (h : Ev K te Γ (.dat (encS l))) (nd : (l.map (·.1)).Nodup) : Do K (tAsg (tCB rDictT (tCons te tNil)) (gName i)) Γ (some (Γ.set i (.ownD (bk l)))) R := fun G0 H0 G H σ D E hn hr =>
  h G0 H0 G H σ E _ fun v G1 H1 e1 hv => by
    show rDictT [v] H1 fun y H2 => gName i y σ H2 D.nx
    exact dict_at e1.i hv nd fun p hp => hn _ rfl _ G1 _ ((E.up e1).make hp ⟨p, rfl, upd_same, e1.i.free hp, (E.up e1).x.h.free hp⟩)
/-- d[x] = v -/
theorem do_dputV {u : V} (hi : Γ[i]? = some (.ownD l)) (hk : Ev K ty Γ (.dat (.str x))) (hv : Ev K tv Γ (.dat d)) (hd : flatV d = some u) (hz : l.length ≤ 100000) : Do K (sDPut (tVar i) ty tv) Γ (some (Γ.set i (.ownD (ptV l x u)))) R := fun G0 H0 G H σ D E hn hr =>
  hv G0 H0 G H σ E _ fun v G1 H1 e1 hv => by
    obtain rfl := flatV_of hv hd
    obtain ⟨a, h1, h2, h3, h4⟩ := (E.up e1).ownD hi
    refine ⟨_, h1, hk G0 H0 G1 H1 σ (E.up e1) _ fun y G2 H2 e2 hy => ?_⟩
    cases hy
    obtain ⟨b, k1, k2, k3, k4⟩ := ((E.up e1).up e2).ownD hi
    rw [h1] at k1
    cases k1
    have h16 : sizeLine = 16777216 := by first | exact PyProof.Rows.sizeLine_eq | rfl
    refine ⟨a, _, rfl, DPut.k (k := (Sum.inr x : Key)) k2 (by rw [kvl_len]; omega), ?_⟩
    rw [putK_kvl]
    exact hn _ rfl σ G2 _ (((E.up e1).up e2).wr hi rfl h1 k3 k4 rfl ⟨a, rfl, upd_same, k3, k4⟩)
/-- d.setdefault(x, v) -/
theorem do_setdV {u : V} (hi : Γ[i]? = some (.ownD l)) (hk : Ev K ty Γ (.dat (.str x))) (hz : l.length ≤ 100000) : Do K (tDrop (tDSetd (tVar i) ty (tC u))) Γ (some (Γ.set i (.ownD (if hsV l x = true then l else l ++ [(x, u)])))) R := fun G0 H0 G H σ D E hn hr => by
  obtain ⟨a, h1, h2, h3, h4⟩ := E.ownD hi
  refine ⟨_, h1, a, rfl, .inl ⟨_, .inl h2⟩, hk G0 H0 G H σ E _ fun y G2 H2 e2 hy => ?_⟩
  cases hy
  obtain ⟨b, k1, k2, k3, k4⟩ := (E.up e2).ownD hi
  rw [h1] at k1
  cases k1
  have h16 : sizeLine = 16777216 := by first | exact PyProof.Rows.sizeLine_eq | rfl
  refine ⟨kvl l, (Sum.inr x : Key), k2, rfl, by rw [kvl_len]; omega, fun v hv => ?_, fun hv => ?_⟩
  · rw [valV_kvl] at hv
    have : hsV l x = true := by rw [← lkV_has, hv]; rfl
    rw [if_pos this] at hn
    refine hn _ rfl σ G2 H2 ?_
    have e : Γ.set i (.ownD l) = Γ := by
      obtain ⟨hl, he⟩ := List.getElem?_eq_some_iff.mp hi
      rw [← he, List.set_getElem_self]
    rw [e]
    exact E.up e2
  · rw [valV_kvl] at hv
    have hs : hsV l x = false := by rw [← lkV_has, hv]; rfl
    rw [if_neg (by rw [hs]; decide)] at hn
    rw [putK_kvl]
    have e : ptV l x u = l ++ [(x, u)] := by
      unfold ptV
      rw [hs]
      rfl
    rw [e]
    exact hn _ rfl σ G2 _ ((E.up e2).wr hi rfl h1 k3 k4 rfl ⟨a, rfl, upd_same, k3, k4⟩)
/-- an own dict is shown: it will not be changed any more -/
theorem do_showD (hi : Γ[i]? = some (.ownD l)) (h : Do K ts (Γ.set i (.dic l)) N R) : Do K ts Γ N R := fun G0 H0 G H σ D E hn hr => by
  obtain ⟨a, h1, h2, h4, h5⟩ := E.ownD hi
  have sG : Same G (upd G a (.dK (kvl l))) := same_up h4
  refine h G0 H0 (upd G a (.dK (kvl l))) H σ D ⟨⟨E.x.g.trans sG, E.x.h, fun b u e => ?_, fun b q1 q2 => ?_⟩, by rw [List.length_set]; exact E.l, fun j F hj => ?_, fun j k F F' b k1 k2 k3 k4 k5 k6 => ?_⟩ hn hr
  · unfold upd at e
    split at e
    · rename_i hb
      subst hb
      rw [h2]
      exact e
    · exact E.s b u e
  · have e : b ≠ a := by
      rintro rfl
      exact q1 h5
    rw [upd_ne e]
    exact E.x.n b q1 q2
  · by_cases hij : i = j
    · subst hij
      have hl : i < Γ.length := (List.getElem?_eq_some_iff.mp hi).1
      rw [List.getElem?_set_self hl] at hj
      cases hj
      exact ⟨_, h1, a, rfl, upd_same⟩
    · rw [List.getElem?_set_ne hij] at hj
      obtain ⟨ov, q1, q2⟩ := E.ok j F hj
      refine ⟨ov, q1, ?_⟩
      have ne : ∀ b, isOwn F = true → ov = some (.ref b) → b ≠ a := fun b hF e1 e => by
        subst e
        subst e1
        exact hij (E.ap i j _ _ b hi rfl hj hF h1 q1)
      cases F with
      | any => trivial
      | dat d => obtain ⟨v, e1, e2⟩ := q2; exact ⟨v, e1, e2.up sG⟩
      | dic l => obtain ⟨b, e1, e2⟩ := q2; exact ⟨b, e1, sG _ _ e2⟩
      | scr ns => obtain ⟨b, e1, e2⟩ := q2; exact ⟨b, e1, sG.seq e2⟩
      | val v => exact q2
      | fix v Gx => exact ⟨q2.1, q2.2.trans sG⟩
      | own es =>
        obtain ⟨b, ws, e1, e2, e3, e4, e5⟩ := q2
        exact ⟨b, ws, e1, e2, e3.up sG, by rw [upd_ne (ne b rfl e1)]; exact e4, e5⟩
      | ownD l =>
        obtain ⟨b, e1, e2, e4, e5⟩ := q2
        exact ⟨b, e1, e2, by rw [upd_ne (ne b rfl e1)]; exact e4, e5⟩
  · have key : ∀ c F, (Γ.set i (.dic l))[c]? = some F → isOwn F = true → Γ[c]? = some F := fun c F hc ho => by
      by_cases hic : i = c
      · subst hic
        have hl : i < Γ.length := (List.getElem?_eq_some_iff.mp hi).1
        rw [List.getElem?_set_self hl] at hc
        cases hc
        cases ho
      · rwa [List.getElem?_set_ne hic] at hc
    exact E.ap j k F F' b (key j F k1 k2) k2 (key k F' k3 k4) k4 k5 k6
/-- xs.insert(0, e) -/
theorem do_insert0 {ds : List PyData} {r : V → List V → Hp → VK → Prop} (hr0 : r = fun x vs H Q => ∃ (l : Addr) (xs : List V) (i : Int) (y : V), x = .ref l ∧ vs = [.int i, y] ∧ H l = some (.lst xs) ∧ xs.length < sizeLine ∧ 0 ≤ i ∧ i < 2 ^ 63 ∧ Q .non (upd H l (.lst (xs.take i.toNat ++ [y] ++ xs.drop i.toNat))))
    (hi : Γ[i]? = some (.own ds)) (h : Ev K te Γ (.dat d)) (hz : ds.length < 100000) : Do K (tDrop (tBM K "list" r (tVar i) (tCons (tC (.int 0)) (tCons te tNil)))) Γ (some (Γ.set i (.own (d :: ds)))) R := fun G0 H0 G H σ D E hn hr => by
  subst hr0
  obtain ⟨a, vs, h1, h2, h3, h4, h5⟩ := E.own hi
  refine ⟨.ref a, h1, .inl ⟨rfl, vs, SqL.of h2⟩, h G0 H0 G H σ E _ fun v G1 H1 e hv => ?_⟩
  obtain ⟨b, ws, k1, k2, k3, k4, k5⟩ := (E.up e).own hi
  rw [h1] at k1
  cases k1
  have h16 : sizeLine = 16777216 := by first | exact PyProof.Rows.sizeLine_eq | rfl
  refine ⟨a, ws, 0, v, rfl, rfl, k2, by rw [k3.len]; omega, by decide, by decide, hn _ rfl σ G1 _ ((E.up e).wr hi rfl h1 k4 k5 rfl ⟨a, _, rfl, upd_same, ?_, k4, k5⟩)⟩
  exact .cons hv k3
/-- while -/
theorem do_while {S : Type} {c : TT} (I : S → List Ds) (ms : S → Nat) (P : S → Prop) (b : S → Bool) (s0 : S) (h0 : Sub Γ (I s0)) (p0 : P s0) (hc : ∀ s, P s → EvT K c (I s) (b s))
    (ht : ∀ s, P s → b s = true → ∃ N1, Do K tb (I s) N1 R ∧ ∀ Γn, N1 = some Γn → ∃ s', ms s' < ms s ∧ P s' ∧ Sub Γn (I s')) (hf : ∀ s, P s → b s = false → ∃ Γn, N = some Γn ∧ Sub (I s) Γn) : Do K (tWhile c tb) Γ N R := fun G0 H0 G H σ D E hn hr => by
  refine ⟨fun m σ' H' => ∃ s G', ms s = m ∧ P s ∧ En K G0 H0 G' H' σ' (I s), ⟨ms s0, s0, G, rfl, p0, E.sub h0⟩, ?_⟩
  rintro m σ' H' ⟨s, G', rfl, hp, E'⟩
  refine hc s hp G0 H0 G' H' σ' E' _ fun G1 H1 e1 => ?_
  cases hb : b s with
  | true =>
    rw [if_pos rfl]
    obtain ⟨N1, k1, k2⟩ := ht s hp hb
    refine ⟨fun σ2 H2 => ∃ m', m' < ms s ∧ ∃ s' G2, ms s' = m' ∧ P s' ∧ En K G0 H0 G2 H2 σ2 (I s'), fun _ _ h => h, k1 G0 H0 G1 H1 σ' _ (E'.up e1) (fun Γn en σ2 G2 H2 E2 => ?_) hr⟩
    obtain ⟨s', q1, q2, q3⟩ := k2 Γn en
    exact ⟨_, q1, s', G2, rfl, q2, E2.sub q3⟩
  | false =>
    rw [if_neg (by decide)]
    obtain ⟨Γn, en, sb⟩ := hf s hp hb
    exact hn Γn en σ' G1 H1 ((E'.up e1).sub sb)
/-- while, and what comes behind it -/
theorem do_whileS {S : Type} {c : TT} (I : S → List Ds) (ms : S → Nat) (P : S → Prop) (b : S → Bool) (s0 : S) (h0 : Sub Γ (I s0)) (p0 : P s0) (hc : ∀ s, P s → EvT K c (I s) (b s))
    (ht : ∀ s, P s → b s = true → ∃ N1, Do K tb (I s) N1 R ∧ ∀ Γn, N1 = some Γn → ∃ s', ms s' < ms s ∧ P s' ∧ Sub Γn (I s')) (hf : ∀ s, P s → b s = false → Do K tz (I s) N R) : Do K (tSeq (tWhile c tb) tz) Γ N R := fun G0 H0 G H σ D E hn hr => by
  refine ⟨fun m σ' H' => ∃ s G', ms s = m ∧ P s ∧ En K G0 H0 G' H' σ' (I s), ⟨ms s0, s0, G, rfl, p0, E.sub h0⟩, ?_⟩
  rintro m σ' H' ⟨s, G', rfl, hp, E'⟩
  refine hc s hp G0 H0 G' H' σ' E' _ fun G1 H1 e1 => ?_
  cases hb : b s with
  | true =>
    rw [if_pos rfl]
    obtain ⟨N1, k1, k2⟩ := ht s hp hb
    refine ⟨fun σ2 H2 => ∃ m', m' < ms s ∧ ∃ s' G2, ms s' = m' ∧ P s' ∧ En K G0 H0 G2 H2 σ2 (I s'), fun _ _ h => h, k1 G0 H0 G1 H1 σ' _ (E'.up e1) (fun Γn en σ2 G2 H2 E2 => ?_) hr⟩
    obtain ⟨s', q1, q2, q3⟩ := k2 Γn en
    exact ⟨_, q1, s', G2, rfl, q2, E2.sub q3⟩
  | false =>
    rw [if_neg (by decide)]
    exact hf s hp hb G0 H0 G1 H1 σ' D (E'.up e1) hn hr
/-- for, and what comes behind it -/
theorem do_forS {ds : List PyData} {Rv : Hp → Hp → V → PyData → Prop} {wi : TI} {g : TG} (P : Nat → Prop) (I : Nat → List Ds) (hi : EvI K Rv wi Γ ds) (h0 : Sub Γ (I 0)) (p0 : P 0)
    (hs : ∀ (i : Nat) (d : PyData), ds[i]? = some d → P i → ∃ js Γ1 N1, EvG K Rv g (I i) d js Γ1 ∧ Do K ts Γ1 N1 R ∧ ∀ Γn, N1 = some Γn → P (i + 1) ∧ Sub Γn (I (i + 1)))
    (hd : P ds.length → Do K tz (I ds.length) N R) : Do K (tSeq (tFor wi g ts) tz) Γ N R := fun G0 H0 G H σ D E hn hr => by
  by_cases hp : P ds.length
  · exact do_seq (do_for P I hi h0 p0 hs fun _ => ⟨_, rfl, Sub.refl _⟩) (hd hp) G0 H0 G H σ D E hn hr
  · exact do_stop (do_for P I hi h0 p0 hs fun q => absurd q hp) G0 H0 G H σ D E hn hr
end
end Fv
/-! ### sorted(d.items()), d names -> numbers -/
namespace Fi
open PySem PySem.Spec PyProof.Rows L2 Fw Wk
open PySem.W (EachIs dataLe)
open L2.DX (itemsO itemsO_ok)
/-! many new tuples -/
abbrev Tn := Addr × Obj × List V
def putTs : Hp → List Tn → Hp
  | H, [] => H
  | H, e :: r => putTs (upd H e.1 (frT e.2.1 e.2.2)) r
def frL : Hp → List Tn → Prop
  | _, [] => True
  | H, e :: r => H e.1 = none ∧ frL (upd H e.1 (frT e.2.1 e.2.2)) r
theorem ext_new : ∀ {L : List Tn} {G H : Hp}, Same G H → frL H L → Ext G H (putTs G L) (putTs H L)
  | [], G, H, s, _ => Ext.refl s
  | e :: r, G, H, s, h => (Ext.new s h.1).trans (ext_new (Ext.new s h.1).i h.2)
theorem put_off : ∀ {L : List Tn} {H : Hp} {b : Addr}, b ∉ L.map (·.1) → putTs H L b = H b
  | [], _, _, _ => rfl
  | e :: r, H, b, h => by
    rw [List.map_cons, List.mem_cons, not_or] at h
    show putTs (upd H e.1 _) r b = _
    rw [put_off h.2, upd_ne h.1]
theorem put_at : ∀ {L : List Tn} {H : Hp}, (L.map (·.1)).Nodup → ∀ e ∈ L, putTs H L e.1 = some (frT e.2.1 e.2.2)
  | [], _, _, e, he => by cases he
  | f :: r, H, nd, e, he => by
    rw [List.map_cons, List.nodup_cons] at nd
    rcases List.mem_cons.mp he with z | z
    · subst z
      show putTs (upd H e.1 _) r e.1 = _
      rw [put_off nd.1, upd_same]
    · exact put_at nd.2 e z
theorem fr_of : ∀ {L : List Tn} {H : Hp}, (L.map (·.1)).Nodup → (∀ e ∈ L, H e.1 = none) → frL H L
  | [], _, _, _ => trivial
  | e :: r, H, nd, h => by
    rw [List.map_cons, List.nodup_cons] at nd
    exact ⟨h e List.mem_cons_self, fr_of nd.2 fun f hf => by
      rw [upd_ne (fun z => nd.1 (by rw [← z]; exact List.mem_map.mpr ⟨f, hf, rfl⟩))]
      exact h f (List.mem_cons_of_mem _ hf)⟩
theorem take_all {X : Cx} {pins : List (Addr × Obj)} {σ : L2.St} {s : Shared} {h' : Heap} {tk : Nat} {H0 : Hp} (I0 : Inv X pins σ H0 s) : ∀ (L : List Tn) (H1 : Hp), Inv X pins σ H1 { s with heap := h', toks := tk } → frL H1 L → (∀ e ∈ L, s.heap.objs.size ≤ e.1 ∧ ∀ H2, ObjOk X.prog X.w H2 h' e.1 (frT e.2.1 e.2.2)) →
    Inv X pins σ (putTs H1 L) { s with heap := h', toks := tk }
  | [], H1, I1, _, _ => I1
  | e :: r, H1, I1, f, h => take_all I0 r _ (I1.take (h' := h') (t' := tk) (fun b ob _ z => z) (I0.fpOk (h e List.mem_cons_self).1 f.1) ((h e List.mem_cons_self).2 _)) f.2 fun q hq => h q (List.mem_cons_of_mem _ hq)
/-! d.items() -/
def rItemsK : V → List V → Hp → VK → Prop := fun x xs H Q => ∃ (a : Addr) (kvs : List (Key × V)), x = .ref a ∧ xs = [] ∧ H a = some (.dK kvs) ∧ ∀ p, H p = none → Q (.ref p) (upd H p (itemsO p a))
section
variable {X : Cx}
theorem mt_itemsK : MtR X "dict.items" rItemsK := by
  intro pins s σ H x xs v us Q I rx rxs h
  obtain ⟨a, kvs, rfl, rfl, ha, q⟩ := h
  cases rx
  cases rxs
  obtain ⟨z, hd, vs, rel, o, es, ep, ho, hx, hdat, _⟩ := dk_of I.hok ha
  refine DT.callItems (es := es) (ep := ep) hd ⟨o, ho, hx, hdat⟩ ?_
  have hf : H s.heap.objs.size = none := I.hok.fresh (Nat.le_refl _)
  exact ⟨.ref s.heap.objs.size, upd H s.heap.objs.size (itemsO s.heap.objs.size a), I.laid (t' := s.toks) (fun b u e => Heap.get?_push_of_some _ e) (Nat.le_refl _) (itemsO_ok (Heap.get?_push_size _ rfl)), rfl, q _ hf⟩
/-- the entries of a book -/
def EntIs (e : DictEntry) (p : Str × Int) : Prop := ∃ t u, e.key = Value.str p.1 t ∧ e.val = Value.int p.2 u
theorem ents_bk {P : Program} {w : World} : ∀ {l : List (Str × Int)} {vs : List (Key × Value)} {es : List DictEntry}, KV (kvl (bk l)) vs → Pairs (mixKind P w) es vs → EachIs EntIs es l
  | [], _, _, k, p => by
    cases k
    cases p
    exact .nil
  | q :: l, _, _, k, p => by
    cases k with
    | cons k1 k2 =>
      cases p with
      | cons p1 p2 p3 =>
        refine .cons ?_ (ents_bk k2 p3)
        obtain ⟨e1, e2⟩ := k1
        rw [← e1] at p1
        obtain ⟨t, et⟩ := relV_key (k := (Sum.inr q.1 : Key)) p1
        obtain ⟨u, eu⟩ := e2
        exact ⟨t, u, et, p2.trans eu⟩
theorem each_at {α β : Type} {R : α → β → Prop} : ∀ {as : List α} {bs : List β}, EachIs R as bs → ∀ {i : Nat} {a : α}, as[i]? = some a → ∃ b, bs[i]? = some b ∧ R a b
  | _, _, .nil, _, _, e => by simp at e
  | _, _, .cons h _, 0, _, e => by simp at e; subst e; exact ⟨_, rfl, h⟩
  | _, _, .cons _ t, i + 1, a, e => by
    obtain ⟨b, h1, h2⟩ := each_at t (i := i) (a := a) (by simpa using e)
    exact ⟨b, by simpa using h1, h2⟩
theorem each_of {α β : Type} {R : α → β → Prop} : ∀ {as : List α} {bs : List β}, as.length = bs.length → (∀ (i : Nat) (a : α) (b : β), as[i]? = some a → bs[i]? = some b → R a b) → EachIs R as bs
  | [], [], _, _ => .nil
  | [], _ :: _, h, _ => by cases h
  | _ :: _, [], h, _ => by cases h
  | a :: as, b :: bs, h, k => .cons (k 0 a b rfl rfl) (each_of (Nat.succ.inj h) fun i x y e1 e2 => k (i + 1) x y (by simpa using e1) (by simpa using e2))
def rSortIK : List V → Hp → VK → Prop := fun vs H Q => ∃ (p a : Addr) (l : List (Str × Int)), vs = [.ref p] ∧ H p = some (itemsO p a) ∧ H a = some (.dK (kvl (bk l))) ∧ l.length ≤ 1000 ∧
  ∀ (q : Addr) (L : List Tn) (us : List V), frL H L → (∀ e ∈ L, Pt e.2.1) → (putTs H L) q = none → (∀ G, DrAll (putTs G L) us ((upP l).map encP)) → Q (.ref q) (upd (putTs H L) q (.lst us))
theorem refs_vals : ∀ bs : List Addr, Vals (bs.map V.ref) (bs.map Value.ref)
  | [] => .nil
  | _ :: bs => .cons rfl (refs_vals bs)
/-- the value stands for the pair: a tuple that was laid -/
def PairIs (h' : Heap) (as : List Addr) (v : Value) (p : Str × Int) : Prop := ∃ b t u, v = Value.ref b ∧ b ∈ as ∧ h'.get? b = some { cls := .type "tuple", data := .seq #[Value.str p.1 t, Value.int p.2 u] }
theorem outs {h' : Heap} {as : List Addr} {L : List Tn} (hT : ∀ (b : Addr) (p : Str × Int) t u, h'.get? b = some { cls := .type "tuple", data := .seq #[Value.str p.1 t, Value.int p.2 u] } → b ∈ as → ((b, ({ cls := .type "tuple", data := .seq #[Value.str p.1 t, Value.int p.2 u] } : Obj), [V.str p.1, V.int p.2]) : Tn) ∈ L)
    (nd : (L.map (·.1)).Nodup) : ∀ {vs : List Value} {ps : List (Str × Int)}, EachIs (PairIs h' as) vs ps → ∃ bs : List Addr, vs = bs.map Value.ref ∧ (∀ b ∈ bs, b ∈ L.map (·.1)) ∧ ∀ G, DrAll (putTs G L) (bs.map V.ref) (ps.map encP)
  | _, _, .nil => ⟨[], rfl, fun b hb => (by cases hb), fun _ => .nil⟩
  | v :: vs, p :: ps, .cons h t => by
    obtain ⟨bs, e1, e0, e2⟩ := outs hT nd t
    obtain ⟨b, tt, u, rfl, hb, hg⟩ := h
    have hm := hT b p tt u hg hb
    refine ⟨b :: bs, by rw [e1]; rfl, fun c hc => ?_, fun G => .cons (.tup ⟨_, put_at (H := G) nd _ hm, _, rfl⟩ (.cons (.str _) (.cons (.int _) .nil))) (e2 G)⟩
    rcases List.mem_cons.mp hc with z | z
    · subst z
      exact List.mem_map.mpr ⟨_, hm, rfl⟩
    · exact e0 c z
theorem cr_sortIK (hc : X.calm = true) (hu : X.A.units + 100 < cLine) : CallR X (.builtin "sorted") (rSortIK) := by
  intro pins s σ H xs us Q I r h
  obtain ⟨p, a, l, rfl, hp, ha, hz, q⟩ := h
  obtain rfl := Vals.ref1 r
  have view : s.heap.IsItemsView p a := (show ObjOk X.prog X.w H s.heap p (itemsO p a) from I.hok p _ hp).1
  obtain ⟨z, hd, vs, rel, o, es, ep, ho, hx, hdat, _, hpr, _⟩ := dk_of I.hok ha
  have ents := ents_bk rel hpr
  have les : es.size = l.length := by rw [← Array.length_toList, ents.length]
  have h16 : sizeLine = 16777216 := by first | exact sizeLine_eq | rfl
  have hh : X.A.handled = none := I.ok.hd hc
  refine DT.sortedI (es := es) (ep := ep) hh view ⟨o, ho, hx, hdat⟩ (by omega) fun h' tk as hk hlt hl hG => ?_
  have lak : as.length = l.length := by omega
  have nd : as.Nodup := List.Pairwise.imp (fun h => Nat.ne_of_lt h) hG.rise
  -- what was laid
  have laid : ∀ (j : Nat) (b : Addr) (q : Str × Int), as[j]? = some b → l[j]? = some q → ∃ t u, h'.get? b = some { cls := .type "tuple", data := .seq #[Value.str q.1 t, Value.int q.2 u] } := fun j b q hj hq => by
    obtain ⟨en, he, hg⟩ := hG.pairs j b hj
    obtain ⟨q', hq', t, u, ek, ev⟩ := each_at ents (i := j) (a := en) (by rw [Array.getElem?_toList]; exact he)
    rw [hq] at hq'
    cases hq'
    rw [ek, ev] at hg
    exact ⟨t, u, hg⟩
  have hob : (h'.push { cls := .type "list", data := .seq (as.map Value.ref).toArray }).get? h'.objs.size = some (seqObj "list" (as.map Value.ref).toArray 0) := Heap.get?_push_size _ rfl
  have ka : ∀ b o, h'.get? b = some o → (h'.push { cls := .type "list", data := .seq (as.map Value.ref).toArray }).get? b = some o := fun b o e => Heap.get?_push_of_some _ e
  generalize hh2 : h'.push { cls := .type "list", data := .seq (as.map Value.ref).toArray } = h2 at hob ka ⊢
  have each : EachIs (PairIs h' as) (as.map Value.ref) l := each_of (by rw [List.length_map]; exact lak) fun i v q e1 e2 => by
    rw [List.getElem?_map] at e1
    cases hb : as[i]? with
    | none => rw [hb] at e1; cases e1
    | some b =>
      rw [hb] at e1
      cases e1
      obtain ⟨t, u, g⟩ := laid i b q hb e2
      exact ⟨b, t, u, rfl, List.mem_of_getElem? hb, g⟩
  have each2 : EachIs (fun v b => ∃ as, Reads h2 v (encP b) as ∧ h'.objs.size ∉ as) (as.map Value.ref) l := each.mono fun v y hy => by
    obtain ⟨b, t, u, e, hb, g⟩ := hy
    subst e
    exact ⟨[], .tuple (ka _ _ g) rfl rfl (.cons (.str _ _) (.cons (.int _ _) .nil)), by simp⟩
  have dep : ∀ b, b ∈ l → X.A.in1.units + 1 + (encP b).depth < cLine := fun b hb => by
    have := depth_P l (encP b) (List.mem_map.mpr ⟨b, hb, rfl⟩)
    have hin : X.A.in1.units ≤ X.A.units + 8 := (by simp [Around.in1])
    omega
  refine PySem.W.list_sort_data (s := { s with heap := h2, toks := tk }) (enc := encP) hob each each2 (alikes_P l) (sortable_P l) (by omega) dep ?_
  intro out a1 a2
  · generalize hL : ((as.zip l).map fun z => ((z.1, (h'.get? z.1).getD { cls := .type "tuple", data := .seq #[] }, [V.str z.2.1, V.int z.2.2]) : Tn)) = L
    have lk : L.map (·.1) = as := by
      rw [← hL, List.map_map]
      show (as.zip l).map Prod.fst = as
      exact List.map_fst_zip (by omega)
    have ndL : (L.map (·.1)).Nodup := by rw [lk]; exact nd
    have inL : ∀ (b : Addr) (p : Str × Int) t u, h'.get? b = some { cls := .type "tuple", data := .seq #[Value.str p.1 t, Value.int p.2 u] } → b ∈ as → ((b, ({ cls := .type "tuple", data := .seq #[Value.str p.1 t, Value.int p.2 u] } : Obj), [V.str p.1, V.int p.2]) : Tn) ∈ L := fun b p t u hg hb => by
      obtain ⟨j, hj, ej⟩ := List.getElem_of_mem hb
      have hjb : as[j]? = some b := by rw [List.getElem?_eq_getElem hj, ej]
      have hjl : l[j]? = some (l[j]'(by omega)) := List.getElem?_eq_getElem _
      generalize l[j]'(by omega) = p' at hjl
      obtain ⟨t', u', g'⟩ := laid j b p' hjb hjl
      rw [hg] at g'
      have hz2 : (b, p') ∈ as.zip l := List.mem_of_getElem? (i := j) (by rw [List.getElem?_zip_eq_some]; exact ⟨hjb, hjl⟩)
      rw [← hL]
      refine List.mem_map.mpr ⟨(b, p'), hz2, ?_⟩
      simp only [Option.some.injEq, Obj.mk.injEq, Data.seq.injEq, Array.mk.injEq, List.cons.injEq, Value.str.injEq, Value.int.injEq, and_true, true_and] at g'
      obtain ⟨⟨g1, _⟩, g2, _⟩ := g'
      rw [hg, g1, g2]
      rfl
    obtain ⟨bs, rfl, bsL, dr⟩ := outs inL ndL a2
    obtain ⟨c, hcs⟩ := sortedHeap_at (vs := as.map Value.ref) (out := (bs.map Value.ref).toArray) hob
    have old : ∀ b o, h'.get? b = some o → (sortedHeap h2 h'.objs.size (as.map Value.ref) (bs.map Value.ref).toArray).get? b = some o := fun b o e => by
      have hlt := Heap.lt_size e
      rw [sortedHeap_old (Nat.ne_of_lt hlt) (by rw [← hh2, Heap.size_push]; exact Nat.lt_succ_of_lt hlt)]
      exact ka _ _ e
    generalize sortedHeap h2 h'.objs.size (as.map Value.ref) (bs.map Value.ref).toArray = h3 at hcs old ⊢
    have hn0 : ∀ b, s.heap.objs.size ≤ b → H b = none := fun b hb => I.hok.fresh hb
    have ab : ∀ e ∈ L, e.1 ∈ as := fun e he => by
      rw [← lk]
      exact List.mem_map.mpr ⟨e, he, rfl⟩
    have fr : frL H L := fr_of ndL fun e he => hn0 _ (Nat.le_of_lt (hG.above _ (ab e he)))
    have pts : ∀ e ∈ L, Pt e.2.1 ∧ ∀ H2, ObjOk X.prog X.w H2 h3 e.1 (frT e.2.1 e.2.2) := fun e he => by
      rw [← hL] at he
      obtain ⟨y, hy, rfl⟩ := List.mem_map.mp he
      obtain ⟨j, hj⟩ := List.getElem?_of_mem hy
      obtain ⟨j1, j2⟩ := List.getElem?_zip_eq_some.mp hj
      obtain ⟨t, u, g⟩ := laid j y.1 y.2 j1 j2
      rw [g]
      exact ⟨⟨_, rfl⟩, fun H2 => ok_frT (its := [Value.str y.2.1 t, Value.int y.2.2 u]) (by show 2 ≤ sizeLine; omega) (.cons ⟨t, rfl⟩ (.cons ⟨u, rfl⟩ .nil)) (old _ _ g)⟩
    have I1 : Inv X pins σ H { s with heap := h3, toks := tk } := I.kept (t' := tk) fun b o e => old b o (hk b o e)
    have I2 := take_all (h' := h3) (tk := tk) I L H I1 fr fun e he => ⟨Nat.le_of_lt (hG.above _ (ab e he)), (pts e he).2⟩
    have qn : putTs H L h'.objs.size = none := by
      rw [put_off, hn0 _ (Nat.le_of_lt hlt)]
      intro hm
      rw [lk] at hm
      exact absurd (hG.there hm) (Nat.lt_irrefl _)
    have lb : (bs.map V.ref).length ≤ sizeLine := by
      have e := a1
      rw [List.length_map] at e
      rw [List.length_map]
      omega
    have I3 := I2.take (h' := h3) (t' := tk) (it := h'.objs.size) (o := .lst (bs.map V.ref)) (fun b ob _ e => e) (I.fpOk (Nat.le_of_lt hlt) qn) ⟨lb, bs.map Value.ref, c, refs_vals bs, hcs⟩
    exact ⟨.ref h'.objs.size, _, I3, rfl, q _ L (bs.map V.ref) fr (fun e he => (pts e he).1) qn dr⟩
end
section
variable {K : PySem.W.Frag} {Γ : List Ds}
theorem ev_sortIK {l : List (Str × Int)} {i : Nat} (h : Γ[i]? = some (.ownD (bk l))) (hz : l.length ≤ 1000) : Ev K (tCB rSortIK (tCons (tBM0 K "dict" rItemsK (tVar i)) tNil)) Γ (.dat (.list ((upP l).map encP))) := fun G0 H0 G H σ E Q q => by
  obtain ⟨a, h1, h2, h3, h4⟩ := E.ownD h
  refine ⟨.ref a, h1, ?_, a, _, rfl, rfl, h2, fun p np => ?_⟩
  · exact .inr (.inr (.inl ⟨rfl, .inl ⟨_, h2⟩⟩))
  have e1 : Ext G H G (upd H p (itemsO p a)) := Ext.hid E.s np
  refine ⟨p, a, l, rfl, upd_same, by rw [upd_ne (ne_of_none h2 np)]; exact h2, hz, fun c L us fr pt nc dr => ?_⟩
  have e2 := e1.trans (ext_new e1.i fr)
  exact q _ _ _ (e2.trans (Ext.new e2.i nc)) (.lst upd_same ((dr _).up (same_up (e2.i.free nc))))
theorem k_bm0 {X : Cx} (K : PySem.W.Frag) (h : X.K = K) {o : Expr} {to : TE} {name : Str} {apos cpos : Pos} {T id : String} {r : V → List V → Hp → VK → Prop} (pa : PlainAttrs T) (slot : Slot T name id) (hty : typeOf (.builtin id) = pure (.type "method_descriptor")) (hm : MtR X id r) (ho : PE X o to)
    (hbase : attributeBase o name X.env (eval o X.env) = eval o X.env := by rfl) (hline : (apos.endLine == cpos.line) = true := by rfl) : PE X (.Call (.Attribute o name apos) [] [] cpos) (tBM0 K T r to) := h ▸ pe_bm0 pa slot hty hm ho hbase hline
end
end Fi
/-! ### settled: what it computes -/
namespace Wk
open PySem PySem.Spec L2 Fw Fn Fv
abbrev Cm := List (Str × Option Str)
def oV : Option Str → V
  | none => .non
  | some y => .str y
def cmV (l : Cm) : Lv := l.map fun p => (p.1, oV p.2)
def par (l : Cm) (x : Str) : Option (Option Str) := (l.find? fun p => decide (p.1 = x)).map (·.2)
theorem par_pos {p : Str × Option Str} {r : Cm} {x : Str} (e : p.1 = x) : par (p :: r) x = some p.2 := by simp [par, List.find?_cons, e]
theorem par_neg {p : Str × Option Str} {r : Cm} {x : Str} (e : ¬ p.1 = x) : par (p :: r) x = par r x := by simp [par, List.find?_cons, e]
theorem lk_cm (l : Cm) (x : Str) : lkV (cmV l) x = (par l x).map oV := by
  unfold cmV
  induction l with
  | nil => rfl
  | cons p r ih =>
    rw [List.map_cons]
    by_cases e : p.1 = x
    · rw [par_pos e, lkV_pos (p := (p.1, oV p.2)) e]
      rfl
    · rw [par_neg e, lkV_neg (p := (p.1, oV p.2)) e, ih]
theorem hs_cm (l : Cm) (x : Str) : hsV (cmV l) x = decide (x ∈ l.map (·.1)) := by
  unfold hsV cmV
  rw [List.any_map, Bool.eq_iff_iff, List.any_eq_true, decide_eq_true_iff, List.mem_map]
  exact ⟨fun ⟨p, h, e⟩ => ⟨p, h, of_decide_eq_true e⟩, fun ⟨p, h, e⟩ => ⟨p, h, decide_eq_true e⟩⟩
theorem pt_cm {l : Cm} {x y : Str} (h : x ∉ l.map (·.1)) : ptV (cmV l) x (.str y) = cmV (l ++ [(x, some y)]) := by
  unfold ptV
  rw [if_neg (by rw [hs_cm]; simpa using h)]
  unfold cmV
  rw [List.map_append]
  rfl
/-- how names came -/
inductive CmB (fs : List Fl) (x0 : Str) : Cm → Prop
  | one : CmB fs x0 [(x0, none)]
  | add {l : Cm} {x y : Str} : CmB fs x0 l → y ∈ l.map (·.1) → x ∉ l.map (·.1) → (y, Tg.nm x) ∈ fs → CmB fs x0 (l ++ [(x, some y)])
def rk (l : Cm) (x : Str) : Nat := (l.map (·.1)).idxOf x
theorem par_app {l : Cm} {x z : Str} {o : Option Str} (h : x ∈ l.map (·.1)) : par (l ++ [(z, o)]) x = par l x := by
  induction l with
  | nil => cases h
  | cons p r ih =>
    rw [List.cons_append]
    by_cases e : p.1 = x
    · rw [par_pos e, par_pos e]
    · rw [par_neg e, par_neg e]
      refine ih ?_
      rw [List.map_cons, List.mem_cons] at h
      exact h.resolve_left fun q => e q.symm
theorem par_new {l : Cm} {x : Str} {o : Option Str} (h : x ∉ l.map (·.1)) : par (l ++ [(x, o)]) x = some o := by
  induction l with
  | nil => exact par_pos rfl
  | cons p r ih =>
    rw [List.map_cons, List.mem_cons, not_or] at h
    rw [List.cons_append, par_neg (fun e => h.1 e.symm)]
    exact ih h.2
theorem rk_app {l : Cm} {x z : Str} {o : Option Str} (h : x ∈ l.map (·.1)) : rk (l ++ [(z, o)]) x = rk l x := by
  unfold rk
  rw [List.map_append, List.idxOf_append, if_pos h]
theorem rk_lt {l : Cm} {x : Str} (h : x ∈ l.map (·.1)) : rk l x < l.length := by
  have := List.idxOf_lt_length_of_mem h
  rwa [List.length_map] at this
theorem rk_new {l : Cm} {x : Str} {o : Option Str} (h : x ∉ l.map (·.1)) : rk (l ++ [(x, o)]) x = l.length := by
  unfold rk
  rw [List.map_append, List.idxOf_append, if_neg h]
  simp
section
variable {fs : List Fl} {x0 : Str} {l : Cm}
theorem CmB.nd (h : CmB fs x0 l) : (l.map (·.1)).Nodup := by
  induction h with
  | one => exact List.nodup_cons.mpr ⟨List.not_mem_nil, List.nodup_nil⟩
  | add h1 h2 h3 h4 ih =>
    rw [List.map_append]
    refine List.nodup_append.mpr ⟨ih, List.nodup_cons.mpr ⟨List.not_mem_nil, List.nodup_nil⟩, fun a ha b hb e => ?_⟩
    have := List.mem_singleton.mp hb
    subst this
    subst e
    exact h3 ha
theorem CmB.pos (h : CmB fs x0 l) : x0 ∈ l.map (·.1) := by
  induction h with
  | one => exact List.mem_cons_self
  | add h1 h2 h3 h4 ih => rw [List.map_append]; exact List.mem_append_left _ ih
theorem CmB.par (h : CmB fs x0 l) : ∀ x ∈ l.map (·.1), (Wk.par l x = some none ∧ x = x0) ∨ ∃ y, Wk.par l x = some (some y) ∧ y ∈ l.map (·.1) ∧ rk l y < rk l x ∧ (y, Tg.nm x) ∈ fs := by
  induction h with
  | one =>
    intro x hx
    have e : x = x0 := by simpa using hx
    subst e
    exact .inl ⟨par_pos rfl, rfl⟩
  | @add l z w h1 h2 h3 h4 ih =>
    intro x hx
    by_cases hl : x ∈ l.map (·.1)
    · rw [par_app hl, rk_app hl]
      rcases ih x hl with q | ⟨y, q1, q2, q3, q4⟩
      · exact .inl q
      · exact .inr ⟨y, q1, by rw [List.map_append]; exact List.mem_append_left _ q2, by rw [rk_app q2]; exact q3, q4⟩
    · rw [List.map_append] at hx
      have e : x = z := by simpa using (List.mem_append.mp hx).resolve_left hl
      subst e
      rw [par_new hl, rk_new hl]
      exact .inr ⟨w, rfl, by rw [List.map_append]; exact List.mem_append_left _ h2, by rw [rk_app h2]; exact rk_lt h2, h4⟩
end
def trF : Nat → Cm → Str → List Str → List Str
  | 0, _, _, acc => acc
  | n + 1, cm, x, acc => match par cm x with
    | some (some y) => trF n cm y (y :: acc)
    | _ => acc
def trl (cm : Cm) (x : Str) : List Str := trF cm.length cm x [x]
/-- from each name a flow to the next -/
def Path (fs : List Fl) : List Str → Prop
  | [] => True
  | [_] => True
  | x :: y :: r => (x, Tg.nm y) ∈ fs ∧ Path fs (y :: r)
inductive Rc (fs : List Fl) (x : Str) : Str → Prop
  | refl : Rc fs x x
  | step {a y : Str} : Rc fs x a → (a, Tg.nm y) ∈ fs → Rc fs x y
theorem trF_path {fs : List Fl} {x0 : Str} {cm : Cm} (h : CmB fs x0 cm) : ∀ (n : Nat) (x : Str) (acc : List Str), x ∈ cm.map (·.1) → rk cm x < n → Path fs (x :: acc) → Path fs (trF n cm x (x :: acc)) ∧ (trF n cm x (x :: acc)).head? = some x0 ∧ (trF n cm x (x :: acc)).getLast? = (x :: acc).getLast?
  | 0, x, acc, hx, hr, hp => absurd hr (Nat.not_lt_zero _)
  | n + 1, x, acc, hx, hr, hp => by
    rcases h.par x hx with ⟨q, e⟩ | ⟨y, q1, q2, q3, q4⟩
    · have et : trF (n + 1) cm x (x :: acc) = x :: acc := by
        show (match par cm x with | some (some y) => trF n cm y (y :: x :: acc) | _ => x :: acc) = _
        rw [q]
      rw [et, e]
      rw [e] at hp
      exact ⟨hp, rfl, rfl⟩
    · have et : trF (n + 1) cm x (x :: acc) = trF n cm y (y :: x :: acc) := by
        show (match par cm x with | some (some y) => trF n cm y (y :: x :: acc) | _ => x :: acc) = _
        rw [q1]
      rw [et]
      have q := trF_path h n y (x :: acc) q2 (by omega) ⟨q4, hp⟩
      refine ⟨q.1, q.2.1, q.2.2.trans ?_⟩
      rw [List.getLast?_cons_cons]
theorem trl_path {fs : List Fl} {x0 : Str} {cm : Cm} (h : CmB fs x0 cm) {x : Str} (hx : x ∈ cm.map (·.1)) : Path fs (trl cm x) ∧ (trl cm x).head? = some x0 ∧ (trl cm x).getLast? = some x :=
  trF_path h cm.length x [] hx (rk_lt hx) trivial
theorem CmB.rc {fs : List Fl} {x0 : Str} {cm : Cm} (h : CmB fs x0 cm) : ∀ x ∈ cm.map (·.1), Rc fs x0 x := by
  induction h with
  | one =>
    intro x hx
    have e : x = x0 := by simpa using hx
    subst e
    exact .refl
  | add h1 h2 h3 h4 ih =>
    intro x hx
    rw [List.map_append] at hx
    rcases List.mem_append.mp hx with q | q
    · exact ih x q
    · have e := List.mem_singleton.mp q
      rw [e]
      exact .step (ih _ h2) h4
/-! is_down -/
def dnH (h : List (Str × Int)) (lv : Int) : Tg → Bool
  | .pg i => decide (i < lv)
  | .nm y => has h y && decide (look h y < lv)
/-! walked -/
def addC (x : Str) (cm : Cm) (f : Fl) : Cm := match f.2 with
  | .nm y => if f.1 = x ∧ y ∉ cm.map (·.1) then cm ++ [(y, some f.1)] else cm
  | .pg _ => cm
def hit (x : Str) (dn : Tg → Bool) (f : Fl) : Bool := decide (f.1 = x) && dn f.2
def inn (x : Str) (dn : Tg → Bool) : List Fl → Cm → (Fl × Cm) ⊕ Cm
  | [], cm => .inr cm
  | f :: r, cm => if hit x dn f = true then .inl (f, cm) else inn x dn r (addC x cm f)
theorem inn_app {x : Str} {dn : Tg → Bool} : ∀ {a : List Fl} {b : List Fl} {cm : Cm}, (∀ g ∈ a, hit x dn g = false) → inn x dn (a ++ b) cm = inn x dn b (a.foldl (addC x) cm)
  | [], _, _, _ => rfl
  | g :: a, b, cm, h => by
    have e : inn x dn (g :: a ++ b) cm = inn x dn (a ++ b) (addC x cm g) := by
      show (if hit x dn g = true then _ else _) = _
      rw [if_neg (by rw [h g List.mem_cons_self]; decide)]
      rfl
    rw [e, inn_app fun q hq => h q (List.mem_cons_of_mem _ hq)]
    rfl
theorem inn_at {x : Str} {dn : Tg → Bool} {fs : List Fl} {cm : Cm} {i : Nat} (h : ∀ g ∈ fs.take i, hit x dn g = false) : inn x dn fs cm = inn x dn (fs.drop i) ((fs.take i).foldl (addC x) cm) := by
  have q := inn_app (b := fs.drop i) (cm := cm) h
  rwa [List.take_append_drop] at q
inductive WR where
  | trail (ps : List Str) (t : Tg)
  | names (ns : List Str)
def encW : WR → PyData
  | .trail ps t => .tuple [.str "trail", .tuple (ps.map .str), encG t]
  | .names ns => .tuple [.str "names", .list (ns.map .str)]
def wkF (fs : List Fl) (dn : Tg → Bool) : Nat → Nat → Cm → WR
  | 0, _, cm => .names (cm.map (·.1))
  | n + 1, at', cm => match (cm.map (·.1))[at']? with
    | none => .names (cm.map (·.1))
    | some x => match inn x dn fs cm with
      | .inl (f, c) => .trail (trl c f.1) f.2
      | .inr c => wkF fs dn n (at' + 1) c
def wk (fs : List Fl) (dn : Tg → Bool) (x : Str) : WR := wkF fs dn 100 0 [(x, none)]
theorem addC_ok {fs : List Fl} {x0 x : Str} {cm : Cm} {f : Fl} (h : CmB fs x0 cm) (hx : x ∈ cm.map (·.1)) (hf : f ∈ fs) : CmB fs x0 (addC x cm f) := by
  obtain ⟨a, t⟩ := f
  cases t with
  | pg i => exact h
  | nm y =>
    show CmB fs x0 (if a = x ∧ y ∉ cm.map (·.1) then cm ++ [(y, some a)] else cm)
    split
    · rename_i q
      exact .add h (by rw [q.1]; exact hx) q.2 hf
    · exact h
theorem addC_pre {x : Str} {cm : Cm} {f : Fl} : ∃ e, (addC x cm f).map (·.1) = cm.map (·.1) ++ e := by
  obtain ⟨a, t⟩ := f
  cases t with
  | pg i => exact ⟨[], (List.append_nil _).symm⟩
  | nm y =>
    show ∃ e, (if a = x ∧ y ∉ cm.map (·.1) then cm ++ [(y, some a)] else cm).map (·.1) = _
    split
    · exact ⟨[y], by rw [List.map_append]; rfl⟩
    · exact ⟨[], (List.append_nil _).symm⟩
theorem fold_pre {x : Str} : ∀ {gs : List Fl} {cm : Cm}, ∃ e, (gs.foldl (addC x) cm).map (·.1) = cm.map (·.1) ++ e
  | [], cm => ⟨[], (List.append_nil _).symm⟩
  | g :: gs, cm => by
    obtain ⟨e1, h1⟩ := addC_pre (x := x) (cm := cm) (f := g)
    obtain ⟨e2, h2⟩ := fold_pre (x := x) (gs := gs) (cm := addC x cm g)
    exact ⟨e1 ++ e2, by rw [List.foldl_cons, h2, h1, List.append_assoc]⟩
theorem fold_mem {x y : Str} {gs : List Fl} {cm : Cm} (h : y ∈ cm.map (·.1)) : y ∈ (gs.foldl (addC x) cm).map (·.1) := by
  obtain ⟨e, q⟩ := fold_pre (x := x) (gs := gs) (cm := cm)
  rw [q]
  exact List.mem_append_left _ h
theorem fold_ok {fs : List Fl} {x0 x : Str} : ∀ {gs : List Fl} {cm : Cm}, CmB fs x0 cm → x ∈ cm.map (·.1) → (∀ g ∈ gs, g ∈ fs) → CmB fs x0 (gs.foldl (addC x) cm)
  | [], cm, h, _, _ => h
  | g :: gs, cm, h, hx, hg => fold_ok (gs := gs) (addC_ok h hx (hg g List.mem_cons_self)) (by
      obtain ⟨e, q⟩ := addC_pre (x := x) (cm := cm) (f := g)
      rw [q]
      exact List.mem_append_left _ hx) fun q hq => hg q (List.mem_cons_of_mem _ hq)
theorem fold_got {x y : Str} : ∀ {gs : List Fl} {cm : Cm}, (x, Tg.nm y) ∈ gs → y ∈ (gs.foldl (addC x) cm).map (·.1)
  | g :: gs, cm, h => by
    rw [List.foldl_cons]
    rcases List.mem_cons.mp h with e | e
    · refine fold_mem ?_
      subst e
      show y ∈ (if x = x ∧ y ∉ cm.map (·.1) then cm ++ [(y, some x)] else cm).map (·.1)
      by_cases hy : y ∈ cm.map (·.1)
      · rw [if_neg fun q => q.2 hy]
        exact hy
      · rw [if_pos ⟨rfl, hy⟩, List.map_append]
        exact List.mem_append_right _ List.mem_cons_self
    · exact fold_got e
theorem inn_inl {x : Str} {dn : Tg → Bool} : ∀ {fs : List Fl} {cm c : Cm} {f : Fl}, inn x dn fs cm = .inl (f, c) → f ∈ fs ∧ f.1 = x ∧ dn f.2 = true ∧ ∃ gs : List Fl, (∀ g ∈ gs, g ∈ fs) ∧ c = gs.foldl (addC x) cm
  | [], cm, c, f, h => by cases h
  | g :: fs, cm, c, f, h => by
    have h : (if hit x dn g = true then Sum.inl (g, cm) else inn x dn fs (addC x cm g)) = .inl (f, c) := h
    by_cases hg : hit x dn g = true
    · rw [if_pos hg] at h
      cases h
      have q := Bool.and_eq_true_iff.mp hg
      exact ⟨List.mem_cons_self, of_decide_eq_true q.1, q.2, [], fun _ z => (by cases z), rfl⟩
    · rw [if_neg hg] at h
      obtain ⟨h1, h2, h3, gs, h4, h5⟩ := inn_inl h
      refine ⟨List.mem_cons_of_mem _ h1, h2, h3, g :: gs, fun q hq => ?_, h5⟩
      rcases List.mem_cons.mp hq with e | e
      · rw [e]; exact List.mem_cons_self
      · exact List.mem_cons_of_mem _ (h4 q e)
theorem inn_inr {x : Str} {dn : Tg → Bool} : ∀ {fs : List Fl} {cm c : Cm}, inn x dn fs cm = .inr c → c = fs.foldl (addC x) cm ∧ ∀ f ∈ fs, f.1 = x → dn f.2 = false
  | [], cm, c, h => by cases h; exact ⟨rfl, fun _ z => by cases z⟩
  | g :: fs, cm, c, h => by
    have h : (if hit x dn g = true then Sum.inl (g, cm) else inn x dn fs (addC x cm g)) = .inr c := h
    by_cases hg : hit x dn g = true
    · rw [if_pos hg] at h
      cases h
    · rw [if_neg hg] at h
      obtain ⟨h1, h2⟩ := inn_inr h
      refine ⟨h1, fun f hf e => ?_⟩
      rcases List.mem_cons.mp hf with z | z
      · subst z
        unfold hit at hg
        rw [decide_eq_true e, Bool.true_and] at hg
        simpa using hg
      · exact h2 f z e
/-! settled -/
def sdf (l : List (Str × Int)) (x : Str) : List (Str × Int) := if has l x = true then l else l ++ [(x, 0)]
def rais (lv : Int) (l : List (Str × Int)) (o : Str) : List (Str × Int) := dput l o (max (look l o) lv)
inductive SR where
  | trail (ps : List Str) (t : Tg)
  | house (l : List (Str × Int))
def encSR : SR → PyData
  | .trail ps t => encW (.trail ps t)
  | .house l => .tuple [.str "house", encS l]
def stF (fs : List Fl) (h : List (Str × Int)) : List (Str × Int) → List (Str × Int) → SR
  | [], l => .house (upP l)
  | p :: r, l => match wk fs (dnH h p.2) p.1 with
    | .trail ps t => .trail ps t
    | .names ns => stF fs h r (ns.foldl (rais p.2) l)
def stl (fs : List Fl) (h : List (Str × Int)) (nms : List Str) : SR := stF fs h h (nms.foldl sdf h)
/-- the levels behind some of a house -/
def lvUp (fs : List Fl) (h : List (Str × Int)) (l : List (Str × Int)) (p : Str × Int) : List (Str × Int) := match wk fs (dnH h p.2) p.1 with
  | .trail _ _ => l
  | .names ns => ns.foldl (rais p.2) l
def isNames : WR → Bool
  | .names _ => true
  | _ => false
theorem stF_app {fs : List Fl} {h : List (Str × Int)} : ∀ {a b l : List (Str × Int)}, (∀ p ∈ a, isNames (wk fs (dnH h p.2) p.1) = true) → stF fs h (a ++ b) l = stF fs h b (a.foldl (lvUp fs h) l)
  | [], _, _, _ => rfl
  | p :: a, b, l, k => by
    have k1 := k p List.mem_cons_self
    have e : stF fs h (p :: a ++ b) l = stF fs h (a ++ b) (lvUp fs h l p) := by
      show (match wk fs (dnH h p.2) p.1 with | .trail ps t => SR.trail ps t | .names ns => stF fs h (a ++ b) (ns.foldl (rais p.2) l)) = _
      unfold lvUp
      cases hw : wk fs (dnH h p.2) p.1 with
      | trail ps t => rw [hw] at k1; cases k1
      | names ns => rfl
    rw [e, stF_app fun q hq => k q (List.mem_cons_of_mem _ hq)]
    rfl
theorem stF_at {fs : List Fl} {h l : List (Str × Int)} {hs : List (Str × Int)} {i : Nat} (k : ∀ p ∈ hs.take i, isNames (wk fs (dnH h p.2) p.1) = true) : stF fs h hs l = stF fs h (hs.drop i) ((hs.take i).foldl (lvUp fs h) l) := by
  have q := stF_app (b := hs.drop i) (l := l) k
  rwa [List.take_append_drop] at q
theorem bk_sdf (l : List (Str × Int)) (x : Str) : (if hsV (bk l) x = true then bk l else bk l ++ [(x, V.int 0)]) = bk (sdf l x) := by
  unfold sdf
  rw [hsV_bk]
  split
  · rfl
  · unfold bk
    rw [List.map_append]
    rfl
theorem CmB.sub {fs : List Fl} {x0 : Str} {cm : Cm} {S : List Str} (h : CmB fs x0 cm) (h0 : x0 ∈ S) (hS : ∀ f ∈ fs, ∀ y, f.2 = .nm y → y ∈ S) : ∀ y ∈ cm.map (·.1), y ∈ S := by
  induction h with
  | one =>
    intro x hx
    have e : x = x0 := by simpa using hx
    rw [e]
    exact h0
  | add h1 h2 h3 h4 ih =>
    intro x hx
    rw [List.map_append] at hx
    rcases List.mem_append.mp hx with q | q
    · exact ih x q
    · rw [List.mem_singleton.mp q]
      exact hS _ h4 _ rfl
theorem CmB.len {fs : List Fl} {x0 : Str} {cm : Cm} {S : List Str} (h : CmB fs x0 cm) (h0 : x0 ∈ S) (hS : ∀ f ∈ fs, ∀ y, f.2 = .nm y → y ∈ S) : cm.length ≤ S.length := by
  have := Ft.nodup_len h.nd (h.sub h0 hS)
  rwa [List.length_map] at this
theorem fold_next {x : Str} {fs : List Fl} {i : Nat} {f : Fl} {cm : Cm} (h : fs[i]? = some f) : (fs.take (i + 1)).foldl (addC x) cm = addC x ((fs.take i).foldl (addC x) cm) f := by
  rw [List.take_add_one, h, List.foldl_append]
  rfl
theorem wkF_names {fs : List Fl} {dn : Tg → Bool} {x0 : Str} {ns : List Str} : ∀ (n a : Nat) {cm : Cm}, CmB fs x0 cm → wkF fs dn n a cm = .names ns → ∃ c, CmB fs x0 c ∧ ns = c.map (·.1)
  | 0, a, cm, h, e => by cases e; exact ⟨cm, h, rfl⟩
  | n + 1, a, cm, h, e => by
    have e : (match (cm.map (fun p : Str × Option Str => p.1))[a]? with | none => WR.names (cm.map (fun p : Str × Option Str => p.1)) | some x => match inn x dn fs cm with | .inl (f, c) => .trail (trl c f.1) f.2 | .inr c => wkF fs dn n (a + 1) c) = .names ns := e
    cases hx : (cm.map (·.1))[a]? with
    | none => rw [hx] at e; cases e; exact ⟨cm, h, rfl⟩
    | some x =>
      rw [hx] at e
      have xm := List.mem_of_getElem? hx
      cases hi : inn x dn fs cm with
      | inl q =>
        have e : (match inn x dn fs cm with | .inl (f, c) => WR.trail (trl c f.1) f.2 | .inr c => wkF fs dn n (a + 1) c) = .names ns := e
        rw [hi] at e
        obtain ⟨f, c⟩ := q
        cases e
      | inr c =>
        have e : (match inn x dn fs cm with | .inl (f, c) => WR.trail (trl c f.1) f.2 | .inr c => wkF fs dn n (a + 1) c) = .names ns := e
        rw [hi] at e
        exact wkF_names n (a + 1) (by rw [(inn_inr hi).1]; exact fold_ok h xm fun g hg => hg) e
theorem wk_names {fs : List Fl} {dn : Tg → Bool} {x0 : Str} {ns : List Str} (h : wk fs dn x0 = .names ns) : ∃ c, CmB fs x0 c ∧ ns = c.map (·.1) := wkF_names 100 0 .one h
structure LvOk (nm : List Str) (l : List (Str × Int)) : Prop where
  nd : (l.map (·.1)).Nodup
  sub : ∀ y ∈ l.map (·.1), y ∈ nm
theorem LvOk.len {nm : List Str} {l : List (Str × Int)} (h : LvOk nm l) : l.length ≤ nm.length := by
  have := Ft.nodup_len h.nd h.sub
  rwa [List.length_map] at this
theorem LvOk.put {nm : List Str} {l : List (Str × Int)} (h : LvOk nm l) {x : Str} (hx : x ∈ nm) (v : Int) : LvOk nm (dput l x v) :=
  ⟨nodup_dput h.nd, fun y hy => (mem_dput.mp hy).elim (h.sub y) fun e => e ▸ hx⟩
theorem sdf_put (l : List (Str × Int)) (x : Str) : sdf l x = l ∨ sdf l x = dput l x 0 := by
  unfold sdf dput
  split
  · exact .inl rfl
  · exact .inr rfl
theorem sdf_fold {nm : List Str} : ∀ {xs : List Str} {l : List (Str × Int)}, LvOk nm l → (∀ x ∈ xs, x ∈ nm) → LvOk nm (xs.foldl sdf l)
  | [], _, h, _ => h
  | x :: xs, l, h, k => sdf_fold (xs := xs) (by
      rcases sdf_put l x with e | e <;> rw [e]
      · exact h
      · exact h.put (k x List.mem_cons_self) 0) fun y hy => k y (List.mem_cons_of_mem _ hy)
theorem rais_fold {nm : List Str} {lv : Int} : ∀ {xs : List Str} {l : List (Str × Int)}, LvOk nm l → (∀ x ∈ xs, x ∈ nm) → LvOk nm (xs.foldl (rais lv) l)
  | [], _, h, _ => h
  | x :: xs, l, h, k => rais_fold (xs := xs) (h.put (k x List.mem_cons_self) _) fun y hy => k y (List.mem_cons_of_mem _ hy)
theorem lvUp_fold {nm : List Str} {fs : List Fl} {h : List (Str × Int)} : ∀ {ps : List (Str × Int)} {l : List (Str × Int)}, LvOk nm l → (∀ p ∈ ps, p.1 ∈ nm) → (∀ f ∈ fs, ∀ y, f.2 = .nm y → y ∈ nm) → LvOk nm (ps.foldl (lvUp fs h) l)
  | [], _, k, _, _ => k
  | p :: ps, l, k, kp, kf => lvUp_fold (ps := ps) (by
      unfold lvUp
      cases hw : wk fs (dnH h p.2) p.1 with
      | trail a b => exact k
      | names ns =>
        obtain ⟨c, c1, c2⟩ := wk_names hw
        exact rais_fold k fun y hy => c1.sub (kp p List.mem_cons_self) kf y (by rw [← c2]; exact hy)) (fun q hq => kp q (List.mem_cons_of_mem _ hq)) kf
/-! what is asked of the defs -/
def PrTrail : List Ds → PyData → Prop := fun xs d => ∃ (x : Str) (cm : Cm) (fs : List Fl) (x0 : Str), xs = [.dat (.str x), .dic (cmV cm)] ∧ CmB fs x0 cm ∧ x ∈ cm.map (·.1) ∧ cm.length ≤ 60 ∧ d = .tuple ((trl cm x).map .str)
def PrDown : List Ds → PyData → Prop := fun xs d => ∃ (t : Tg) (lv : Int) (h : List (Str × Int)), xs = [.dat (encG t), .dat (.int lv), .dic (bk h)] ∧ d = .bool (dnH h lv t)
def PrWalk : List Ds → PyData → Prop := fun xs d => ∃ (x : Str) (lv : Int) (h : List (Str × Int)) (fs : List Fl) (S : List Str), xs = [.dat (.str x), .dat (.int lv), .dic (bk h), .dat (.tuple (fs.map encF))] ∧ x ∈ S ∧ (∀ f ∈ fs, ∀ y, f.2 = .nm y → y ∈ S) ∧ S.length ≤ 60 ∧ fs.length ≤ 1000 ∧ d = encW (wk fs (dnH h lv) x)
def PrSettled (n : Nat) : List Ds → PyData → Prop := fun xs d => ∃ (nm : List Str) (b : List Dd) (h : List (Str × Int)), xs = [.dat (encB b), .dat (encS h)] ∧ okL nm b ∧ nm.length ≤ 60 ∧ GaOk n b ∧ (flowsS b).length ≤ 1000 ∧ (allL b).length ≤ 50000 ∧ Rising h ∧ (∀ p ∈ h, p.1 ∈ nm) ∧ h.length ≤ 60 ∧ d = encSR (stl (flowsS b) h (Ft.upX (allL b)))
end Wk
/-! ### settled: what it tells -/
namespace Wk
open PySem PySem.Spec L2 Fw Fn Fv
theorem path_rc {fs : List Fl} : ∀ {ps : List Str} {x y z : Str}, Path fs ps → Rc fs z x → ps.head? = some x → ps.getLast? = some y → Rc fs z y
  | [], _, _, _, _, _, h, _ => by cases h
  | [a], x, y, z, _, r, h, k => by
    cases h
    cases k
    exact r
  | a :: b :: r, x, y, z, p, q, h, k => by
    cases h
    rw [List.getLast?_cons_cons] at k
    exact path_rc (ps := b :: r) p.2 (.step q p.1) rfl k
def ClAt (fs : List Fl) (dn : Tg → Bool) (cm : Cm) (x : Str) : Prop := ∀ f ∈ fs, f.1 = x → dn f.2 = false ∧ ∀ y, f.2 = .nm y → y ∈ cm.map (·.1)
theorem wkF_closed {fs : List Fl} {dn : Tg → Bool} {x0 : Str} {ns : List Str} (hl : ∀ c, CmB fs x0 c → c.length ≤ 60) : ∀ (n a : Nat) {cm : Cm}, CmB fs x0 cm → (∀ x ∈ (cm.map (·.1)).take a, ClAt fs dn cm x) → 60 < n + a → wkF fs dn n a cm = .names ns →
    ∃ c, CmB fs x0 c ∧ ns = c.map (·.1) ∧ ∀ x ∈ c.map (·.1), ClAt fs dn c x
  | 0, a, cm, h, k, hn, e => by
    cases e
    have := hl cm h
    rw [List.take_of_length_le (by rw [List.length_map]; omega)] at k
    exact ⟨cm, h, rfl, k⟩
  | n + 1, a, cm, h, k, hn, e => by
    have e : (match (cm.map (fun p : Str × Option Str => p.1))[a]? with | none => WR.names (cm.map (fun p : Str × Option Str => p.1)) | some x => match inn x dn fs cm with | .inl (f, c) => .trail (trl c f.1) f.2 | .inr c => wkF fs dn n (a + 1) c) = .names ns := e
    cases hx : (cm.map (·.1))[a]? with
    | none =>
      rw [hx] at e
      cases e
      rw [List.take_of_length_le (List.getElem?_eq_none_iff.mp hx)] at k
      exact ⟨cm, h, rfl, k⟩
    | some x =>
      rw [hx] at e
      have xm := List.mem_of_getElem? hx
      have e : (match inn x dn fs cm with | .inl (f, c) => WR.trail (trl c f.1) f.2 | .inr c => wkF fs dn n (a + 1) c) = .names ns := e
      cases hi : inn x dn fs cm with
      | inl q =>
        rw [hi] at e
        obtain ⟨f, c⟩ := q
        cases e
      | inr c =>
        rw [hi] at e
        obtain ⟨i1, i2⟩ := inn_inr hi
        subst i1
        obtain ⟨ext, hex⟩ := fold_pre (x := x) (gs := fs) (cm := cm)
        refine wkF_closed hl n (a + 1) (fold_ok h xm fun g hg => hg) (fun z hz => ?_) (by omega) e
        have hal : a < (cm.map (·.1)).length := (List.getElem?_eq_some_iff.mp hx).1
        rw [hex, List.take_append_of_le_length (by omega), List.take_add_one, hx] at hz
        rcases List.mem_append.mp hz with q | q
        · intro f hf ez
          obtain ⟨c1, c2⟩ := k z q f hf ez
          exact ⟨c1, fun y hy => fold_mem (c2 y hy)⟩
        · have ez : z = x := by simpa using q
          subst ez
          intro f hf e2
          refine ⟨i2 f hf e2, fun y hy => ?_⟩
          obtain ⟨o, t⟩ := f
          cases e2
          cases hy
          exact fold_got hf
theorem wkF_trail {fs : List Fl} {dn : Tg → Bool} {x0 : Str} {ps : List Str} {t : Tg} : ∀ (n a : Nat) {cm : Cm}, CmB fs x0 cm → wkF fs dn n a cm = .trail ps t → Path fs ps ∧ ps.head? = some x0 ∧ ∃ y, ps.getLast? = some y ∧ (y, t) ∈ fs ∧ dn t = true
  | 0, a, cm, h, e => by cases e
  | n + 1, a, cm, h, e => by
    have e : (match (cm.map (fun p : Str × Option Str => p.1))[a]? with | none => WR.names (cm.map (fun p : Str × Option Str => p.1)) | some x => match inn x dn fs cm with | .inl (f, c) => .trail (trl c f.1) f.2 | .inr c => wkF fs dn n (a + 1) c) = .trail ps t := e
    cases hx : (cm.map (·.1))[a]? with
    | none => rw [hx] at e; cases e
    | some x =>
      rw [hx] at e
      have xm := List.mem_of_getElem? hx
      have e : (match inn x dn fs cm with | .inl (f, c) => WR.trail (trl c f.1) f.2 | .inr c => wkF fs dn n (a + 1) c) = .trail ps t := e
      cases hi : inn x dn fs cm with
      | inl q =>
        rw [hi] at e
        obtain ⟨f, c⟩ := q
        obtain ⟨i1, i2, i3, gs, i4, i5⟩ := inn_inl hi
        have e : WR.trail (trl c f.1) f.2 = .trail ps t := e
        cases e
        have ck : CmB fs x0 c := by rw [i5]; exact fold_ok h xm i4
        have q := trl_path ck (x := f.1) (by rw [i2, i5]; exact fold_mem xm)
        exact ⟨q.1, q.2.1, f.1, q.2.2, i1, i3⟩
      | inr c =>
        rw [hi] at e
        obtain ⟨i1, _⟩ := inn_inr hi
        exact wkF_trail n (a + 1) (by rw [i1]; exact fold_ok h xm fun g hg => hg) e
theorem wk_trail {fs : List Fl} {dn : Tg → Bool} {x : Str} {ps : List Str} {t : Tg} (h : wk fs dn x = .trail ps t) : Path fs ps ∧ ps.head? = some x ∧ ∃ y, ps.getLast? = some y ∧ (y, t) ∈ fs ∧ dn t = true := wkF_trail 100 0 .one h
theorem wk_all {fs : List Fl} {dn : Tg → Bool} {x : Str} {ns S : List Str} (hx : x ∈ S) (hS : ∀ f ∈ fs, ∀ y, f.2 = .nm y → y ∈ S) (hl : S.length ≤ 60) (h : wk fs dn x = .names ns) : (∀ y, y ∈ ns ↔ Rc fs x y) ∧ ∀ f ∈ fs, Rc fs x f.1 → dn f.2 = false := by
  obtain ⟨c, c1, c2, c3⟩ := wkF_closed (fun c hc => Nat.le_trans (hc.len hx hS) hl) 100 0 (dn := dn) .one (fun z hz => by simp at hz) (by decide) h
  have rc : ∀ y, Rc fs x y → y ∈ c.map (·.1) := fun y hy => by
    induction hy with
    | refl => exact c1.pos
    | step q1 q2 ih => exact (c3 _ ih _ q2 rfl).2 _ rfl
  refine ⟨fun y => ?_, fun f hf hr => (c3 _ (rc _ hr) f hf rfl).1⟩
  rw [c2]
  exact ⟨c1.rc y, rc y⟩
/-- levels, from those told, by what reaches -/
structure Lvl (fs : List Fl) (h0 : List (Str × Int)) (ps : List (Str × Int)) (l : List (Str × Int)) : Prop where
  up : ∀ y, look h0 y ≤ look l y
  ge : ∀ p ∈ ps, ∀ y, Rc fs p.1 y → p.2 ≤ look l y
  eq : ∀ y, look l y = look h0 y ∨ ∃ p ∈ ps, Rc fs p.1 y ∧ look l y = p.2
  keys : ∀ y, y ∈ l.map (·.1) ↔ y ∈ h0.map (·.1) ∨ ∃ p ∈ ps, Rc fs p.1 y
theorem rais_look {lv : Int} : ∀ {ns : List Str} {l : List (Str × Int)} {y : Str}, look (ns.foldl (rais lv) l) y = if y ∈ ns then max (look l y) lv else look l y
  | [], l, y => by simp
  | o :: ns, l, y => by
    rw [List.foldl_cons, rais_look (ns := ns)]
    have e : look (rais lv l o) y = if y = o then max (look l o) lv else look l y := look_dput l o y _
    rw [e]
    by_cases h1 : y = o
    · subst h1
      rw [if_pos rfl, if_pos List.mem_cons_self]
      split <;> omega
    · rw [if_neg h1]
      by_cases h2 : y ∈ ns
      · rw [if_pos h2, if_pos (List.mem_cons_of_mem _ h2)]
      · rw [if_neg h2, if_neg (fun q => (List.mem_cons.mp q).elim h1 h2)]
theorem rais_keys {lv : Int} : ∀ {ns : List Str} {l : List (Str × Int)} {y : Str}, y ∈ (ns.foldl (rais lv) l).map (·.1) ↔ y ∈ l.map (·.1) ∨ y ∈ ns
  | [], l, y => by simp
  | o :: ns, l, y => by
    rw [List.foldl_cons, rais_keys (ns := ns), List.mem_cons]
    have e : y ∈ (rais lv l o).map (·.1) ↔ y ∈ l.map (·.1) ∨ y = o := mem_dput
    rw [e, or_assoc]
theorem lvl_step {fs : List Fl} {h0 ps l : List (Str × Int)} {p : Str × Int} {ns : List Str} (k : Lvl fs h0 ps l) (hn : ∀ y, y ∈ ns ↔ Rc fs p.1 y) : Lvl fs h0 (ps ++ [p]) (ns.foldl (rais p.2) l) := by
  refine ⟨fun y => ?_, fun q hq y hy => ?_, fun y => ?_, fun y => ?_⟩
  · have := k.up y
    rw [rais_look]
    split <;> omega
  · rw [rais_look]
    rcases List.mem_append.mp hq with z | z
    · have := k.ge q z y hy
      split <;> omega
    · rw [List.mem_singleton.mp z] at hy ⊢
      rw [if_pos ((hn y).mpr hy)]
      omega
  · rw [rais_look]
    by_cases hy : y ∈ ns
    · rw [if_pos hy]
      by_cases hm : look l y ≤ p.2
      · exact .inr ⟨p, List.mem_append_right _ List.mem_cons_self, (hn y).mp hy, by omega⟩
      · rw [show max (look l y) p.2 = look l y by omega]
        rcases k.eq y with q | ⟨r, r1, r2, r3⟩
        · exact .inl q
        · exact .inr ⟨r, List.mem_append_left _ r1, r2, r3⟩
    · rw [if_neg hy]
      rcases k.eq y with q | ⟨r, r1, r2, r3⟩
      · exact .inl q
      · exact .inr ⟨r, List.mem_append_left _ r1, r2, r3⟩
  · rw [rais_keys, k.keys y, hn y, or_assoc]
    refine or_congr Iff.rfl ⟨fun q => ?_, fun ⟨r, r1, r2⟩ => ?_⟩
    · rcases q with ⟨r, r1, r2⟩ | q
      · exact ⟨r, List.mem_append_left _ r1, r2⟩
      · exact ⟨p, List.mem_append_right _ List.mem_cons_self, q⟩
    · rcases List.mem_append.mp r1 with z | z
      · exact .inl ⟨r, z, r2⟩
      · rw [List.mem_singleton.mp z] at r2
        exact .inr r2
theorem sdf_look {l : List (Str × Int)} {x y : Str} : look (sdf l x) y = look l y := by
  unfold sdf
  split
  · rfl
  · rename_i hn
    have hx : x ∉ l.map (·.1) := fun q => hn (has_iff.mpr q)
    rw [← dput_new hx, look_dput]
    split
    · rename_i e
      subst e
      unfold look
      rw [look?_none.mpr hx]
      rfl
    · rfl
theorem sdf_keys {l : List (Str × Int)} {x y : Str} : y ∈ (sdf l x).map (·.1) ↔ y ∈ l.map (·.1) ∨ y = x := by
  unfold sdf
  split
  · rename_i h
    exact ⟨.inl, fun q => q.elim id fun e => by subst e; exact has_iff.mp h⟩
  · rw [List.map_append, List.mem_append]
    simp
theorem sdfs_look {y : Str} : ∀ {xs : List Str} {l : List (Str × Int)}, look (xs.foldl sdf l) y = look l y
  | [], _ => rfl
  | x :: xs, l => by rw [List.foldl_cons, sdfs_look (xs := xs), sdf_look]
theorem sdfs_keys {y : Str} : ∀ {xs : List Str} {l : List (Str × Int)}, y ∈ (xs.foldl sdf l).map (·.1) ↔ y ∈ l.map (·.1) ∨ y ∈ xs
  | [], _ => by simp
  | x :: xs, l => by rw [List.foldl_cons, sdfs_keys (xs := xs), sdf_keys, List.mem_cons, or_assoc]
theorem stF_cases {fs : List Fl} {h h0 : List (Str × Int)} {S : List Str} (hS : ∀ f ∈ fs, ∀ y, f.2 = .nm y → y ∈ S) (hl : S.length ≤ 60) : ∀ {qs ps l : List (Str × Int)}, (∀ p ∈ qs, p.1 ∈ S) → Lvl fs h0 ps l →
    (∃ p ∈ qs, ∃ as t, stF fs h qs l = .trail as t ∧ wk fs (dnH h p.2) p.1 = .trail as t) ∨ (∃ L, stF fs h qs l = .house (upP L) ∧ Lvl fs h0 (ps ++ qs) L ∧ L = qs.foldl (lvUp fs h) l ∧ ∀ p ∈ qs, ∀ f ∈ fs, Rc fs p.1 f.1 → dnH h p.2 f.2 = false)
  | [], ps, l, _, k => .inr ⟨l, rfl, by rw [List.append_nil]; exact k, rfl, fun p hp => by cases hp⟩
  | p :: qs, ps, l, hq, k => by
    cases hw : wk fs (dnH h p.2) p.1 with
    | trail as t =>
      refine .inl ⟨p, List.mem_cons_self, as, t, ?_, hw⟩
      show (match wk fs (dnH h p.2) p.1 with | .trail ps t => SR.trail ps t | .names ns => stF fs h qs (ns.foldl (rais p.2) l)) = _
      rw [hw]
    | names ns =>
      obtain ⟨w1, w2⟩ := wk_all (hq p List.mem_cons_self) hS hl hw
      have e : stF fs h (p :: qs) l = stF fs h qs (ns.foldl (rais p.2) l) := by
        show (match wk fs (dnH h p.2) p.1 with | .trail ps t => SR.trail ps t | .names ns => stF fs h qs (ns.foldl (rais p.2) l)) = _
        rw [hw]
      have e2 : lvUp fs h l p = ns.foldl (rais p.2) l := by
        unfold lvUp
        rw [hw]
      rw [e]
      rcases stF_cases hS hl (qs := qs) (fun q hq' => hq q (List.mem_cons_of_mem _ hq')) (lvl_step k w1) with ⟨q, q1, as, t, q2, q3⟩ | ⟨L, q1, q2, q3, q4⟩
      · exact .inl ⟨q, List.mem_cons_of_mem _ q1, as, t, q2, q3⟩
      · refine .inr ⟨L, q1, by rw [List.append_assoc] at q2; exact q2, by rw [List.foldl_cons, e2]; exact q3, fun q hq' => ?_⟩
        rcases List.mem_cons.mp hq' with z | z
        · rw [z]
          exact w2
        · exact q4 q z
/-- what settled tells -/
theorem stl_cases {fs : List Fl} {h : List (Str × Int)} {nms S : List Str} (ri : Rising h) (hh : ∀ p ∈ h, p.1 ∈ S) (hn : ∀ x ∈ nms, x ∈ S) (hS : ∀ f ∈ fs, ∀ y, f.2 = .nm y → y ∈ S) (hl : S.length ≤ 60) :
    (∃ p ∈ h, ∃ as t, stl fs h nms = .trail as t ∧ wk fs (dnH h p.2) p.1 = .trail as t) ∨
    (∃ L, stl fs h nms = .house (upP L) ∧ LvOk S L ∧ (∀ p ∈ h, ∀ f ∈ fs, Rc fs p.1 f.1 → dnH h p.2 f.2 = false) ∧ (∀ y, look h y ≤ look L y) ∧ (∀ p ∈ h, ∀ y, Rc fs p.1 y → p.2 ≤ look L y) ∧
      (∀ y, look L y = look h y ∨ ∃ p ∈ h, Rc fs p.1 y ∧ look L y = p.2) ∧ ∀ y, y ∈ L.map (·.1) ↔ y ∈ h.map (·.1) ∨ y ∈ nms ∨ ∃ p ∈ h, Rc fs p.1 y) := by
  have k0 : Lvl fs (nms.foldl sdf h) [] (nms.foldl sdf h) := ⟨fun y => Int.le_refl _, fun p hp => (by cases hp), fun y => .inl rfl, fun y => ⟨.inl, fun q => q.elim id fun ⟨p, hp, _⟩ => by cases hp⟩⟩
  have ok0 : LvOk S (nms.foldl sdf h) := sdf_fold ⟨rising_nodup ri, fun y hy => by
    obtain ⟨p, hp, rfl⟩ := List.mem_map.mp hy
    exact hh p hp⟩ hn
  rcases stF_cases (h := h) hS hl hh k0 with q | ⟨L, q1, q2, q3, q4⟩
  · exact .inl q
  · rw [List.nil_append] at q2
    refine .inr ⟨L, q1, by rw [q3]; exact lvUp_fold ok0 hh hS, q4, fun y => ?_, q2.ge, fun y => ?_, fun y => ?_⟩
    · have := q2.up y
      rwa [sdfs_look] at this
    · have := q2.eq y
      rwa [sdfs_look] at this
    · rw [q2.keys y, sdfs_keys, or_assoc]
theorem upP_look {L : List (Str × Int)} (nd : (L.map (·.1)).Nodup) (y : Str) : look (upP L) y = look L y := by
  have nd2 : ((upP L).map (·.1)).Nodup := ((upP_perm L).map (·.1)).nodup_iff.mpr nd
  unfold look
  cases c : look? L y with
  | none =>
    have q := look?_none.mp c
    rw [look?_none.mpr fun z => q (((upP_perm L).map (·.1)).mem_iff.mp z)]
  | some v => rw [mem_look? nd2 ((upP_perm L).mem_iff.mpr (look?_mem c))]
theorem upP_keys {L : List (Str × Int)} (y : Str) : y ∈ (upP L).map (·.1) ↔ y ∈ L.map (·.1) := ((upP_perm L).map (·.1)).mem_iff
/-- settled levels let -/
theorem stl_lets {nm : List Str} {b : List Dd} {h L : List (Str × Int)} (ok : okL nm b) (h0 : ∀ y, 0 ≤ look h y) (nd : (h.map (·.1)).Nodup) (nl : (L.map (·.1)).Nodup) (q1 : ∀ p ∈ h, ∀ f ∈ flowsS b, Rc (flowsS b) p.1 f.1 → dnH h p.2 f.2 = false) (q2 : ∀ y, look h y ≤ look L y) (q3 : ∀ p ∈ h, ∀ y, Rc (flowsS b) p.1 y → p.2 ≤ look L y)
    (q4 : ∀ y, look L y = look h y ∨ ∃ p ∈ h, Rc (flowsS b) p.1 y ∧ look L y = p.2) : letsB (look (upP L)) b = true := lets_iff.mpr fun f hf => by
  have fm := mem_flows.mpr hf
  have fa := ga_in ok f hf
  -- where f.1's level comes from
  have src : look L f.1 = 0 ∨ ∃ p ∈ h, Rc (flowsS b) p.1 f.1 ∧ look L f.1 = p.2 := by
    rcases q4 f.1 with e | e
    · unfold look at e
      cases c : look? h f.1 with
      | none => rw [c] at e; exact .inl e
      | some v => rw [c] at e; exact .inr ⟨(f.1, v), look?_mem c, .refl, e⟩
    · exact .inr e
  rw [upP_look nl]
  obtain ⟨x, t⟩ := f
  cases t with
  | nm y =>
    show look L x ≤ look (upP L) y
    rw [upP_look nl]
    rcases src with e | ⟨p, p1, p2, p3⟩
    · have e : look L x = 0 := e
      have := h0 y
      have := q2 y
      omega
    · have p3 : look L x = p.2 := p3
      have := q3 p p1 y (.step p2 fm)
      omega
  | pg i =>
    show look L x ≤ i
    rcases src with e | ⟨p, p1, p2, p3⟩
    · have e : look L x = 0 := e
      obtain ⟨z, hz, k⟩ := List.mem_flatMap.mp fa
      rcases List.mem_append.mp k with k | k
      · obtain ⟨y, hy, e2⟩ := List.mem_map.mp k
        cases e2
      · simp only [List.mem_cons, List.not_mem_nil, or_false] at k
        rcases k with e2 | e2 | e2 <;> cases e2 <;> omega
    · have p3 : look L x = p.2 := p3
      have := q1 p p1 _ fm p2
      have : ¬ i < p.2 := of_decide_eq_false this
      omega
theorem flows_few {nm : List Str} {b : List Dd} (ok : okL nm b) (n4 : nm.length = 4) : (flowsS b).length ≤ 62 := by
  have h := Ft.nodup_len (l := flowsS b) (m := allF nm) (by rw [flows_up]; exact Fs.upF_nodup _) fun f hf => ga_in ok f (mem_flows.mp hf)
  have := allF_len n4
  omega
theorem pr_settled {ns : List Int} {k : Int} {h : List (Str × Int)} (h63 : ns.length ≤ 63) (ri : Rising h) (hh : ∀ p ∈ h, p.1 ∈ nmS ns) (hl : h.length ≤ 60) : PrSettled 3 [.dat (encB (progS ns k)), .dat (encS h)] (encSR (stl (flowsS (progS ns k)) h (Ft.upX (allL (progS ns k))))) :=
  ⟨nmS ns, _, h, rfl, (prog_ok ns k h63).ok, by rw [nmS_len]; decide, prog_ga h63, Nat.le_trans (flows_few (prog_ok ns k h63).ok (nmS_len ns)) (by decide), prog_many h63, ri, hh, hl, rfl⟩
/-- what settled tells of a program's names -/
theorem stl_prog {nm : List Str} {b : List Dd} {h : List (Str × Int)} (ok : okL nm b) (n4 : nm.length = 4) (ri : Rising h) (hh : ∀ p ∈ h, p.1 ∈ nm) :
    (∃ p ∈ h, ∃ as t, stl (flowsS b) h (Ft.upX (allL b)) = .trail as t ∧ wk (flowsS b) (dnH h p.2) p.1 = .trail as t) ∨
    (∃ L, stl (flowsS b) h (Ft.upX (allL b)) = .house (upP L) ∧ LvOk nm L ∧ (∀ p ∈ h, ∀ f ∈ flowsS b, Rc (flowsS b) p.1 f.1 → dnH h p.2 f.2 = false) ∧ (∀ y, look h y ≤ look L y) ∧ (∀ p ∈ h, ∀ y, Rc (flowsS b) p.1 y → p.2 ≤ look L y) ∧
      (∀ y, look L y = look h y ∨ ∃ p ∈ h, Rc (flowsS b) p.1 y ∧ look L y = p.2) ∧ ∀ y, y ∈ L.map (·.1) ↔ y ∈ h.map (·.1) ∨ y ∈ Ft.upX (allL b) ∨ ∃ p ∈ h, Rc (flowsS b) p.1 y) :=
  stl_cases ri hh (fun x hx => allL_ok b ok x (Ft.mem_upX.mp hx)) (fun f hf => (allF_ok (ga_in ok f (mem_flows.mp hf))).2) (by rw [n4]; decide)
end Wk
/-! ### sets of pairs -/
namespace Fp
open PySem PySem.Spec PyProof.Rows L2 Fw
open PySem.W (EachIs)
abbrev PF := Str × Int
def keyP (p : PF) : NestedKey := .tup [.text p.1, .num p.2]
theorem keyP_inj {p q : PF} (h : keyP p = keyP q) : p = q := by
  unfold keyP at h
  injection h with h
  injection h with h1 h2
  injection h2 with h2 _
  injection h1 with h1
  injection h2 with h2
  exact Prod.ext h1 h2
theorem depth_keyP (p : PF) : (keyP p).depth ≤ 3 := by
  unfold keyP
  simp only [NestedKey.depth, NestedKey.depthAll]
  omega
theorem reads_keyP {h : Heap} {v : Value} {as : List Addr} {p : PF} : Reads h v (encP p) as → NestedIs h (keyP p) v
  | .tuple h1 h2 h3 h4 => by
    refine .tup h1 h2 h3 ?_
    generalize Array.toList _ = vs at h4
    cases h4 with
    | cons r1 r =>
      cases r with
      | cons r2 r3 =>
        cases r3
        cases r1
        cases r2
        exact .cons (.text _ _) (.cons (.int _ _) .nil)
abbrev FRow := PF × Addr
def HF (P : Program) (w : World) (f : PF) : Int := (nestedKind P w).hash (keyP f)
abbrev IsF (h : Heap) (r : FRow) : Prop := NestedIs h (keyP r.1) (.ref r.2)
section
variable {P : Program} {w : World}
theorem isF_kind {h : Heap} {r : FRow} (k : IsF h r) : (nestedKind P w).is h (keyP r.1) r.2 := ⟨k, by have := depth_keyP r.1; omega⟩
open Fs (parts ofA_key hb_key)
variable {A : Around} {E : Value → Shared → Prop} {s : Shared}
theorem unseen {x : FRow} (hx : IsF s.heap x) {ys : List Value} (hy : ∀ y ∈ ys, ∃ r : FRow, y = Value.ref r.2 ∧ IsF s.heap r) {Q : Bool → Shared → Prop} (h : Q false s) :
    wpAny (model P w) A (searchCouldBeSeen (.ref x.2) ys) Q E s := by
  have hd : ∀ r : FRow, (keyP r.1).depth ≤ 8 := fun r => by have := depth_keyP r.1; omega
  unfold searchCouldBeSeen
  refine wpAny_bind (wpAny_forIn_list _ (fun rest r s' => r.1 = none ∧ s' = s ∧ ∀ y ∈ rest, ∃ r : FRow, y = Value.ref r.2 ∧ IsF s.heap r) _ ?_ ?_ _ _ ⟨rfl, rfl, hy⟩)
  · rintro v rest r s' ⟨hr, e, hall⟩
    subst e
    obtain ⟨g, rfl, hc⟩ := hall v List.mem_cons_self
    have more : ∀ y ∈ rest, ∃ r : FRow, y = Value.ref r.2 ∧ IsF s'.heap r := fun u z => hall u (List.mem_cons_of_mem _ z)
    dsimp only
    by_cases hv : (x.2 == g.2 || (carriedByValue (.ref x.2) && carriedByValue (.ref g.2))) = true
    · exact wp_if_pos hv (wpAny_pure ⟨rfl, rfl, more⟩)
    · refine wp_if_neg hv (wpAny_bind ((nestedKind P w).quiet (isF_kind hx) ?_))
      simp only [Bool.not_true, Bool.false_eq_true, if_false]
      refine wpAny_bind ((nestedKind P w).quiet (isF_kind hc) ?_)
      simp only [Bool.not_true, Bool.false_eq_true, if_false]
      refine wpAny_bind (ofA_key 8 _ _ _ _ _ _ hx (hd _) ?_)
      simp only [Bool.false_eq_true, if_false]
      refine wpAny_bind (ofA_key 8 _ _ _ _ _ _ hc (hd _) ?_)
      simp only [Bool.false_eq_true, if_false]
      exact wpAny_pure ⟨rfl, rfl, more⟩
  · rintro ⟨r1, r2⟩ s' ⟨hr, e, _⟩
    subst e
    simp only at hr
    subst hr
    exact wpAny_pure h
open Fs (lk lk_more lk_j nth_clean lk_clean tab_plain)
def ent (hf : PF → Int) (r : FRow) : Int × Value := (hf r.1, .ref r.2)
structure SetR (w : World) (hf : PF → Int) (h : Heap) (a : Addr) (rows : List FRow) (es : Array (Int × Value)) (ep : Nat) (t : SetTable) : Prop where
  obj : ∃ o, h.get? a = some o ∧ o.ExactSet ∧ o.data = .set es ep t
  ents : es.toList = rows.map (ent hf)
  tab : TabOk t (rows.map fun r => hf r.1)
  keys : (rows.map (·.1)).Nodup
  led : w.params.followText "set-order" = true ∨ t.led = true
  room : rows.length * 5 < t.mask * 3
  few : rows.length < 64
variable {hf : PF → Int} {a : Addr} {rows : List FRow} {es : Array (Int × Value)} {ep : Nat} {t : SetTable}
theorem ents_size (e : es.toList = rows.map (ent hf)) : es.size = rows.length := by
  rw [← Array.length_toList, e, List.length_map]
theorem ents_at (e : es.toList = rows.map (ent hf)) {i : Nat} {r : FRow} (h : rows[i]? = some r) : es[i]? = some (hf r.1, Value.ref r.2) := by
  rw [← Array.getElem?_toList, e, List.getElem?_map, h]
  rfl
theorem tab_size (T : TabOk t (rows.map fun r => hf r.1)) : t.place.size = rows.length := by rw [T.sz, List.length_map]
theorem SetR.fit {h : Heap} (R : SetR w hf h a rows es ep t) : t.fits es.size = true := by
  have h1 := tab_size R.tab
  have h2 := ents_size R.ents
  have h3 := R.room
  unfold SetTable.fits SetTable.fill
  rw [R.tab.dm, Bool.and_eq_true, beq_iff_eq, decide_eq_true_eq]
  show t.place.size = es.size ∧ t.place.size + 0 ≤ t.mask
  omega
theorem whole (T : TabOk t (rows.map fun r => hf r.1)) : ¬ t.gaveWay = true := by
  unfold SetTable.gaveWay
  rw [mask_odd T.mok]
  decide
theorem srch (R : SetR w hf s.heap a rows es ep t) (hk : ∀ r ∈ rows, IsF s.heap r) {x : FRow} (hx : IsF s.heap x) (hu : A.units + 8 < cLine) {K : Nat} (hKf : K < 10 * SetTable.turns t.mask)
    (hK : way t.mask (hf x.1) K ∉ t.place.toList) (hKb : ∀ c, c < K → way t.mask (hf x.1) c ∈ t.place.toList) {Q : SetFound → Shared → Prop}
    (old : x.1 ∈ rows.map (·.1) → Q (.there none) s) (new : x.1 ∉ rows.map (·.1) → Q (.free (way t.mask (hf x.1) K) false) s) :
    ∀ (f c : Nat) (st : Option SetTable.Probe), st.getD (t.probeStart (hf x.1)) = lk t.mask (hf x.1) c → c ≤ K → K - c < f →
      (∀ (i : Nat) (r : FRow), rows[i]? = some r → r.1 = x.1 → ∃ c', c ≤ c' ∧ c' < K ∧ t.place.toList[i]? = some (way t.mask (hf x.1) c')) →
      wpAny (model P w) A (setSearchFrom a (.ref x.2) (hf x.1) true f st) Q E s := by
  intro f
  induction f with
  | zero => intro c st _ _ hlt; exact absurd hlt (Nat.not_lt_zero _)
  | succ f ih =>
    intro c st hst hc hlt hre
    obtain ⟨o, ho, hex, hd⟩ := R.obj
    have hz := tab_size R.tab
    rw [setSearchFrom_succ]
    refine wpAny_bind (wpAny_setState_of ho hd R.fit ?_)
    dsimp only
    refine wp_if_neg (whole R.tab) ?_
    try refine wpAny_bind (wpAny_pure ?_)
    have ej : ∀ q, (nth t.mask (lk t.mask (hf x.1) c) q).j = way t.mask (hf x.1) (c + q) := fun q => by rw [lk_more, lk_j]
    have hat : ∀ (i : Nat) (r : FRow), rows[i]? = some r → (es[i]?.map (·.1)).getD 0 = hf r.1 := fun i r hr => by
      rw [ents_at R.ents hr]
      rfl
    have spec := go_spec t R.tab.ris R.tab.dm (fun i => (es[i]?.map (·.1)).getD 0) (hf x.1) (10 * SetTable.turns t.mask) (K - c) _ (lk_clean t.mask (hf x.1) c) (by omega)
      (fun q hq => by rw [ej]; exact hKb (c + q) (by omega)) (by rw [ej, show c + (K - c) = K by omega]; exact hK)
    rcases spec with ⟨q, i, hq, hi, hh, hno, hpr⟩ | ⟨hno, hpr⟩
    · have hpr' : t.probe (fun i => (es[i]?.map (·.1)).getD 0) (hf x.1) (st.getD (t.probeStart (hf x.1))) = some (.candidate (way t.mask (hf x.1) (c + q)) i (lk t.mask (hf x.1) (c + (q + 1)))) := by
        rw [hst, ← ej, ← lk_more]
        exact hpr
      rw [hpr']
      dsimp only
      rw [ej] at hi
      have hil : i < rows.length := by
        have h1 : i < t.place.toList.length := (List.getElem?_eq_some_iff.mp hi).1
        rw [Array.length_toList] at h1
        omega
      obtain ⟨g, hg⟩ : ∃ g, rows[i]? = some g := ⟨_, List.getElem?_eq_getElem hil⟩
      have gm := List.mem_of_getElem? hg
      have rest : wpAny (model P w) A (searchRest a (.ref x.2) (hf x.1) true f es t (way t.mask (hf x.1) (c + q)) i (lk t.mask (hf x.1) (c + (q + 1)))) Q E s := by
        unfold searchRest
        rw [ents_at R.ents hg]
        dsimp only
        refine wpAny_bind (wpAny_holding ((nestedKind P w).eqBool (show A.units + 8 < cLine from hu) (isF_kind (hk g gm)) (isF_kind hx) ?_))
        refine wpAny_bind (wpAny_setState_of ho hd R.fit ?_)
        dsimp only
        by_cases e : g.1 = x.1
        · refine wp_if_pos (by simp [e]) (wpAny_pure (old (List.mem_map.mpr ⟨g, gm, e⟩)))
        · have e2 : ¬ keyP g.1 = keyP x.1 := fun z => e (keyP_inj z)
          refine wp_if_neg (by simp [e2]) ?_
          try refine wpAny_bind (wpAny_pure ?_)
          rw [sameMem]
          dsimp only
          have hsl : t.slot (way t.mask (hf x.1) (c + q)) = .live i := slot_live R.tab.ris hi
          simp only [if_true, hsl, ents_at R.ents hg]
          refine wpAny_bind (wpAny_isSame_ref_self (wpAny_bind (wpAny_pure ?_)))
          simp only [if_true]
          refine wp_if_neg (by simp [e2]) ?_
          refine ih (c + (q + 1)) _ rfl (by omega) (by omega) fun i0 r0 h0 k0 => ?_
          obtain ⟨c', a1, a2, a3⟩ := hre i0 r0 h0 k0
          refine ⟨c', ?_, a2, a3⟩
          rcases Nat.lt_trichotomy c' (c + q) with z | z | z
          · refine absurd ?_ (hno (c' - c) i0 (by omega) (by rw [ej, show c + (c' - c) = c' by omega]; exact a3))
            exact (hat i0 r0 h0).trans (by rw [k0])
          · exfalso
            rw [z] at a3
            have s0 := slot_live R.tab.ris a3
            rw [hsl] at s0
            injection s0 with s0
            rw [← s0, hg] at h0
            cases h0
            exact e k0
          · omega
      by_cases hl : t.led = true
      · refine wp_if_neg (by simp [hl]) ?_
        try refine wpAny_bind (wpAny_pure ?_)
        exact rest
      · refine wp_if_pos (by simp [hl]) (wpAny_bind (unseen hx (fun y hy => ?_) ?_))
        · obtain ⟨e, he, ee⟩ := List.mem_map.mp hy
          have he1 : e ∈ es ∧ e.1 = hf x.1 := by simpa using he
          have he2 : e ∈ es.toList := by simpa using he1.1
          rw [R.ents] at he2
          obtain ⟨r, hr, e2⟩ := List.mem_map.mp he2
          exact ⟨r, by rw [← ee, ← e2]; rfl, hk r hr⟩
        · refine wp_if_neg (by decide) ?_
          try refine wpAny_bind (wpAny_pure ?_)
          exact rest
    · have hpr' : t.probe (fun i => (es[i]?.map (·.1)).getD 0) (hf x.1) (st.getD (t.probeStart (hf x.1))) = some (.empty (way t.mask (hf x.1) K) none) := by
        have e2 : way t.mask (hf x.1) K = (nth t.mask (lk t.mask (hf x.1) c) (K - c)).j := by rw [ej, show c + (K - c) = K by omega]
        rw [hst, e2]
        exact hpr
      rw [hpr']
      dsimp only
      refine wpAny_pure (new fun hm => ?_)
      obtain ⟨r0, h0, k0⟩ := List.mem_map.mp hm
      obtain ⟨i0, hi0, e0⟩ := List.getElem_of_mem h0
      have h00 : rows[i0]? = some r0 := by rw [List.getElem?_eq_getElem hi0, e0]
      obtain ⟨c', a1, a2, a3⟩ := hre i0 r0 h00 k0
      refine hno (c' - c) i0 (by omega) (by rw [ej, show c + (c' - c) = c' by omega]; exact a3) ?_
      exact (hat i0 r0 h00).trans (by rw [k0])
theorem find_f (R : SetR w hf s.heap a rows es ep t) (hk : ∀ r ∈ rows, IsF s.heap r) {x : FRow} (hx : IsF s.heap x) (hu : A.units + 8 < cLine) {Q : SetFound → Shared → Prop}
    (old : x.1 ∈ rows.map (·.1) → Q (.there none) s)
    (new : ∀ K, x.1 ∉ rows.map (·.1) → way t.mask (hf x.1) K ∉ t.place.toList → (∀ c, c < K → way t.mask (hf x.1) c ∈ t.place.toList) → Q (.free (way t.mask (hf x.1) K) false) s) :
    wpAny (model P w) A (setSearch a (.ref x.2) (hf x.1) true) Q E s := by
  have hroom := R.room
  have hz := tab_size R.tab
  obtain ⟨K, hKf, hK, hKb⟩ := R.tab.first (by rw [List.length_map]; omega) (hf x.1)
  have hbig : K < 100000 := by
    have : 10 * SetTable.turns t.mask ≤ 1420 := by
      unfold SetTable.turns
      rcases R.tab.mok with e | e | e <;> omega
    omega
  unfold setSearch
  refine srch R hk hx hu hKf hK hKb old (fun hn => new K hn hK hKb) 100000 0 none rfl (Nat.zero_le _) (by omega) fun i r hr k => ?_
  have hi : (rows.map fun r => hf r.1)[i]? = some (hf x.1) := by
    rw [List.getElem?_map, hr, ← k]
    rfl
  have hil : i < t.place.toList.length := by
    have h1 : i < rows.length := (List.getElem?_eq_some_iff.mp hr).1
    rw [Array.length_toList]
    omega
  have hj := List.getElem?_eq_getElem hil
  obtain ⟨c, hc, e⟩ := R.tab.before hK hi hj
  exact ⟨c, Nat.zero_le _, hc, by rw [hj, e]⟩
theorem isF_but {h h' : Heap} {r : FRow} {o : Obj} (k : IsF h r) (ho : h.get? a = some o) (hd : o.data = .set es ep t) (sb : Heap.SameBut a h h') : IsF h' r :=
  NestedIs.at (fun b u vs n hb hc => (sb.2 b fun e => by
    subst e
    rw [ho] at hb
    cases hb
    rw [hd] at hc
    cases hc).trans hb) _ _ k
theorem order_ents {order : Array Nat} (hr : es.toList = rows.map (ent hf)) (hp : order.toList.Perm (List.range rows.length)) :
    ∃ rows2 : List FRow, (order.filterMap (es[·]?)).toList = rows2.map (ent hf) ∧ rows2.Perm rows ∧ (rows2.map fun r => hf r.1) = order.toList.map fun i => (es.map (·.1)).getD i 0 := by
  have key : ∀ l : List Nat, (∀ i ∈ l, i < rows.length) → (l.filterMap fun i => es[i]?) = (l.filterMap fun i => rows[i]?).map (ent hf) ∧ ((l.filterMap fun i => rows[i]?).map fun r => hf r.1) = l.map fun i => (es.map (·.1)).getD i 0 := by
    intro l
    induction l with
    | nil => exact fun _ => ⟨rfl, rfl⟩
    | cons i l ih =>
      intro hl
      have hi := hl i List.mem_cons_self
      obtain ⟨e1, e2⟩ := ih fun j hj => hl j (List.mem_cons_of_mem _ hj)
      have g := List.getElem?_eq_getElem hi
      have g2 := ents_at hr g
      have e5 : (es.map (·.1))[i]? = some (hf rows[i].1) := by
        rw [Array.getElem?_map, g2]
        rfl
      have e4 : (es.map (·.1)).getD i 0 = hf rows[i].1 := by simp [Array.getD_eq_getD_getElem?, e5]
      rw [List.filterMap_cons_some g2, List.filterMap_cons_some g, e1, List.map_cons, List.map_cons, List.map_cons, e2, e4]
      exact ⟨rfl, rfl⟩
  have back : ∀ n, n ≤ rows.length → ((List.range n).filterMap fun i => rows[i]?) = rows.take n := by
    intro n
    induction n with
    | zero => exact fun _ => rfl
    | succ n ih =>
      intro hn
      have g := List.getElem?_eq_getElem (show n < rows.length from hn)
      rw [List.range_succ, List.filterMap_append, ih (Nat.le_of_lt hn), List.take_add_one, g, List.filterMap_cons_some g]
      rfl
  obtain ⟨e1, e2⟩ := key order.toList fun i hi => List.mem_range.mp (hp.mem_iff.mp hi)
  refine ⟨_, by first | (rw [Array.toList_filterMap]; exact e1) | simpa using e1, ?_, e2⟩
  have h1 := hp.filterMap fun i => rows[i]?
  rwa [back rows.length (Nat.le_refl _), List.take_length] at h1
theorem relay_f {o : Obj} (ho : s.heap.get? a = some o) (hex : o.ExactSet) (hd : o.data = .set es ep t) (hr : es.toList = rows.map (ent hf)) (hz : t.place.size = es.size) (hdm : t.dummies = #[]) (hfl : es.size ≤ t.mask)
    (nd : (rows.map (·.1)).Nodup) (ld : w.params.followText "set-order" = true ∨ t.led = true) (few : rows.length < 64) {wanted M : Nat} (hw : SetTable.sizeAbove wanted - 1 = M) (hM : MaskOk M) (hw2 : SetTable.sizeAbove wanted ≤ 128)
    (hn : rows.length * 5 < M * 3) {Q : Unit → Shared → Prop} (hQ : ∀ h' rows' es' ep' t', Heap.SameBut a s.heap h' → SetR w hf h' a rows' es' ep' t' → rows'.Perm rows → Q () { s with heap := h' }) :
    wpAny (model P w) A (setRelay a wanted) Q E s := by
  have hsl := ents_size hr
  have h16 : sizeLine = 16777216 := by first | exact sizeLine_eq | rfl
  have fit : t.fits es.size = true := by
    unfold SetTable.fits SetTable.fill
    rw [hdm, Bool.and_eq_true, beq_iff_eq, decide_eq_true_eq]
    show t.place.size = es.size ∧ t.place.size + 0 ≤ t.mask
    omega
  obtain ⟨t', order, e, hp, T, em, el, _, _⟩ := relaid_ok t (hs := es.map (·.1)) (wanted := wanted) hw hM (by rw [Array.size_map, hsl]; omega)
  rw [Array.size_map, hsl] at hp
  obtain ⟨rows2, r1, r2, r3⟩ := order_ents hr hp
  rw [← r3] at T
  have hs2 : (order.filterMap (es[·]?)).size = es.size := by rw [ents_size r1, r2.length_eq, hsl]
  rw [setRelay_eq]
  refine wpAny_bind (wpAny_setState_of ho hd fit ?_)
  dsimp only
  refine wp_if_neg (by omega) ?_
  try refine wpAny_bind (wpAny_pure ?_)
  rw [e]
  dsimp only
  refine wpAny_bind (wp_if_neg (by rw [hs2]; simp) ?_)
  try refine wpAny_bind (wpAny_pure ?_)
  refine wpAny_pure ?_
  dsimp only
  refine wpAny_storeSet_of ho hd ?_ (by omega)
  have sb : Heap.SameBut a s.heap (s.heap.update a (Obj.putSet (order.filterMap (es[·]?)) t')) := Heap.SameBut.update ..
  exact hQ _ rows2 (order.filterMap (es[·]?)) (ep + 1) t' sb ⟨⟨_, store_at ho hd, ⟨hex.1, hex.2.1, hex.2.2⟩, rfl⟩, r1, T, (r2.map (·.1)).nodup_iff.mpr nd, by rw [el]; exact ld, by rw [r2.length_eq, em]; exact hn, by rw [r2.length_eq]; exact few⟩ r2
theorem add_f (R : SetR w hf s.heap a rows es ep t) (hk : ∀ r ∈ rows, IsF s.heap r) {x : FRow} (hx : IsF s.heap x) (hu : A.units + 8 < cLine) (hfew : rows.length + 1 < 64) {Q : Bool → Shared → Prop}
    (hQ : ∀ b h' rows' es' ep' t', Heap.SameBut a s.heap h' → SetR w hf h' a rows' es' ep' t' → (x.1 ∈ rows.map (·.1) → rows' = rows) → (x.1 ∉ rows.map (·.1) → rows'.Perm (x :: rows)) → Q b { s with heap := h' }) :
    wpAny (model P w) A (setAddHashed a (.ref x.2) (hf x.1)) Q E s := by
  obtain ⟨o, ho, hex, hd⟩ := R.obj
  have hsl := ents_size R.ents
  have hroom := R.room
  have h16 : sizeLine = 16777216 := by first | exact sizeLine_eq | rfl
  unfold setAddHashed
  refine wpAny_holding ?_
  rw [show (100000 : Nat) = 99999 + 1 from rfl, setAddHashedIn_succ]
  refine wpAny_bind (wpAny_setState_of ho hd R.fit ?_)
  dsimp only
  refine wp_if_neg (by simp [byScan, Value.scannable]) ?_
  try refine wpAny_bind (wpAny_pure ?_)
  refine wpAny_bind (find_f R hk hx hu (fun hm => ?_) fun K hm hK hb => ?_)
  · exact wpAny_pure (hQ false s.heap rows es ep t (Heap.SameBut.refl a s.heap) R (fun _ => rfl) fun z => absurd hm z)
  · dsimp only
    refine wpAny_bind (wpAny_setState_of ho hd R.fit ?_)
    dsimp only
    obtain ⟨q1, q2, q3, q4, q5, _, _, _, q9⟩ := R.tab.put hK hb
    generalize hpt : t.put (way t.mask (hf x.1) K) = pt at q1 q3 q4 q5 q9 ⊢
    obtain ⟨t1, p⟩ := pt
    dsimp only at q1 q3 q4 q5 q9 ⊢
    subst q1
    have fin : ∀ t2 : SetTable, TabOk t2 ((rows.map fun r => hf r.1).take (SetTable.below t.place (way t.mask (hf x.1) K)) ++ hf x.1 :: (rows.map fun r => hf r.1).drop (SetTable.below t.place (way t.mask (hf x.1) K))) → t2.mask = t.mask → t2.led = t.led → t2.fill = (rows.map fun r => hf r.1).length + 1 →
        wpAny (model P w) A (do
          storeSet a (SetTable.insertAt es (SetTable.below t.place (way t.mask (hf x.1) K)) (hf x.1, Value.ref x.2)) t2
          if !false && t2.tooFull then setRelay a (SetTable.grown (es.size + 1))
          return true) Q E s := by
      intro t2 q3 q4 q5 q9
      rw [List.length_map] at q9
      have hin : (SetTable.insertAt es (SetTable.below t.place (way t.mask (hf x.1) K)) (hf x.1, Value.ref x.2)).toList = (rows.take (SetTable.below t.place (way t.mask (hf x.1) K)) ++ x :: rows.drop (SetTable.below t.place (way t.mask (hf x.1) K))).map (ent hf) := by
        rw [SetTable.toList_insertAt, R.ents, List.map_append, List.map_cons, List.map_take, List.map_drop]
        rfl
      have hhs : (rows.take (SetTable.below t.place (way t.mask (hf x.1) K)) ++ x :: rows.drop (SetTable.below t.place (way t.mask (hf x.1) K))).map (fun r => hf r.1) = (rows.map fun r => hf r.1).take (SetTable.below t.place (way t.mask (hf x.1) K)) ++ hf x.1 :: (rows.map fun r => hf r.1).drop (SetTable.below t.place (way t.mask (hf x.1) K)) := by
        rw [List.map_append, List.map_cons, List.map_take, List.map_drop]
      rw [← hhs] at q3
      have pm := put_perm rows (SetTable.below t.place (way t.mask (hf x.1) K)) x
      generalize SetTable.insertAt es (SetTable.below t.place (way t.mask (hf x.1) K)) (hf x.1, Value.ref x.2) = es1 at hin ⊢
      generalize rows.take (SetTable.below t.place (way t.mask (hf x.1) K)) ++ x :: rows.drop (SetTable.below t.place (way t.mask (hf x.1) K)) = rows1 at hin q3 pm
      have hlen : rows1.length = rows.length + 1 := pm.length_eq
      have nd1 : (rows1.map (·.1)).Nodup := (pm.map (·.1)).nodup_iff.mpr (List.nodup_cons.mpr ⟨hm, R.keys⟩)
      have hes := ents_size hin
      refine wpAny_bind (wpAny_storeSet_of ho hd ?_ (by omega))
      have sb : Heap.SameBut a s.heap (s.heap.update a (Obj.putSet es1 t2)) := Heap.SameBut.update ..
      have ho1 := store_at (es' := es1) (t' := t2) ho hd
      generalize s.heap.update a (Obj.putSet es1 t2) = h1 at sb ho1 ⊢
      have ld1 : w.params.followText "set-order" = true ∨ t2.led = true := by rw [q5]; exact R.led
      by_cases hfu : t2.tooFull = true
      · have hfull : (rows.length + 1) * 5 ≥ t2.mask * 3 := by
          have h := hfu
          unfold SetTable.tooFull at h
          rw [decide_eq_true_eq, q9] at h
          exact h
        have hsz1 : t2.place.size = es1.size := by rw [tab_size q3, hes]
        have two : (t.mask = 7 ∧ rows.length = 4) ∨ (t.mask = 31 ∧ rows.length = 18) := by
          rcases R.tab.mok with e | e | e
          · exact .inl ⟨e, by omega⟩
          · exact .inr ⟨e, by omega⟩
          · exfalso; omega
        have go : ∀ M, SetTable.sizeAbove (SetTable.grown (rows.length + 1)) - 1 = M → MaskOk M → SetTable.sizeAbove (SetTable.grown (rows.length + 1)) ≤ 128 → (rows.length + 1) * 5 < M * 3 →
            wpAny (model P w) A (setRelay a (SetTable.grown (es.size + 1))) (fun _ s' => wpAny (model P w) A (pure true) Q E s') E { s with heap := h1 } := fun M h1' h2' h3' h4' => by
          rw [hsl]
          refine relay_f (s := { s with heap := h1 }) ho1 ⟨hex.1, hex.2.1, hex.2.2⟩ rfl hin hsz1 q3.dm (by rcases two with ⟨e, e2⟩ | ⟨e, e2⟩ <;> omega) nd1 ld1 (by omega) h1' h2' h3' (by rw [hlen]; exact h4') ?_
          intro h2 rows2 es2 ep2 t3 sb2 R2 pm2
          exact wpAny_pure (hQ true h2 rows2 es2 ep2 t3 (sb.trans sb2) R2 (fun z => absurd z hm) fun _ => pm2.trans pm)
        have fin2 : wpAny (model P w) A (setRelay a (SetTable.grown (es.size + 1))) (fun _ s' => wpAny (model P w) A (pure true) Q E s') E { s with heap := h1 } := by
          rcases two with ⟨_, e2⟩ | ⟨_, e2⟩
          · exact go 31 (by rw [e2, size_20]) (.inr (.inl rfl)) (by rw [e2, size_20]; decide) (by omega)
          · exact go 127 (by rw [e2, size_76]) (.inr (.inr rfl)) (by rw [e2, size_76]; decide) (by omega)
        first
          | exact wpAny_bind (wp_if_pos (by simp [hfu]) fin2)
          | exact wp_if_pos (by simp [hfu]) (wpAny_bind fin2)
      · have hroom2 : rows1.length * 5 < t2.mask * 3 := by
          have h := hfu
          unfold SetTable.tooFull at h
          rw [decide_eq_true_eq, q9] at h
          omega
        have fin2 := hQ true h1 rows1 es1 (ep + 1) t2 sb ⟨⟨_, ho1, ⟨hex.1, hex.2.1, hex.2.2⟩, rfl⟩, hin, q3, nd1, ld1, hroom2, by omega⟩ (fun z => absurd z hm) fun _ => pm
        first
          | exact wp_if_neg (by simp [hfu]) (wpAny_pure fin2)
          | exact wpAny_bind (wp_if_neg (by simp [hfu]) (wpAny_pure (wpAny_pure fin2)))
    have both : ∀ b : Bool, wpAny (model P w) A (do
          storeSet a (SetTable.insertAt es (SetTable.below t.place (way t.mask (hf x.1) K)) (hf x.1, Value.ref x.2)) (if b = true then t1 else { t1 with plain := false })
          if !false && (if b = true then t1 else { t1 with plain := false }).tooFull then setRelay a (SetTable.grown (es.size + 1))
          return true) Q E s := fun b => by
      cases b
      · exact fin { t1 with plain := false } (tab_plain q3 false) q4 q5 q9
      · exact fin t1 q3 q4 q5 q9
    by_cases hp : t1.plain = true
    · first
        | exact wp_if_pos hp (wpAny_bind (hb_key 8 _ _ _ _ _ _ hx fun b => both b))
        | exact wpAny_bind (wp_if_pos hp (hb_key 8 _ _ _ _ _ _ hx fun b => both b))
    · first
        | exact wp_if_neg hp (wpAny_bind (wpAny_pure (both true)))
        | exact wpAny_bind (wp_if_neg hp (wpAny_pure (both true)))
        | exact wp_if_neg hp (both true)
end
open Ft Wk
section
variable {P : Program} {w : World} {A : Around} {E : Value → Shared → Prop} {s : Shared}
theorem SetR.at {h h' : Heap} {a : Addr} {rows : List FRow} {es : Array (Int × Value)} {ep : Nat} {t : SetTable} (R : SetR w (HF P w) h a rows es ep t) (k : ∀ o, h.get? a = some o → h'.get? a = some o) : SetR w (HF P w) h' a rows es ep t := by
  obtain ⟨o, ho, r⟩ := R.obj
  exact ⟨⟨o, k o ho, r⟩, R.ents, R.tab, R.keys, R.led, R.room, R.few⟩
theorem setR_0 {h : Heap} {a : Addr} (ho : h.get? a = some (fresh0 w)) : SetR w (HF P w) h a [] #[] 0 (.fresh 0 0 (!w.params.followText "set-order")) where
  obj := ⟨_, ho, ⟨rfl, rfl, rfl⟩, rfl⟩
  ents := rfl
  tab := ⟨List.Pairwise.nil, rfl, rfl, .inl rfl, fun x hx => (by cases hx), fun i h j hi => (by simp at hi)⟩
  keys := List.nodup_nil
  led := by
    show _ ∨ (!w.params.followText "set-order") = true
    cases w.params.followText "set-order"
    · exact .inr rfl
    · exact .inl rfl
  room := by show 0 * 5 < 7 * 3; decide
  few := by show 0 < 64; decide
def GotF (P : Program) (w : World) (h0 : Heap) (ks : List FRow) (i : Nat) (h : Heap) : Prop :=
  (∀ b o, h0.get? b = some o → h.get? b = some o) ∧ ∃ rows es ep t, SetR w (HF P w) h h0.objs.size rows es ep t ∧ (∀ r ∈ rows, r ∈ ks.take i) ∧ ∀ r ∈ ks.take i, r.1 ∈ rows.map (·.1)
open Fs (old_ne set_ofT)
theorem adds_f {h0 : Heap} {ks : List FRow} {items : Array Value} (hv : ∀ (i : Nat) (v : Value), items[i]? = some v → ∃ r, ks[i]? = some r ∧ v = Value.ref r.2) (hk : ∀ r ∈ ks, IsF h0 r) (hb : (ddp (ks.map (·.1))).length < 63) (hu : A.units + 8 < cLine) :
    Adds P w A h0.objs.size [h0.objs.size + 1] (fun i h => GotF P w h0 ks i h) fun i v => items[i]? = some v where
  up := fun i h h' ⟨k, rows, es, ep, t, R, g1, g2⟩ kp =>
    ⟨fun b o e => kp b o (by rw [List.mem_singleton]; exact old_ne e (Nat.le_succ _)) (k b o e), rows, es, ep, t, R.at fun o e => kp _ o (by rw [List.mem_singleton]; exact Nat.ne_of_lt (Nat.lt_succ_self _)) e, g1, g2⟩
  add := fun i v s Q E hi ⟨k, rows, es, ep, t, R, g1, g2⟩ hQ => by
    obtain ⟨r, hr, rfl⟩ := hv i v hi
    have ht : ks.take (i + 1) = ks.take i ++ [r] := by rw [List.take_add_one, hr]; rfl
    have up : ∀ q : FRow, IsF h0 q → IsF s.heap q := fun q x => NestedIs.at (fun b o _ _ e _ => k b o e) _ _ x
    have hx := up r (hk r (List.mem_of_getElem? hr))
    have hks : ∀ q ∈ rows, IsF s.heap q := fun q hq => up q (hk q (List.mem_of_mem_take (g1 q hq)))
    have hl : (rows.map (·.1)).length ≤ (ddp (ks.map (·.1))).length := nodup_len R.keys fun x hx => by
      obtain ⟨q, hq, e⟩ := List.mem_map.mp hx
      exact mem_ddp.mpr (List.mem_map.mpr ⟨q, List.mem_of_mem_take (g1 q hq), e⟩)
    rw [List.length_map] at hl
    unfold setAdd
    refine wpAny_holding (wpAny_bind ((nestedKind P w).pyHash (show A.units + 8 < cLine from hu) (isF_kind hx) ?_))
    refine add_f (s := { s with toks := s.toks + (nestedKind P w).draws (keyP r.1) }) R hks hx hu (by omega) fun b h' rows' es' ep' t' sb R' c1 c2 => ?_
    refine hQ h' (s.toks + (nestedKind P w).draws (keyP r.1)) b (Nat.le_add_right _ _) sb ⟨fun c o e => (sb.2 c (old_ne e (Nat.le_refl _))).trans (k c o e), rows', es', ep', t', R', fun q hq => ?_, fun q hq => ?_⟩
    · rw [ht]
      by_cases hm : r.1 ∈ rows.map (·.1)
      · rw [c1 hm] at hq
        exact List.mem_append_left _ (g1 q hq)
      · rcases List.mem_cons.mp ((c2 hm).mem_iff.mp hq) with z | z
        · rw [z]
          exact List.mem_append_right _ List.mem_cons_self
        · exact List.mem_append_left _ (g1 q z)
    · rw [ht] at hq
      by_cases hm : r.1 ∈ rows.map (·.1)
      · rw [c1 hm]
        rcases List.mem_append.mp hq with z | z
        · exact g2 q z
        · rw [List.mem_singleton.mp z]
          exact hm
      · refine ((c2 hm).map (·.1)).mem_iff.mpr ?_
        rw [List.map_cons]
        rcases List.mem_append.mp hq with z | z
        · exact List.mem_cons_of_mem _ (g2 q z)
        · rw [List.mem_singleton.mp z]
          exact List.mem_cons_self
theorem set_flows {l : Addr} {items : Array Value} {ks : List FRow} {Q : Value → Shared → Prop} (hh : A.handled = none) (hl : s.heap.IsList l items ∨ s.heap.IsTuple l items) (hit : items.toList = ks.map fun r => Value.ref r.2) (hk : ∀ r ∈ ks, IsF s.heap r)
    (hb : (ddp (ks.map (·.1))).length < 63) (hu : A.units + 16 < cLine)
    (h : ∀ (h' : Heap) (tk : Nat) rows es ep t, SetR w (HF P w) h' s.heap.objs.size rows es ep t → (∀ r ∈ rows, r ∈ ks) → (∀ r ∈ ks, r.1 ∈ rows.map (·.1)) → (∀ b o, s.heap.get? b = some o → h'.get? b = some o) → Q (.ref s.heap.objs.size) { s with heap := h', toks := tk }) :
    wpAny (model P w) A (call (.type "set") [.ref l]) Q E s := by
  have hsz : items.size = ks.length := by
    have q := congrArg List.length hit
    rwa [Array.length_toList, List.length_map] at q
  have hv : ∀ (i : Nat) (v : Value), items[i]? = some v → ∃ r, ks[i]? = some r ∧ v = Value.ref r.2 := fun i v e => by
    have q : items.toList[i]? = some v := by rw [Array.getElem?_toList]; exact e
    rw [hit, List.getElem?_map] at q
    cases hq : ks[i]? with
    | none => rw [hq] at q; cases q
    | some r =>
      rw [hq] at q
      exact ⟨r, rfl, (Option.some.inj q).symm⟩
  have a0 : ∀ h : Heap, h.get? s.heap.objs.size = some (fresh0 w) → (∀ b o, s.heap.get? b = some o → h.get? b = some o) → GotF P w s.heap ks 0 h := fun h ho kp =>
    ⟨kp, [], #[], 0, _, setR_0 ho, fun r hr => (by cases hr), fun r hr => (by simp at hr)⟩
  have a1 : ∀ (h' : Heap) (tk : Nat), GotF P w s.heap ks items.size h' → (∀ b o, b < s.heap.objs.size → s.heap.get? b = some o → h'.get? b = some o) → Q (.ref s.heap.objs.size) { s with heap := h', toks := tk } := fun h' tk ⟨kp, rows, es, ep, t, R, g1, g2⟩ _ => by
    rw [hsz, List.take_length] at g1 g2
    exact h h' tk rows es ep t R g1 g2 kp
  rcases hl with hl | hl
  · exact set_of (J := fun i h => GotF P w s.heap ks i h) hh hl (fun A' hA => adds_f hv hk hb (by omega)) a0 a1
  · exact set_ofT (J := fun i h => GotF P w s.heap ks i h) hh hl (fun A' hA => adds_f hv hk hb (by omega)) a0 a1
end
/-! ### sorted -/
open Fs (map_back)
theorem each_rowsP {R : Value → PF → Prop} : ∀ {rows : List FRow}, (∀ r ∈ rows, R (.ref r.2) r.1) → EachIs R (rows.map fun r => Value.ref r.2) (rows.map (·.1))
  | [], _ => .nil
  | r :: rows, h => .cons (h r List.mem_cons_self) (each_rowsP fun q hq => h q (List.mem_cons_of_mem _ hq))
theorem upP_same {ps qs : List PF} (p : ps.Perm qs) : upP ps = upP qs := by
  have tot : PySem.W.TotalLe pairLe := pairLe_total
  refine List.Perm.eq_of_pairwise (le := fun a b => pairLe a b = true) (fun a b _ _ h k => ?_) (PySem.W.sort_pairwise tot ps) (PySem.W.sort_pairwise tot qs) ((upP_perm ps).trans (p.trans (upP_perm qs).symm))
  rw [pairLe_eq] at h k
  by_cases e : b.1 = a.1
  · rw [if_pos e] at h
    rw [if_pos e.symm] at k
    have h := of_decide_eq_true h
    have k := of_decide_eq_true k
    exact Prod.ext e.symm (by omega)
  · rw [if_neg e] at h
    rw [if_neg fun z => e z.symm] at k
    have h : strLt b.1 a.1 = false := by simpa using h
    have k : strLt a.1 b.1 = false := by simpa using k
    rw [strLt_total h e] at k
    cases k
section
variable {P : Program} {w : World} {A : Around} {E : Value → Shared → Prop} {s : Shared} {a : Addr} {rows : List FRow} {es : Array (Int × Value)} {ep : Nat} {t : SetTable}
theorem sorted_setP {R : Value → PF → Prop} {Q : Value → Shared → Prop} (S : SetR w (HF P w) s.heap a rows es ep t) (hh : A.handled = none) (hu : A.units + 80 < cLine)
    (hk : ∀ r ∈ rows, ∃ as, Reads s.heap (.ref r.2) (encP r.1) as) (hR : ∀ r ∈ rows, R (.ref r.2) r.1)
    (hQ : ∀ s' p (out : Array Value) (c : Nat), (∀ b o, s.heap.get? b = some o → s'.heap.get? b = some o) → s'.gens = s.gens → s'.os = s.os → s.heap.objs.size ≤ p →
      s'.heap.get? p = some (seqObj "list" out c) → EachIs R out.toList (upP (rows.map (·.1))) → Q (.ref p) s') :
    wpAny (model P w) A (call (.builtin "sorted") [.ref a]) Q E s := by
  obtain ⟨o, ho, hex, hd⟩ := S.obj
  have hsz := ents_size S.ents
  have hfew := S.few
  have h16 : sizeLine = 16777216 := by first | exact sizeLine_eq | rfl
  refine Calls.call_function_entry kind_sorted plain_sorted entry_sorted (args_sorted1 _) ?_
  unfold Builtin.«sorted»
  refine wpAny_bind (m := checkCount "sorted" 1 1 _) (wpAny_pure ?_)
  refine wpAny_bind (collect_set (A := A.in1) hh ⟨o, ho, hex.1, hd⟩ S.fit (by unfold scanBound; omega) S.tab.ris S.led fun s1 vs k1 hz g1 o1 pm => ?_)
  have hes : es.toList.map (·.2) = rows.map fun r => Value.ref r.2 := by
    rw [S.ents, List.map_map]
    rfl
  rw [hes] at pm
  obtain ⟨rows1, p1, e1⟩ := map_back pm.symm rfl
  subst e1
  have hvl : (rows1.map fun r => Value.ref r.2).length = rows.length := by rw [List.length_map, p1.length_eq]
  refine wpAny_bind (wpAny_newList ?_ (by rw [hvl]; omega))
  generalize hvs : rows1.map (fun r : FRow => Value.ref r.2) = vs at hvl ⊢
  have hoL : (s1.heap.push (seqObj "list" vs.toArray 0)).get? s1.heap.objs.size = some (seqObj "list" vs.toArray 0) := Heap.get?_push_size _ rfl
  have hin := Fn.in1_units A
  have each : ∀ {R' : Value → PF → Prop}, (∀ r ∈ rows, R' (.ref r.2) r.1) → EachIs R' vs (rows1.map (·.1)) := fun h => by
    rw [← hvs]
    exact each_rowsP fun r hr => h r (p1.mem_iff.mpr hr)
  refine wpAny_bind (wpAny_holding (PySem.W.list_sort_data (s := { s1 with heap := s1.heap.push (seqObj "list" vs.toArray 0) }) (enc := encP) hoL (each hR) (each fun r hr => ?_) (alikes_P _) (sortable_P _) (by rw [List.length_map, ← p1.length_eq]; omega) (fun b hb => ?_) fun out a1 a2 => ?_))
  · obtain ⟨as, q⟩ := hk r hr
    refine ⟨as, PyProof.Rows.Reads.keeps (fun b o e => Heap.get?_push_of_some _ (k1 b o e)) q, ?_⟩
    have e0 : as = [] := by
      cases q with
      | tuple q1 q2 q3 q4 =>
        generalize Array.toList _ = us at q4
        cases q4 with
        | cons r1 r =>
          cases r with
          | cons r2 r3 => cases r3; cases r1; cases r2; rfl
    rw [e0]
    simp
  · have := depth_P _ (encP b) (List.mem_map.mpr ⟨b, hb, rfl⟩)
    omega
  · obtain ⟨c, hc⟩ := sortedHeap_at (vs := vs) (out := out.toArray) hoL
    have a2' : EachIs R out (upP (rows1.map (·.1))) := a2
    rw [← upP_same (p1.map (·.1))] at a2'
    refine wpAny_pure ⟨_, rfl, hQ _ s1.heap.objs.size out.toArray c (fun b u e => ?_) g1 o1 hz hc a2'⟩
    have q := k1 b u e
    have hlt := Heap.lt_size q
    show (sortedHeap (s1.heap.push (seqObj "list" vs.toArray 0)) s1.heap.objs.size vs out.toArray).get? b = some u
    rw [sortedHeap_old (Nat.ne_of_lt hlt) (by rw [size_push']; exact Nat.lt_succ_of_lt hlt)]
    exact Heap.get?_push_of_some _ q
end
/-! ### the rules -/
def SetPO (P : Program) (w : World) (a : Addr) (rows : List FRow) : HO := .ext fun h => ∃ es ep t, SetR w (HF P w) h a rows es ep t
theorem setPO_new {P : Program} {w : World} {H : Hp} {h : Heap} {a : Addr} {rows : List FRow} {es : Array (Int × Value)} {ep : Nat} {t : SetTable} (R : SetR w (HF P w) h a rows es ep t) : ObjOk P w H h a (SetPO P w a rows) := by
  have ⟨o, ho, _⟩ := R.obj
  exact ⟨⟨es, ep, t, R⟩, ⟨o, ho⟩, fun h1 h2 ⟨es, ep, t, p⟩ k => ⟨es, ep, t, p.at k⟩⟩
def KeysP (H : Hp) (rows : List FRow) : Prop := ∀ r ∈ rows, Dr H (.ref r.2) (encP r.1)
theorem rows_ofP {H : Hp} : ∀ {fs : List PF} {us : List V}, DrAll H us (fs.map encP) → ∃ rows : List FRow, rows.map (·.1) = fs ∧ us = rows.map (fun r => V.ref r.2) ∧ KeysP H rows
  | [], _, h => by
    cases h
    exact ⟨[], rfl, rfl, fun r hr => by cases hr⟩
  | f :: fs, _, h => by
    cases h with
    | cons h1 h2 =>
      obtain ⟨rows, e1, e2, e3⟩ := rows_ofP h2
      have h1' := h1
      cases h1 with
      | @tup a vs ds ha hs =>
        refine ⟨(f, a) :: rows, by rw [← e1]; rfl, by rw [e2]; rfl, fun r hr => ?_⟩
        rcases List.mem_cons.mp hr with z | z
        · rw [z]
          exact h1'
        · exact e3 r z
theorem refs_rowsP : ∀ {rows : List FRow} {us : List Value}, Vals (rows.map fun r => V.ref r.2) us → us = rows.map fun r => Value.ref r.2
  | [], _, .nil => rfl
  | r :: rows, _, .cons h t => by
    cases h
    rw [refs_rowsP t]
    rfl
def rSetP (K : PySem.W.Frag) (P : Program) (w : World) : List V → Hp → VK → Prop := fun vs H Q => ∃ (a : Addr) (us : List V) (fs : List PF) (G : Hp), vs = [.ref a] ∧ Same G H ∧ (SqL K H a us ∨ SqT K H a us) ∧ DrAll G us (fs.map encP) ∧ (ddp fs).length < 63 ∧
  ∀ p rows, H p = none → KeysP G rows → upP (rows.map (·.1)) = upP (ddp fs) → rows.length < 64 → Q (.ref p) (upd H p (SetPO P w p rows))
def rSortSP (P : Program) (w : World) : List V → Hp → VK → Prop := fun vs H Q => ∃ (a : Addr) (rows : List FRow) (G : Hp), vs = [.ref a] ∧ Same G H ∧ H a = some (SetPO P w a rows) ∧ KeysP G rows ∧ rows.length < 64 ∧
  ∀ p us, H p = none → DrAll G us ((upP (rows.map (·.1))).map encP) → Q (.ref p) (upd H p (.lst us))
section
variable {X : Cx}
theorem readsP_of {pins : List (Addr × Obj)} {σ : L2.St} {H : Hp} {s : Shared} (I : L2.Inv X pins σ H s) {t : Addr} {f : PF} (h : Dr H (.ref t) (encP f)) : ∃ as, Reads s.heap (.ref t) (encP f) as := Dp.reads I _ _ _ h.dp rfl
theorem cr_setP (hc : X.calm = true) (hu : X.A.units + 64 < cLine) : CallR X (.type "set") (rSetP X.K X.prog X.w) := by
  intro pins s σ H vs us Q I r h
  obtain ⟨a, ws, fs, G, rfl, sG, hq, hd, hb, q⟩ := h
  obtain ⟨ks, rfl, rfl, hk⟩ := rows_ofP hd
  rw [Vals.ref1 r]
  obtain ⟨its, rv, hl⟩ : ∃ its : List Value, Vals (ks.map fun r => V.ref r.2) its ∧ (s.heap.IsList a its.toArray ∨ s.heap.IsTuple a its.toArray) := by
    rcases hq with h | h
    · obtain ⟨its, rv, h, _⟩ := I.list h
      exact ⟨its, rv, .inl h.isList⟩
    · obtain ⟨its, rv, h, _⟩ := I.tuple h
      exact ⟨its, rv, .inr h⟩
  have hn : H s.heap.objs.size = none := I.hok.fresh (Nat.le_refl _)
  refine set_flows (ks := ks) (I.ok.hd hc) hl (by rw [refs_rowsP rv]) (fun r hr => ?_) hb (by omega) fun h' tk rows es ep t R g1 g2 k => ?_
  · obtain ⟨as, q⟩ := readsP_of I ((hk r hr).up sG)
    exact reads_keyP q
  · exact ⟨.ref _, upd H s.heap.objs.size (SetPO X.prog X.w s.heap.objs.size rows), I.laid (t' := tk) (fun b o e => k b o e) (Nat.le_refl _) (setPO_new R), rfl, q _ rows hn (fun r hr => hk r (g1 r hr)) (upP_same ((List.perm_ext_iff_of_nodup R.keys (ddp_nodup _)).mpr fun f => by
      rw [mem_ddp]
      exact ⟨fun hf => by
        obtain ⟨r, hr, e⟩ := List.mem_map.mp hf
        exact List.mem_map.mpr ⟨r, g1 r hr, e⟩, fun hf => by
        obtain ⟨r, hr, e⟩ := List.mem_map.mp hf
        rw [← e]
        exact g2 r hr⟩)) R.few⟩
theorem cr_sortSP (hc : X.calm = true) (hu : X.A.units + 100 < cLine) : CallR X (.builtin "sorted") (rSortSP X.prog X.w) := by
  intro pins s σ H vs us Q I r h
  obtain ⟨a, rows, G, rfl, sG, ha, hk, hf, q⟩ := h
  obtain ⟨es, ep, t, R⟩ : ∃ es ep t, SetR X.w (HF X.prog X.w) s.heap a rows es ep t := (I.hok a _ ha).1
  rw [Vals.ref1 r]
  refine sorted_setP (R := fun u f => ∃ v, RelV v u ∧ Dr G v (encP f)) R (I.ok.hd hc) (by omega) (fun r hr => readsP_of I ((hk r hr).up sG)) (fun r hr => ⟨.ref r.2, rfl, hk r hr⟩) fun s' p out c k g o hp hg he => ?_
  obtain ⟨ws, w1, w2⟩ := vals_each (PySem.W.each_map (R := fun u d => ∃ v, RelV v u ∧ Dr G v d) encP he)
  have h16 : sizeLine = 16777216 := by first | exact sizeLine_eq | rfl
  have hlen : ws.length ≤ sizeLine := by
    have e : ws.length = rows.length := by rw [w2.len, List.length_map, (upP_perm _).length_eq, List.length_map]
    omega
  have hn : H p = none := I.hok.fresh hp
  have J : Inv X pins σ (upd H p (.lst ws)) { s with heap := s'.heap, gens := s'.gens, drawn := s'.drawn, toks := s'.toks } :=
    I.call (ch := []) (Un.laid k hp hn) (I.hok.laid k hp ⟨hlen, out.toList, c, w1, hg⟩) (by rw [g]; exact I.bare) (fun _ z => nomatch z)
  have e : s' = { s with heap := s'.heap, gens := s'.gens, drawn := s'.drawn, toks := s'.toks } := by
    cases s'
    cases s
    cases o
    rfl
  rw [e]
  exact ⟨.ref p, _, J, rfl, q p ws hn w2⟩
end
section
variable {P : Program} {w : World} {K : PySem.W.Frag} {Γ : List Ds} {t : TE}
theorem ev_sortSPt {fs : List PF} (h : Ev K t Γ (.dat (.tuple (fs.map encP)))) (hb : (ddp fs).length < 63) : Ev K (tCB (rSortSP P w) (tCons (tCB (rSetP K P w) (tCons t tNil)) tNil)) Γ (.dat (.list ((upP (ddp fs)).map encP))) := fun G0 H0 G H σ E Q q =>
  h G0 H0 G H σ E _ fun v G1 H1 e1 hd => by
    cases hd with
    | @tup a vs ds ht hs =>
      refine ⟨a, vs, fs, G1, rfl, e1.i, .inr (ht.up e1.i).sq, hs, hb, fun p rows np hk he hf => ⟨p, rows, G1, rfl, e1.i.trans (same_up np), upd_same, hk, hf, fun p2 us np2 hd => ?_⟩⟩
      have e2 := e1.trans (Ext.hid (o := SetPO P w p rows) e1.i np)
      rw [he] at hd
      exact q _ _ _ (e2.trans (Ext.new e2.i np2)) (.lst upd_same (hd.up (same_up (e2.i.free np2))))
end
end Fp
/-! ### defs that give a dict of their own; a dict's keys in a comprehension -/
namespace Fx
open PySem PySem.Spec L2 Fw Wk Fv
def spD (K : PySem.W.Frag) (Pr : List Ds → List (Str × Int) → Prop) : Sp := fun vs H Q _ => ∃ G xs l, Same G H ∧ VsOk K G vs xs ∧ Pr xs l ∧ ∀ p G' H', Ext G H G' H' → H' p = some (.dK (kvl (bk l))) → G' p = none → H p = none → Q (.ref p) H'
def DoR (K : PySem.W.Frag) (ts : TS) (Γ : List Ds) (l : List (Str × Int)) : Prop := ∀ G0 H0 G H σ (D : Ends), En K G0 H0 G H σ Γ → (∀ p G' H', Ext G0 H0 G' H' → H' p = some (.dK (kvl (bk l))) → G' p = none → H0 p = none → D.rt (.ref p) H') → ts D σ H
section
variable {K : PySem.W.Frag} {Γ Γ1 xs : List Ds} {l : List (Str × Int)} {ts tz : TS} {t : TE} {ta : TA} {i : Nat} {R : Ds → Prop} {x : PyData}
theorem dr_seq (h : Do K ts Γ (some Γ1) fun _ => False) (k : DoR K tz Γ1 l) : DoR K (tSeq ts tz) Γ l := fun G0 H0 G H σ D E hr =>
  h G0 H0 G H σ { D with nx := tz D } E (fun Γn e σ' G' H' E' => by
    cases e
    exact k G0 H0 G' H' σ' D E' hr) fun _ _ _ _ r => r.elim
theorem dr_ret (hi : Γ[i]? = some (.ownD (bk l))) : DoR K (tRet (tVar i)) Γ l := fun G0 H0 G H σ D E hr => by
  obtain ⟨a, h1, h2, h3, h4⟩ := E.ownD hi
  exact ⟨_, h1, hr a G H E.x h2 h3 h4⟩
theorem pureD {P : Program} {w : World} {mg : Str → Option Value} {base : Heap} {x : Str} {st : Stmt} {ps N : List Str} {k : Nat} {Pr : List Ds → List (Str × Int) → Prop} (F : Fnd K mg x st ps) (S : FnScope N ps (defScope st)) (len : ∀ xs l, Pr xs l → xs.length = ps.length)
    (hbody : ∀ (f : Addr) (cdv : Value) (A : Around) (outer : List Env) (s : Shared) (H : Hp) (E : XK), Room k (A.deeper (PyProof.Rows.envOfC x (defScope st) s.heap.objs.size f cdv)) →
      ∃ t, PSs (cxOf CX0 P w K mg base N x (defScope st) f cdv A outer s H E).nox (defBody st) t ∧ ∀ (xs : List Ds) (l : List (Str × Int)), Pr xs l → DoR K t (xs ++ List.replicate (N.length - xs.length) .any) l) : Dfn P w K mg base x (k + 1) ps (spD K Pr) :=
  F.ok S (fun vs H Q E ⟨G, xs, l, _, h2, h3, _⟩ => (vs_len h2).trans (len xs l h3)) fun f cdv A outer s H E hr => by
    obtain ⟨t, h1, h2⟩ := hbody f cdv A outer s H E hr
    exact ⟨t, h1, fun vs Q ⟨G, xs, l, hs, hv, hp, q⟩ => h2 xs l hp G H G H _ _ (en_start hs hv) fun p G' H' e a b c => q p G' H' e a b c⟩
/-- a dict that came, its own, into slot i -/
theorem adopt {G0 H0 G H G' H' : Hp} {σ : St} {l : Lv} {p : Addr} (E : En K G0 H0 G H σ Γ) (e : Ext G H G' H') (hp : H' p = some (.dK (kvl l))) (gp : G' p = none) (np : H p = none) : En K G0 H0 G' H' (σ.set i (some (.ref p))) (Γ.set i (.ownD l)) := by
  have E1 := E.up e
  refine ⟨E1.x, by rw [List.length_set, List.length_set]; exact E.l, fun j D hj => ?_, fun j k D F b k1 k2 k3 k4 k5 k6 => ?_⟩
  · by_cases hij : i = j
    · subst hij
      have hl : i < Γ.length := by
        have := (List.getElem?_eq_some_iff.mp hj).1
        rwa [List.length_set] at this
      rw [List.getElem?_set_self hl] at hj
      cases hj
      exact ⟨_, List.getElem?_set_self (by rw [E.l]; exact hl), p, rfl, hp, gp, E.x.h.free np⟩
    · rw [List.getElem?_set_ne hij] at hj ⊢
      exact E1.ok j D hj
  · have old : ∀ c D, i ≠ c → Γ[c]? = some D → isOwn D = true → σ[c]? = some (some (.ref b)) → b ≠ p := fun c D _ hc ho hs e => by
      subst e
      obtain ⟨ov, q1, q2⟩ := E.ok c D hc
      rw [hs] at q1
      cases q1
      cases D with
      | own ds =>
        obtain ⟨b', vs, e1, e2, _⟩ := q2
        cases e1
        rw [np] at e2
        cases e2
      | ownD l =>
        obtain ⟨b', e1, e2, _⟩ := q2
        cases e1
        rw [np] at e2
        cases e2
      | any => cases ho
      | dat d => cases ho
      | dic l => cases ho
      | scr ns => cases ho
      | val v => cases ho
      | fix v Gx => cases ho
    have at_i : (σ.set i (some (.ref p)))[i]? = some (some (.ref b)) → b = p := fun h => by
      obtain ⟨hl, e⟩ := List.getElem?_eq_some_iff.mp h
      rw [List.getElem_set_self] at e
      cases e
      rfl
    by_cases hj : i = j
    · subst hj
      by_cases hk : i = k
      · exact hk
      · have e := at_i k5
        rw [List.getElem?_set_ne hk] at k3 k6
        exact absurd e (old k F hk k3 k4 k6)
    · rw [List.getElem?_set_ne hj] at k1 k5
      by_cases hk : i = k
      · subst hk
        exact absurd (at_i k6) (old j D hj k1 k2 k5)
      · rw [List.getElem?_set_ne hk] at k3 k6
        exact E.ap j k D F b k1 k2 k3 k4 k5 k6
theorem do_callO {Pr : List Ds → List (Str × Int) → Prop} {E : XK} (h : EvA K ta Γ xs) (hp : Pr xs l) : Do K (tAsg (tCall (spD K Pr) [] E ta) (gName i)) Γ (some (Γ.set i (.ownD (bk l)))) R := fun G0 H0 G H σ D En' hn hr =>
  h G0 H0 G H σ En' _ fun vs G1 H1 e1 hv => by
    rw [List.append_nil]
    exact ⟨G1, xs, l, e1.i, hv, hp, fun p G2 H2 e2 a b c => hn _ rfl _ G2 H2 (adopt (En'.up e1) e2 a b c)⟩
/-! ### an own dict, locked -/
def rmv (G : Hp) (d : Addr) : Hp := fun b => if b = d then none else G b
theorem rmv_ne {G : Hp} {d b : Addr} (h : b ≠ d) : rmv G d b = G b := if_neg h
mutual
theorem dr_rmv {G : Hp} {d : Addr} {od : Obj} {kvs : List (Key × V)} (hd : G d = some (.frz od (.dK kvs))) : ∀ (x : PyData) (v : V), Dr G v x → Dr (rmv G d) v x
  | .none, _, h => by cases h; exact .non
  | .bool b, _, h => by cases h; exact .bl b
  | .int i, _, h => by cases h; exact .int i
  | .str x, _, h => by cases h; exact .str x
  | .list ds, _, h => by
    cases h with
    | @lst a vs _ ha hs =>
      have ne : a ≠ d := by
        rintro rfl
        rw [ha] at hd
        cases hd
      exact .lst (by rw [rmv_ne ne]; exact ha) (drs_rmv hd ds _ hs)
  | .tuple ds, _, h => by
    cases h with
    | @tup a vs _ ha hs =>
      obtain ⟨o, h1, h2⟩ := ha
      have ne : a ≠ d := by
        rintro rfl
        rw [h1] at hd
        cases hd
      exact .tup ⟨o, by rw [rmv_ne ne]; exact h1, h2⟩ (drs_rmv hd ds _ hs)
  | .dict _, _, h => by cases h
theorem drs_rmv {G : Hp} {d : Addr} {od : Obj} {kvs : List (Key × V)} (hd : G d = some (.frz od (.dK kvs))) : ∀ (xs : List PyData) (vs : List V), DrAll G vs xs → DrAll (rmv G d) vs xs
  | [], _, h => by cases h; exact .nil
  | x :: xs, _, h => by
    cases h with
    | cons h1 h2 => exact .cons (dr_rmv hd x _ h1) (drs_rmv hd xs _ h2)
end
theorem ev_lockO {l : Lv} (hi : Γ[i]? = some (.ownD l)) (h : ∀ (d : Addr) (od : Obj) (Gl : Hp), Gl d = some (.frz od (.dK (kvl l))) → Ev K t (Γ.set i (.fix (.ref d) Gl)) (.dat x)) : Ev K (tLockE t) Γ (.dat x) := fun G0 H0 G H σ E Q q => by
  obtain ⟨d, h1, h2, h3, h4⟩ := E.ownD hi
  refine ⟨d, .dK (kvl l), h2, trivial, fun od => ?_⟩
  have sG : Same G (upd G d (.frz od (.dK (kvl l)))) := same_up h3
  have E' : En K G0 H0 (upd G d (.frz od (.dK (kvl l)))) (upd H d (.frz od (.dK (kvl l)))) σ (Γ.set i (.fix (.ref d) (upd G d (.frz od (.dK (kvl l)))))) := by
    refine ⟨⟨E.x.g.trans sG, fun b u e => ?_, same_upd2 E.s, fun b q1 q2 => ?_⟩, by rw [List.length_set]; exact E.l, fun j F hj => ?_, fun j k F F' b k1 k2 k3 k4 k5 k6 => ?_⟩
    · rw [upd_ne (ne_of_none e h4)]
      exact E.x.h b u e
    · have e : b ≠ d := by
        rintro rfl
        exact q1 h4
      rw [upd_ne e]
      exact E.x.n b q1 q2
    · by_cases hij : i = j
      · subst hij
        have hl : i < Γ.length := (List.getElem?_eq_some_iff.mp hi).1
        rw [List.getElem?_set_self hl] at hj
        cases hj
        exact ⟨_, h1, rfl, Same.refl _⟩
      · rw [List.getElem?_set_ne hij] at hj
        obtain ⟨ov, q1, q2⟩ := E.ok j F hj
        refine ⟨ov, q1, ?_⟩
        have ne : ∀ b, isOwn F = true → ov = some (.ref b) → b ≠ d := fun b hF e1 e => by
          subst e
          subst e1
          exact hij (E.ap i j _ _ b hi rfl hj hF h1 q1)
        cases F with
        | any => trivial
        | dat d => obtain ⟨v, e1, e2⟩ := q2; exact ⟨v, e1, e2.up sG⟩
        | dic l => obtain ⟨b, e1, e2⟩ := q2; exact ⟨b, e1, sG _ _ e2⟩
        | scr ns => obtain ⟨b, e1, e2⟩ := q2; exact ⟨b, e1, sG.seq e2⟩
        | val v => exact q2
        | fix v Gx => exact ⟨q2.1, q2.2.trans sG⟩
        | own es =>
          obtain ⟨b, ws, e1, e2, e3, e4, e5⟩ := q2
          have n := ne b rfl e1
          exact ⟨b, ws, e1, by rw [upd_ne n]; exact e2, e3.up sG, by rw [upd_ne n]; exact e4, e5⟩
        | ownD l =>
          obtain ⟨b, e1, e2, e4, e5⟩ := q2
          have n := ne b rfl e1
          exact ⟨b, e1, by rw [upd_ne n]; exact e2, by rw [upd_ne n]; exact e4, e5⟩
    · have key : ∀ c F, (Γ.set i (.fix (.ref d) (upd G d (.frz od (.dK (kvl l))))))[c]? = some F → isOwn F = true → Γ[c]? = some F := fun c F hc ho => by
        by_cases hic : i = c
        · subst hic
          have hl : i < Γ.length := (List.getElem?_eq_some_iff.mp hi).1
          rw [List.getElem?_set_self hl] at hc
          cases hc
          cases ho
        · rwa [List.getElem?_set_ne hic] at hc
      exact E.ap j k F F' b (key j F k1 k2) k2 (key k F' k3 k4) k4 k5 k6
  refine h d od _ upd_same G0 H0 _ _ σ E' _ fun v G' H' e hv => ?_
  have gd : G' d = some (.frz od (.dK (kvl l))) := e.g _ _ upd_same
  refine ⟨e.i _ _ gd, q v (rmv G' d) _ ⟨fun b u z => ?_, fun b u z => ?_, fun b u z => ?_, fun b z1 z2 => ?_⟩ (dr_rmv gd _ _ hv)⟩
  · have ne : b ≠ d := ne_of_none z h3
    rw [rmv_ne ne]
    exact e.g b u (sG b u z)
  · by_cases hb : b = d
    · subst hb
      rw [h2] at z
      rw [upd_same, ← z]
    · rw [upd_ne hb]
      exact e.h b u (by rw [upd_ne hb]; exact z)
  · by_cases hb : b = d
    · subst hb
      unfold rmv at z
      rw [if_pos rfl] at z
      cases z
    · rw [rmv_ne hb] at z
      rw [upd_ne hb]
      exact e.i b u z
  · by_cases hb : b = d
    · unfold rmv
      rw [if_pos hb]
    · rw [rmv_ne hb]
      exact e.n b (by rw [upd_ne hb]; exact z1) (by rw [upd_ne hb]; exact z2)
/-- for k in d, d locked -/
theorem evi_keys {l : Lv} {d : Addr} {od : Obj} {Gl : Hp} (hi : Γ[i]? = some (.fix (.ref d) Gl)) (hd : Gl d = some (.frz od (.dK (kvl l)))) : EvI K RvD (iKeys (tVar i)) Γ (l.map fun p => .str p.1) := fun G0 H0 G H σ E R r => by
  obtain ⟨ov, h1, h2, h3⟩ := E.ok i _ hi
  subst h2
  have hH : H d = some (.frz od (.dK (kvl l))) := E.s _ _ (h3 _ _ hd)
  refine ⟨_, h1, d, od, rfl, .inl ⟨kvl l, hH, r (Itk d od (kvl l)) G H (Ext.refl E.s) ⟨fun j H1 hj s => ⟨s _ _ (h3 _ _ hd), ?_⟩, fun H1 s => ⟨s _ _ (h3 _ _ hd), ?_⟩, fun j H1 y H2 hj s hy => ?_⟩⟩⟩
  · rw [List.length_map] at hj
    rw [kvl_len]
    exact hj
  · rw [List.length_map, kvl_len]
    exact Nat.le_refl _
  · obtain ⟨rfl, k, v, hk, rfl⟩ := hy
    intro G1 s1 s2
    unfold kvl at hk
    rw [List.getElem?_map] at hk
    cases hp : l[j]? with
    | none => rw [hp] at hk; cases hk
    | some p =>
      rw [hp] at hk
      cases hk
      exact ⟨G1, .str p.1, Ext.refl s2, by rw [List.getElem?_map, hp]; rfl, .str _⟩
/-- reading a locked dict -/
theorem ev_dgF {l : Lv} {d : Addr} {od : Obj} {Gl : Hp} {ty : TE} {y : Str} {u : V} (hi : Γ[i]? = some (.fix (.ref d) Gl)) (hd : Gl d = some (.frz od (.dK (kvl l)))) (hk : Ev K ty Γ (.dat (.str y))) (hu : lkV l y = some u) (hx : flatV x = some u) : Ev K (tDGet (tVar i) ty) Γ (.dat x) := fun G0 H0 G H σ E Q q => by
  obtain ⟨ov, h1, h2, h3⟩ := E.ok i _ hi
  subst h2
  refine ⟨_, h1, hk G0 H0 G H σ E _ fun v G2 H2 e2 hy => ?_⟩
  cases hy
  refine ⟨d, u, rfl, .inl ⟨kvl l, (Sum.inr y : Key), .inr ⟨od, e2.h _ _ (E.s _ _ (h3 _ _ hd))⟩, rfl, ?_⟩, q _ G2 H2 e2 (flatV_dr hx)⟩
  rw [valV_kvl, hu]
/-- d.get(y, n) -/
theorem ev_dgN {l : List (Str × Int)} {td ty : TE} {y : Str} {n : Int} (h : EvM K td Γ (bk l)) (hk : Ev K ty Γ (.dat (.str y))) : Ev K (tDGet2 td ty (tC (.int n))) Γ (.dat (.int ((look? l y).getD n))) := fun G0 H0 G H σ E Q q =>
  h G0 H0 G H σ E _ fun a G1 H1 e1 ha => by
    refine ⟨a, rfl, .inl ⟨_, .inl ha⟩, hk G0 H0 G1 H1 σ (E.up e1) _ fun v G2 H2 e2 hy => ?_⟩
    cases hy
    refine ⟨_, DGet.k (k := (Sum.inr y : Key)) (e2.h _ _ ha), ?_⟩
    rw [valV_bk]
    have e : ((look? l y).map V.int).getD (.int n) = .int ((look? l y).getD n) := by cases look? l y <;> rfl
    rw [e]
    exact q _ G2 H2 (e1.trans e2) (.int _)
/-- list(d) -/
def rListD : List V → Hp → VK → Prop := fun xs H Q => ∃ (a : Addr) (kvs : List (Key × V)), xs = [.ref a] ∧ Rd H a (.dK kvs) ∧ ∀ p, H p = none → Q (.ref p) (upd H p (.lst (kvs.map fun kv => kV kv.1)))
theorem cr_listDk {X : Cx} (hc : X.calm = true) : CallR X (.type "list") rListD := call_listD hc
theorem ev_listD {l : Lv} {td : TE} (h : EvM K td Γ l) : Ev K (tCB rListD (tCons td tNil)) Γ (.dat (.list (l.map fun p => .str p.1))) := fun G0 H0 G H σ E Q q =>
  h G0 H0 G H σ E _ fun a G1 H1 e1 ha => ⟨a, kvl l, rfl, .inl ha, fun p np => q _ _ _ (e1.trans (Ext.new e1.i np)) (.lst upd_same (by
    have e : ((kvl l).map fun kv => kV kv.1) = (l.map (·.1)).map V.str := by
      unfold kvl
      rw [List.map_map, List.map_map]
      rfl
    have e2 : (l.map fun p => PyData.str p.1) = (l.map (·.1)).map .str := by rw [List.map_map]; rfl
    rw [e, e2]
    exact drs_strs _))⟩
/-- not xs -/
theorem k_notT {X : Cx} (K : PySem.W.Frag) (h : X.K = K) {e : Expr} {te : TE} {pos : Pos} (he : PE X e te) : PE X (.UnaryOp .Not e pos) (tNotT K te) := h ▸ pe_notT he
theorem ev_notT {ds : List PyData} (h : Ev K t Γ (.dat (.list ds))) : Ev K (tNotT K t) Γ (.dat (.bool ds.isEmpty)) := fun G0 H0 G H σ E Q q =>
  h G0 H0 G H σ E _ fun v G1 H1 e1 hv => by
    cases hv with
    | @lst a vs _ ha hs =>
      refine ⟨_, .inl ⟨vs, SqL.of (e1.i _ _ ha), rfl⟩, ?_⟩
      have e : vs.isEmpty = ds.isEmpty := by cases hs <;> rfl
      rw [e, Bool.not_not]
      exact q _ G1 H1 e1 (.bl _)
end
end Fx
/-! ### the least levels by hand -/
namespace Wk
open PySem PySem.Spec L2 Fw Fn Fv
def lsStep (h : List (Str × Int)) (l : List (Str × Int)) (f : Fl) : List (Str × Int) := match f.2 with
  | .nm y => if has h y = true then l else dput l y (max (look l y) (look l f.1))
  | .pg _ => l
def lsRound (fs : List Fl) (h l : List (Str × Int)) : List (Str × Int) := fs.foldl (lsStep h) l
def lsIter (fs : List Fl) (h : List (Str × Int)) : Nat → List (Str × Int) → List (Str × Int)
  | 0, l => l
  | n + 1, l => lsRound fs h (lsIter fs h n l)
def lsSum (l : List (Str × Int)) : Int := (l.map (·.2)).sum
theorem dput_keys {l : List (Str × Int)} {x : Str} {v : Int} (h : x ∈ l.map (·.1)) : (dput l x v).map (·.1) = l.map (·.1) := by
  rw [keys_dput, if_pos (has_iff.mpr h)]
/-- raising one level: the sum grows, or nothing changes -/
theorem dput_sum : ∀ {l : List (Str × Int)} {x : Str} {v : Int}, (l.map (·.1)).Nodup → x ∈ l.map (·.1) → lsSum (dput l x v) = lsSum l + (v - look l x) ∧ (v = look l x → dput l x v = l)
  | [], _, _, _, h => by cases h
  | p :: r, x, v, nd, h => by
    have nd := List.nodup_cons.mp nd
    have hd : dput (p :: r) x v = if p.1 = x then (p.1, v) :: (r.map fun q => if q.1 = x then (q.1, v) else q) else p :: (r.map fun q => if q.1 = x then (q.1, v) else q) := by
      unfold dput
      rw [if_pos (has_iff.mpr h), List.map_cons]
      split <;> rfl
    by_cases e : p.1 = x
    · subst e
      have hr : (r.map fun q => if q.1 = p.1 then (q.1, v) else q) = r := by
        refine (List.map_congr_left fun q hq => ?_).trans (List.map_id r)
        rw [if_neg fun z => nd.1 (by show p.1 ∈ r.map (·.1); rw [← z]; exact List.mem_map.mpr ⟨q, hq, rfl⟩)]
        rfl
      have lk : look (p :: r) p.1 = p.2 := by
        unfold look
        rw [look?_pos rfl]
        rfl
      rw [hd, if_pos rfl, hr, lk]
      refine ⟨?_, fun q => by rw [q]⟩
      show v + (r.map (·.2)).sum = p.2 + (r.map (·.2)).sum + (v - p.2)
      omega
    · have hx : x ∈ r.map (·.1) := by
        rcases List.mem_cons.mp h with q | q
        · exact absurd q.symm e
        · exact q
      have ih := dput_sum (l := r) (x := x) (v := v) nd.2 hx
      have hr : (r.map fun q => if q.1 = x then (q.1, v) else q) = dput r x v := by
        unfold dput
        rw [if_pos (has_iff.mpr hx)]
      have lk : look (p :: r) x = look r x := by
        unfold look
        rw [look?_neg e]
      rw [hd, if_neg e, hr, lk]
      refine ⟨?_, fun q => by rw [ih.2 q]⟩
      have q := ih.1
      show p.2 + lsSum (dput r x v) = p.2 + lsSum r + (v - look r x)
      omega
/-- what is kept while raising -/
structure LsOk2 (fs : List Fl) (h : List (Str × Int)) (l : List (Str × Int)) : Prop where
  nd : (l.map (·.1)).Nodup
  fl : ∀ f ∈ fs, f.1 ∈ l.map (·.1) ∧ ∀ y, f.2 = .nm y → y ∈ l.map (·.1)
  lo : ∀ y, 0 ≤ look l y ∧ look l y ≤ 2
  told : ∀ y, has h y = true → look l y = look h y
theorem step_ok {fs : List Fl} {h l : List (Str × Int)} {f : Fl} (k : LsOk2 fs h l) (hf : f ∈ fs) : LsOk2 fs h (lsStep h l f) ∧ (lsStep h l f).map (·.1) = l.map (·.1) ∧ (∀ y, look l y ≤ look (lsStep h l f) y) ∧ (lsSum l < lsSum (lsStep h l f) ∨ lsStep h l f = l) := by
  obtain ⟨x, t⟩ := f
  cases t with
  | pg i => exact ⟨k, rfl, fun y => Int.le_refl _, .inr rfl⟩
  | nm y =>
    have e : lsStep h l (x, .nm y) = if has h y = true then l else dput l y (max (look l y) (look l x)) := rfl
    rw [e]
    by_cases hy : has h y = true
    · rw [if_pos hy]
      exact ⟨k, rfl, fun y => Int.le_refl _, .inr rfl⟩
    · rw [if_neg hy]
      have ym := (k.fl _ hf).2 y rfl
      have dk := dput_keys (v := max (look l y) (look l x)) ym
      obtain ⟨s1, s2⟩ := dput_sum (v := max (look l y) (look l x)) k.nd ym
      refine ⟨⟨by rw [dk]; exact k.nd, by rw [dk]; exact k.fl, fun z => ?_, fun z hz => ?_⟩, dk, fun z => ?_, ?_⟩
      · rw [look_dput]
        have a := k.lo y
        have b := k.lo x
        have c := k.lo z
        split <;> omega
      · rw [look_dput]
        split
        · rename_i e2
          subst e2
          exact absurd hz hy
        · exact k.told z hz
      · rw [look_dput]
        split
        · rename_i e2
          subst e2
          omega
        · exact Int.le_refl _
      · by_cases q : max (look l y) (look l x) = look l y
        · exact .inr (s2 q)
        · refine .inl ?_
          rw [s1]
          omega
theorem fold_ok2 {fs : List Fl} {h : List (Str × Int)} : ∀ {gs : List Fl} {l : List (Str × Int)}, LsOk2 fs h l → (∀ g ∈ gs, g ∈ fs) → LsOk2 fs h (gs.foldl (lsStep h) l) ∧ (gs.foldl (lsStep h) l).map (·.1) = l.map (·.1) ∧ (∀ y, look l y ≤ look (gs.foldl (lsStep h) l) y) ∧ (lsSum l < lsSum (gs.foldl (lsStep h) l) ∨ ∀ g ∈ gs, lsStep h l g = l)
  | [], l, k, _ => ⟨k, rfl, fun y => Int.le_refl _, .inr fun g hg => by cases hg⟩
  | g :: gs, l, k, hg => by
    obtain ⟨a1, a2, a3, a4⟩ := step_ok k (hg g List.mem_cons_self)
    obtain ⟨b1, b2, b3, b4⟩ := fold_ok2 (gs := gs) a1 fun q hq => hg q (List.mem_cons_of_mem _ hq)
    rw [List.foldl_cons]
    refine ⟨b1, b2.trans a2, fun y => Int.le_trans (a3 y) (b3 y), ?_⟩
    rcases a4 with a4 | a4
    · left
      rcases b4 with b4 | b4
      · omega
      · have e : gs.foldl (lsStep h) (lsStep h l g) = lsStep h l g := by
          clear b1 b2 b3 hg
          induction gs with
          | nil => rfl
          | cons q gs ih =>
            rw [List.foldl_cons, b4 q List.mem_cons_self]
            exact ih fun r hr => b4 r (List.mem_cons_of_mem _ hr)
        rw [e]
        exact a4
    · rw [a4] at b4 ⊢
      rcases b4 with b4 | b4
      · exact .inl b4
      · refine .inr fun q hq => ?_
        rcases List.mem_cons.mp hq with z | z
        · rw [z, a4]
        · exact b4 q z
theorem fold_same {h : List (Str × Int)} : ∀ {gs : List Fl} {l : List (Str × Int)}, (∀ g ∈ gs, lsStep h l g = l) → gs.foldl (lsStep h) l = l
  | [], _, _ => rfl
  | g :: gs, l, k => by rw [List.foldl_cons, k g List.mem_cons_self, fold_same fun q hq => k q (List.mem_cons_of_mem _ hq)]
theorem iter_ok {fs : List Fl} {h l : List (Str × Int)} (k : LsOk2 fs h l) : ∀ n : Nat, LsOk2 fs h (lsIter fs h n l) ∧ (lsIter fs h n l).map (·.1) = l.map (·.1) ∧ (∀ y, look l y ≤ look (lsIter fs h n l) y) ∧ (lsSum l + n ≤ lsSum (lsIter fs h n l) ∨ ∀ g ∈ fs, lsStep h (lsIter fs h n l) g = lsIter fs h n l)
  | 0 => ⟨k, rfl, fun y => Int.le_refl _, .inl (by show lsSum l + 0 ≤ lsSum l; omega)⟩
  | n + 1 => by
    obtain ⟨a1, a2, a3, a4⟩ := iter_ok k n
    obtain ⟨b1, b2, b3, b4⟩ := fold_ok2 (gs := fs) a1 fun g hg => hg
    refine ⟨b1, b2.trans a2, fun y => Int.le_trans (a3 y) (b3 y), ?_⟩
    show lsSum l + ((n + 1 : Nat) : Int) ≤ lsSum (fs.foldl (lsStep h) (lsIter fs h n l)) ∨ ∀ g ∈ fs, lsStep h (fs.foldl (lsStep h) (lsIter fs h n l)) g = fs.foldl (lsStep h) (lsIter fs h n l)
    rcases a4 with a4 | a4
    · rcases b4 with b4 | b4
      · left
        have : ((n + 1 : Nat) : Int) = (n : Int) + 1 := by omega
        omega
      · right
        rw [fold_same b4]
        exact b4
    · right
      rw [fold_same a4]
      exact a4
theorem sum_le {l : List (Str × Int)} (h : ∀ p ∈ l, 0 ≤ p.2 ∧ p.2 ≤ 2) : 0 ≤ lsSum l ∧ lsSum l ≤ 2 * (l.length : Int) := by
  induction l with
  | nil => exact ⟨Int.le_refl _, Int.le_refl _⟩
  | cons p r ih =>
    have a := h p List.mem_cons_self
    have b := ih fun q hq => h q (List.mem_cons_of_mem _ hq)
    have e : lsSum (p :: r) = p.2 + lsSum r := rfl
    rw [e, List.length_cons]
    have : ((r.length + 1 : Nat) : Int) = (r.length : Int) + 1 := by omega
    omega
/-- the levels by hand -/
def lsLeast (fs : List Fl) (h : List (Str × Int)) (mine : List Str) : List (Str × Int) := lsIter fs h (2 * (mine.foldl sdf h).length + 1) (mine.foldl sdf h)
theorem least_ok {fs : List Fl} {h : List (Str × Int)} {mine : List Str} (k : LsOk2 fs h (mine.foldl sdf h)) : LsOk2 fs h (lsLeast fs h mine) ∧ (lsLeast fs h mine).map (·.1) = (mine.foldl sdf h).map (·.1) ∧ ∀ f ∈ fs, ∀ y, f.2 = .nm y → has h y = false → look (lsLeast fs h mine) f.1 ≤ look (lsLeast fs h mine) y := by
  obtain ⟨a1, a2, a3, a4⟩ := iter_ok k (2 * (mine.foldl sdf h).length + 1)
  have pos : ∀ {l : List (Str × Int)}, LsOk2 fs h l → ∀ p ∈ l, 0 ≤ p.2 ∧ p.2 ≤ 2 := fun k p hp => by
    have e := look_at k.nd hp
    rw [← e]
    exact k.lo _
  refine ⟨a1, a2, fun f hf y hy hn => ?_⟩
  have st : ∀ g ∈ fs, lsStep h (lsLeast fs h mine) g = lsLeast fs h mine := by
    rcases a4 with a4 | a4
    · exfalso
      have s0 := sum_le (pos k)
      have s1 := sum_le (pos a1)
      have hl := congrArg List.length a2
      rw [List.length_map, List.length_map] at hl
      rw [hl] at s1
      have : ((2 * (mine.foldl sdf h).length + 1 : Nat) : Int) = 2 * ((mine.foldl sdf h).length : Int) + 1 := by omega
      omega
    · exact a4
  have q := st f hf
  obtain ⟨x, t⟩ := f
  cases hy
  have e : lsStep h (lsLeast fs h mine) (x, .nm y) = if has h y = true then lsLeast fs h mine else dput (lsLeast fs h mine) y (max (look (lsLeast fs h mine) y) (look (lsLeast fs h mine) x)) := rfl
  rw [e, if_neg (by rw [hn]; decide)] at q
  have q2 := congrArg (fun l => look l y) q
  have q2 : look (dput (lsLeast fs h mine) y (max (look (lsLeast fs h mine) y) (look (lsLeast fs h mine) x))) y = look (lsLeast fs h mine) y := q2
  rw [look_dput, if_pos rfl] at q2
  show look (lsLeast fs h mine) x ≤ look (lsLeast fs h mine) y
  omega
/-- below the levels that let -/
theorem iter_le {fs : List Fl} {h l S : List (Str × Int)} (hs : ∀ f ∈ fs, ∀ y, f.2 = .nm y → look S f.1 ≤ look S y) (h0 : ∀ y, look l y ≤ look S y) : ∀ n : Nat, ∀ y, look (lsIter fs h n l) y ≤ look S y
  | 0 => h0
  | n + 1 => by
    have ih := iter_le (h := h) hs h0 n
    have key : ∀ {gs : List Fl} {m : List (Str × Int)}, (∀ g ∈ gs, g ∈ fs) → (∀ y, look m y ≤ look S y) → ∀ y, look (gs.foldl (lsStep h) m) y ≤ look S y := by
      intro gs
      induction gs with
      | nil => exact fun _ k => k
      | cons g gs ih2 =>
        intro m hg k
        rw [List.foldl_cons]
        refine ih2 (fun q hq => hg q (List.mem_cons_of_mem _ hq)) fun z => ?_
        obtain ⟨x, t⟩ := g
        cases t with
        | pg i => exact k z
        | nm y =>
          show look (if has h y = true then m else dput m y (max (look m y) (look m x))) z ≤ look S z
          split
          · exact k z
          · rw [look_dput]
            split
            · rename_i e
              subst e
              have a := hs (x, .nm z) (hg _ List.mem_cons_self) z rfl
              have b := k x
              have c := k z
              have a : look S x ≤ look S z := a
              omega
            · exact k z
    exact key (fun g hg => hg) ih
/-- without a trail both ways tell the same -/
theorem least_same {fs : List Fl} {h S : List (Str × Int)} {mine : List Str} (k : LsOk2 fs h (mine.foldl sdf h)) (nd : (h.map (·.1)).Nodup) (q1 : ∀ p ∈ h, ∀ f ∈ fs, Rc fs p.1 f.1 → dnH h p.2 f.2 = false) (q2 : ∀ y, look h y ≤ look S y) (q3 : ∀ p ∈ h, ∀ y, Rc fs p.1 y → p.2 ≤ look S y)
    (q4 : ∀ y, look S y = look h y ∨ ∃ p ∈ h, Rc fs p.1 y ∧ look S y = p.2) (y : Str) : look (lsLeast fs h mine) y = look S y := by
  obtain ⟨l1, l2, l3⟩ := least_ok k
  have h0 : ∀ y, 0 ≤ look h y := fun y => by
    have := (k.lo y).1
    rwa [sdfs_look] at this
  -- what is told stays
  have told : ∀ p ∈ h, ∀ y, Rc fs p.1 y → has h y = true → p.2 ≤ look h y := fun p hp y r hy => by
    cases r with
    | refl => rw [look_at nd hp]; exact Int.le_refl _
    | @step a y r1 r2 =>
      have e := q1 p hp _ r2 r1
      have e : (has h y && decide (look h y < p.2)) = false := e
      rw [hy, Bool.true_and] at e
      have := of_decide_eq_false e
      omega
  have ls : ∀ f ∈ fs, ∀ y, f.2 = .nm y → look S f.1 ≤ look S y := fun f hf y hy => by
    obtain ⟨x, t⟩ := f
    cases hy
    show look S x ≤ look S y
    rcases q4 x with e | ⟨p, p1, p2, p3⟩
    · unfold look at e
      cases c : look? h x with
      | none =>
        rw [c] at e
        have e : look S x = 0 := e
        have a := h0 y
        have b := q2 y
        omega
      | some v =>
        rw [c] at e
        have e : look S x = v := e
        have a := q3 (x, v) (look?_mem c) y (.step .refl hf)
        have a : v ≤ look S y := a
        omega
    · have a := q3 p p1 y (.step p2 hf)
      omega
  have le := iter_le (h := h) (n := 2 * (mine.foldl sdf h).length + 1) ls (l := mine.foldl sdf h) (fun z => by rw [sdfs_look]; exact q2 z) y
  have le : look (lsLeast fs h mine) y ≤ look S y := le
  -- along a way from a told name
  have ge : ∀ p ∈ h, ∀ y, Rc fs p.1 y → p.2 ≤ look (lsLeast fs h mine) y := fun p hp y r => by
    induction r with
    | refl =>
      rw [l1.told p.1 (has_iff.mpr (List.mem_map.mpr ⟨p, hp, rfl⟩)), look_at nd hp]
      exact Int.le_refl _
    | @step a y r1 r2 ih =>
      by_cases hy : has h y = true
      · rw [l1.told y hy]
        exact told p hp y (.step r1 r2) hy
      · exact Int.le_trans ih (l3 _ r2 y rfl (by simpa using hy))
  refine Int.le_antisymm le ?_
  rcases q4 y with e | ⟨p, p1, p2, p3⟩
  · rw [e]
    cases c : look? h y with
    | none =>
      have z : look h y = 0 := by unfold look; rw [c]; rfl
      rw [z]
      exact (l1.lo y).1
    | some v =>
      rw [l1.told y (has_iff.mpr (List.mem_map.mpr ⟨_, look?_mem c, rfl⟩))]
      exact Int.le_refl _
  · rw [p3]
    exact ge p p1 y p2
/-- a trail is told by the levels by hand, too -/
theorem least_bad {fs : List Fl} {h : List (Str × Int)} {mine : List Str} (k : LsOk2 fs h (mine.foldl sdf h)) (nd : (h.map (·.1)).Nodup) {p : Str × Int} {f : Fl} (hp : p ∈ h) (hf : f ∈ fs) (r : Rc fs p.1 f.1) (dn : dnH h p.2 f.2 = true) :
    ¬ ∀ g ∈ fs, look (lsLeast fs h mine) g.1 ≤ lvG (look (lsLeast fs h mine)) g.2 := fun all => by
  obtain ⟨l1, l2, l3⟩ := least_ok k
  have ge : ∀ y, Rc fs p.1 y → p.2 ≤ look (lsLeast fs h mine) y := fun y r => by
    induction r with
    | refl =>
      rw [l1.told p.1 (has_iff.mpr (List.mem_map.mpr ⟨p, hp, rfl⟩)), look_at nd hp]
      exact Int.le_refl _
    | step r1 r2 ih => exact Int.le_trans ih (all _ r2)
  have a := ge f.1 r
  have b := all f hf
  obtain ⟨x, t⟩ := f
  cases t with
  | nm y =>
    have dn : (has h y && decide (look h y < p.2)) = true := dn
    obtain ⟨d1, d2⟩ := Bool.and_eq_true_iff.mp dn
    have d2 := of_decide_eq_true d2
    have b : look (lsLeast fs h mine) x ≤ look (lsLeast fs h mine) y := b
    rw [l1.told y d1] at b
    have a : p.2 ≤ look (lsLeast fs h mine) x := a
    omega
  | pg i =>
    have dn : decide (i < p.2) = true := dn
    have d2 := of_decide_eq_true dn
    have b : look (lsLeast fs h mine) x ≤ i := b
    have a : p.2 ≤ look (lsLeast fs h mine) x := a
    omega
/-! what flows is named -/
mutual
theorem ga_allD : ∀ (d : Dd) (ar : List Str) (f : Fl), f ∈ gaD ar d → (f.1 ∈ ar ∨ f.1 ∈ allD d) ∧ ∀ y, f.2 = .nm y → y ∈ allD d
  | .put x t, ar, f, hf => by
    rw [gaD] at hf
    rw [allD]
    obtain ⟨n, hn, rfl⟩ := List.mem_map.mp hf
    exact ⟨(List.mem_append.mp hn).imp id (List.mem_cons_of_mem _), fun y e => by cases e; exact List.mem_cons_self⟩
  | .shw l t, ar, f, hf => by
    rw [gaD] at hf
    rw [allD]
    obtain ⟨n, hn, rfl⟩ := List.mem_map.mp hf
    exact ⟨List.mem_append.mp hn, fun y e => by cases e⟩
  | .ite t a b, ar, f, hf => by
    rw [gaD] at hf
    rw [allD]
    have key : ((f.1 ∈ ar ++ t.names) ∨ f.1 ∈ allL a ++ allL b) ∧ ∀ y, f.2 = .nm y → y ∈ allL a ++ allL b := by
      rcases List.mem_append.mp hf with q | q
      · obtain ⟨r1, r2⟩ := ga_allL a _ f q
        exact ⟨r1.imp id (List.mem_append_left _), fun y e => List.mem_append_left _ (r2 y e)⟩
      · obtain ⟨r1, r2⟩ := ga_allL b _ f q
        exact ⟨r1.imp id (List.mem_append_right _), fun y e => List.mem_append_right _ (r2 y e)⟩
    refine ⟨?_, fun y e => List.mem_append_right _ (key.2 y e)⟩
    rcases key.1 with q | q
    · exact (List.mem_append.mp q).imp id (List.mem_append_left _)
    · exact .inr (List.mem_append_right _ q)
  | .whl t a, ar, f, hf => by
    rw [gaD] at hf
    rw [allD]
    rcases List.mem_append.mp hf with q | q
    · obtain ⟨n, hn, rfl⟩ := List.mem_map.mp q
      exact ⟨(List.mem_append.mp hn).imp id (List.mem_append_left _), fun y e => by cases e⟩
    · obtain ⟨r1, r2⟩ := ga_allL a _ f q
      exact ⟨r1.imp id (List.mem_append_right _), fun y e => List.mem_append_right _ (r2 y e)⟩
theorem ga_allL : ∀ (b : List Dd) (ar : List Str) (f : Fl), f ∈ gaL ar b → (f.1 ∈ ar ∨ f.1 ∈ allL b) ∧ ∀ y, f.2 = .nm y → y ∈ allL b
  | [], ar, f, hf => by rw [gaL] at hf; cases hf
  | d :: r, ar, f, hf => by
    rw [gaL] at hf
    rw [allL]
    rcases List.mem_append.mp hf with q | q
    · obtain ⟨r1, r2⟩ := ga_allD d ar f q
      exact ⟨r1.imp id (List.mem_append_left _), fun y e => List.mem_append_left _ (r2 y e)⟩
    · obtain ⟨r1, r2⟩ := ga_allL r ar f q
      exact ⟨r1.imp id (List.mem_append_right _), fun y e => List.mem_append_right _ (r2 y e)⟩
end
theorem flow_named {b : List Dd} {f : Fl} (hf : f ∈ flowsS b) : f.1 ∈ allL b ∧ ∀ y, f.2 = .nm y → y ∈ allL b := by
  obtain ⟨r1, r2⟩ := ga_allL b [] f (mem_flows.mp hf)
  exact ⟨r1.elim (fun z => by cases z) id, r2⟩
/-- the names that have to do with a flow -/
def mineS (nm : List Str) (fs : List Fl) : List Str := nm.filter fun x => !(fs.filter fun f => decide (x = f.1) || decide (Tg.nm x = f.2)).isEmpty
theorem mem_mine {nm : List Str} {fs : List Fl} {x : Str} : x ∈ mineS nm fs ↔ x ∈ nm ∧ ∃ f ∈ fs, x = f.1 ∨ Tg.nm x = f.2 := by
  unfold mineS
  rw [List.mem_filter]
  refine and_congr Iff.rfl ?_
  constructor
  · intro h
    cases c : (fs.filter fun f => decide (x = f.1) || decide (Tg.nm x = f.2)) with
    | nil => rw [c] at h; cases h
    | cons f r =>
      have hm : f ∈ fs.filter fun f => decide (x = f.1) || decide (Tg.nm x = f.2) := by rw [c]; exact List.mem_cons_self
      obtain ⟨m1, m2⟩ := List.mem_filter.mp hm
      refine ⟨f, m1, ?_⟩
      rcases Bool.or_eq_true_iff.mp m2 with q | q
      · exact .inl (of_decide_eq_true q)
      · exact .inr (of_decide_eq_true q)
  · rintro ⟨f, hf, q⟩
    have hm : f ∈ fs.filter fun f => decide (x = f.1) || decide (Tg.nm x = f.2) := List.mem_filter.mpr ⟨hf, by
      rcases q with q | q
      · rw [decide_eq_true q]; rfl
      · rw [decide_eq_true q, Bool.or_true]⟩
    cases c : (fs.filter fun f => decide (x = f.1) || decide (Tg.nm x = f.2)) with
    | nil => rw [c] at hm; cases hm
    | cons f r => rfl
end Wk
/-! ### an own dict, shown for a term; its length -/
namespace Fx
open PySem PySem.Spec L2 Fw Wk Fv
def rLenD : List V → Hp → VK → Prop := fun xs H Q => ∃ (a : Addr) (kvs : List (Key × V)), xs = [V.ref a] ∧ H a = some (.dK kvs) ∧ Q (.int kvs.length) H
theorem cr_lenD {X : Cx} : CallR X (.builtin "len") rLenD := call_lenD
section
variable {K : PySem.W.Frag} {Γ : List Ds} {t : TE} {l : Lv} {i : Nat} {x : PyData}
theorem ev_lenDO (h : EvM K t Γ l) : Ev K (tCB rLenD (tCons t tNil)) Γ (.dat (.int (l.length : Nat))) := fun G0 H0 G H σ E Q q =>
  h G0 H0 G H σ E _ fun a G1 H1 e1 ha => ⟨a, _, rfl, ha, by rw [kvl_len]; exact q _ G1 H1 e1 (.int _)⟩
mutual
theorem dr_rmvD {G : Hp} {d : Addr} {kvs : List (Key × V)} (hd : G d = some (.dK kvs)) : ∀ (x : PyData) (v : V), Dr G v x → Dr (rmv G d) v x
  | .none, _, h => by cases h; exact .non
  | .bool b, _, h => by cases h; exact .bl b
  | .int i, _, h => by cases h; exact .int i
  | .str x, _, h => by cases h; exact .str x
  | .list ds, _, h => by
    cases h with
    | @lst a vs _ ha hs =>
      have ne : a ≠ d := by
        rintro rfl
        rw [ha] at hd
        cases hd
      exact .lst (by rw [rmv_ne ne]; exact ha) (drs_rmvD hd ds _ hs)
  | .tuple ds, _, h => by
    cases h with
    | @tup a vs _ ha hs =>
      obtain ⟨o, h1, h2⟩ := ha
      have ne : a ≠ d := by
        rintro rfl
        rw [h1] at hd
        cases hd
      exact .tup ⟨o, by rw [rmv_ne ne]; exact h1, h2⟩ (drs_rmvD hd ds _ hs)
  | .dict _, _, h => by cases h
theorem drs_rmvD {G : Hp} {d : Addr} {kvs : List (Key × V)} (hd : G d = some (.dK kvs)) : ∀ (xs : List PyData) (vs : List V), DrAll G vs xs → DrAll (rmv G d) vs xs
  | [], _, h => by cases h; exact .nil
  | x :: xs, _, h => by
    cases h with
    | cons h1 h2 => exact .cons (dr_rmvD hd x _ h1) (drs_rmvD hd xs _ h2)
end
/-- an own dict is shown while a term is reckoned, and hidden again -/
theorem ev_showO (hi : Γ[i]? = some (.ownD l)) (h : Ev K t (Γ.set i (.dic l)) (.dat x)) : Ev K t Γ (.dat x) := fun G0 H0 G H σ E Q q => by
  obtain ⟨a, h1, h2, h4, h5⟩ := E.ownD hi
  have sG : Same G (upd G a (.dK (kvl l))) := same_up h4
  have E' : En K G0 H0 (upd G a (.dK (kvl l))) H σ (Γ.set i (.dic l)) := by
    refine ⟨⟨E.x.g.trans sG, E.x.h, fun b u e => ?_, fun b q1 q2 => ?_⟩, by rw [List.length_set]; exact E.l, fun j F hj => ?_, fun j k F F' b k1 k2 k3 k4 k5 k6 => ?_⟩
    · unfold upd at e
      split at e
      · rename_i hb
        subst hb
        rw [h2]
        exact e
      · exact E.s b u e
    · have e : b ≠ a := by
        rintro rfl
        exact q1 h5
      rw [upd_ne e]
      exact E.x.n b q1 q2
    · by_cases hij : i = j
      · subst hij
        have hl : i < Γ.length := (List.getElem?_eq_some_iff.mp hi).1
        rw [List.getElem?_set_self hl] at hj
        cases hj
        exact ⟨_, h1, a, rfl, upd_same⟩
      · rw [List.getElem?_set_ne hij] at hj
        obtain ⟨ov, q1, q2⟩ := E.ok j F hj
        refine ⟨ov, q1, ?_⟩
        have ne : ∀ b, isOwn F = true → ov = some (.ref b) → b ≠ a := fun b hF e1 e => by
          subst e
          subst e1
          exact hij (E.ap i j _ _ b hi rfl hj hF h1 q1)
        cases F with
        | any => trivial
        | dat d => obtain ⟨v, e1, e2⟩ := q2; exact ⟨v, e1, e2.up sG⟩
        | dic l => obtain ⟨b, e1, e2⟩ := q2; exact ⟨b, e1, sG _ _ e2⟩
        | scr ns => obtain ⟨b, e1, e2⟩ := q2; exact ⟨b, e1, sG.seq e2⟩
        | val v => exact q2
        | fix v Gx => exact ⟨q2.1, q2.2.trans sG⟩
        | own es =>
          obtain ⟨b, ws, e1, e2, e3, e4, e5⟩ := q2
          exact ⟨b, ws, e1, e2, e3.up sG, by rw [upd_ne (ne b rfl e1)]; exact e4, e5⟩
        | ownD l =>
          obtain ⟨b, e1, e2, e4, e5⟩ := q2
          exact ⟨b, e1, e2, by rw [upd_ne (ne b rfl e1)]; exact e4, e5⟩
    · have key : ∀ c F, (Γ.set i (.dic l))[c]? = some F → isOwn F = true → Γ[c]? = some F := fun c F hc ho => by
        by_cases hic : i = c
        · subst hic
          have hl : i < Γ.length := (List.getElem?_eq_some_iff.mp hi).1
          rw [List.getElem?_set_self hl] at hc
          cases hc
          cases ho
        · rwa [List.getElem?_set_ne hic] at hc
      exact E.ap j k F F' b (key j F k1 k2) k2 (key k F' k3 k4) k4 k5 k6
  refine h G0 H0 _ H σ E' _ fun v G' H' e hv => ?_
  have gd : G' a = some (.dK (kvl l)) := e.g _ _ upd_same
  refine q v (rmv G' a) H' ⟨fun b u z => ?_, e.h, fun b u z => ?_, fun b z1 z2 => ?_⟩ (dr_rmvD gd _ _ hv)
  · have ne : b ≠ a := ne_of_none z h4
    rw [rmv_ne ne]
    exact e.g b u (sG b u z)
  · by_cases hb : b = a
    · subst hb
      unfold rmv at z
      rw [if_pos rfl] at z
      cases z
    · rw [rmv_ne hb] at z
      exact e.i b u z
  · by_cases hb : b = a
    · unfold rmv
      rw [if_pos hb]
    · rw [rmv_ne hb]
      exact e.n b z1 (by rw [upd_ne hb]; exact z2)
end
end Fx
/-! ### the house of this law; trails are short; where raising begins -/
namespace Wk
open PySem PySem.Spec L2 Fw Fn Fv
def pairsS (ns : List Int) : List (Str × Int) := if cell ns 6 % 2 = 0 then (nmS ns).zip (lvS ns) else (List.range 4).map fun (k : Nat) => (nameAt (nmS ns) (k : Int), mix (cell ns 6 + 7 * (k : Int)) 9803 3)
def pick (g : Int → Bool) (ps : List (Str × Int)) : List (Str × Int) := ((List.range ps.length).filter fun (i : Nat) => g (i : Int)).map fun i => ps.getD i (Str.empty, 0)
theorem range_getD {α : Type} (ps : List α) (z : α) : ((List.range ps.length).map fun i => ps.getD i z) = ps := by
  apply List.ext_getElem?
  intro i
  rw [List.getElem?_map]
  by_cases hi : i < ps.length
  · rw [List.getElem?_range hi, List.getElem?_eq_getElem hi, Option.map_some, List.getD_eq_getElem?_getD, List.getElem?_eq_getElem hi]
    rfl
  · rw [List.getElem?_eq_none (by rw [List.length_range]; omega), List.getElem?_eq_none (by omega)]
    rfl
theorem pick_sub (g : Int → Bool) (ps : List (Str × Int)) : (pick g ps).Sublist ps := by
  have h : (((List.range ps.length).filter fun (i : Nat) => g (i : Int)).map fun i => ps.getD i (Str.empty, 0)).Sublist ((List.range ps.length).map fun i => ps.getD i (Str.empty, 0)) := List.filter_sublist.map _
  rwa [range_getD] at h
def pickF (g : Int → Bool) : PyData → Bool := fun d => match d with | .tuple [.int k, _] => g k | _ => false
def pickV : PyData → PyData := fun d => match d with | .tuple [_, e] => e | _ => .none
theorem pick_enum (g : Int → Bool) (ps : List (Str × Int)) : ((enumD (ps.map encP)).filter (pickF g)).map pickV = (pick g ps).map encP := by
  unfold enumD pick
  rw [List.filter_map, List.map_map, List.map_map, List.length_map]
  have e : ((List.range ps.length).filter (pickF g ∘ fun (i : Nat) => PyData.tuple [.int (i : Nat), (ps.map encP).getD i .none])) = (List.range ps.length).filter fun (i : Nat) => g (i : Int) := List.filter_congr fun i _ => rfl
  rw [e]
  refine List.map_congr_left fun i hi => ?_
  have hi := List.mem_range.mp (List.mem_filter.mp hi).1
  show (ps.map encP).getD i .none = encP (ps.getD i (Str.empty, 0))
  rw [List.getD_eq_getElem?_getD, List.getD_eq_getElem?_getD, List.getElem?_map, List.getElem?_eq_getElem hi]
  rfl
def wholeS (ns : List Int) : List (Str × Int) := upP (pick (fun k => decide (mix (cell ns 7 + k) 9787 3 > 0)) (pairsS ns))
theorem pairs_keys (ns : List Int) : (pairsS ns).map (·.1) = nmS ns := by
  unfold pairsS
  split
  · exact zip_keys ns
  · rw [List.map_map]
    have e : nmS ns = (List.range 4).map fun k => nameS (cell ns 0) k := rfl
    rw [e]
    refine List.map_congr_left fun k hk => ?_
    exact nameAt_nmS (List.mem_range.mp hk)
theorem pairs_len (ns : List Int) : (pairsS ns).length = 4 := by
  have h := congrArg List.length (pairs_keys ns)
  rwa [List.length_map, nmS_len] at h
theorem pairs_ok (ns : List Int) : ∀ p ∈ pairsS ns, p.1 ∈ nmS ns ∧ 0 ≤ p.2 ∧ p.2 ≤ 2 := fun p hp => by
  refine ⟨by rw [← pairs_keys ns]; exact List.mem_map.mpr ⟨p, hp, rfl⟩, ?_⟩
  unfold pairsS at hp
  split at hp
  · exact (plan_ok ns).lo _ (List.of_mem_zip (a := p.1) (b := p.2) hp).2
  · obtain ⟨k, _, rfl⟩ := List.mem_map.mp hp
    exact ⟨mix_lo _ (by omega), by have := mix_hi (cell ns 6 + 7 * (k : Int)) (p := 9803) (m := 3) (by omega); show mix _ _ _ ≤ 2; omega⟩
theorem whole_ok (ns : List Int) : HouseOk (nmS ns) (wholeS ns) := up_house (by
  have h : ((pairsS ns).map (·.1)).Nodup := by rw [pairs_keys]; exact nmS_nodup ns
  exact List.Pairwise.sublist ((pick_sub _ _).map _) h) fun p hp => pairs_ok ns p ((pick_sub _ _).subset hp)
theorem pick_len (g : Int → Bool) (ns : List Int) : (pick g (pairsS ns)).length ≤ 4 := by
  rw [← pairs_len ns]
  exact (pick_sub _ _).length_le
theorem whole_len (ns : List Int) : (wholeS ns).length ≤ 4 := by
  unfold wholeS
  rw [(upP_perm _).length_eq]
  exact pick_len _ ns
/-! trails are short -/
theorem trF_len : ∀ (n : Nat) (cm : Cm) (x : Str) (acc : List Str), (trF n cm x acc).length ≤ n + acc.length
  | 0, cm, x, acc => by rw [Nat.zero_add]; exact Nat.le_refl _
  | n + 1, cm, x, acc => by
    unfold trF
    split
    · rename_i y _
      have := trF_len n cm y (y :: acc)
      rw [List.length_cons] at this
      omega
    · omega
theorem wkF_len {fs : List Fl} {dn : Tg → Bool} {x0 : Str} {ps S : List Str} {t : Tg} (h0 : x0 ∈ S) (hS : ∀ f ∈ fs, ∀ y, f.2 = .nm y → y ∈ S) : ∀ (n a : Nat) {cm : Cm}, CmB fs x0 cm → wkF fs dn n a cm = .trail ps t → ps.length ≤ S.length + 1
  | 0, a, cm, h, e => by cases e
  | n + 1, a, cm, h, e => by
    have e : (match (cm.map (fun p : Str × Option Str => p.1))[a]? with | none => WR.names (cm.map (fun p : Str × Option Str => p.1)) | some x => match inn x dn fs cm with | .inl (f, c) => .trail (trl c f.1) f.2 | .inr c => wkF fs dn n (a + 1) c) = .trail ps t := e
    cases hx : (cm.map (·.1))[a]? with
    | none => rw [hx] at e; cases e
    | some x =>
      rw [hx] at e
      have xm := List.mem_of_getElem? hx
      have e : (match inn x dn fs cm with | .inl (f, c) => WR.trail (trl c f.1) f.2 | .inr c => wkF fs dn n (a + 1) c) = .trail ps t := e
      cases hi : inn x dn fs cm with
      | inl q =>
        rw [hi] at e
        obtain ⟨f, c⟩ := q
        obtain ⟨i1, i2, i3, gs, i4, i5⟩ := inn_inl hi
        have e : WR.trail (trl c f.1) f.2 = .trail ps t := e
        cases e
        have ck : CmB fs x0 c := by rw [i5]; exact fold_ok h xm i4
        have q := ck.len h0 hS
        have := trF_len c.length c f.1 [f.1]
        unfold trl
        rw [List.length_cons, List.length_nil] at this
        omega
      | inr c =>
        rw [hi] at e
        obtain ⟨i1, _⟩ := inn_inr hi
        exact wkF_len h0 hS n (a + 1) (by rw [i1]; exact fold_ok h xm fun g hg => hg) e
theorem wk_len {fs : List Fl} {dn : Tg → Bool} {x : Str} {ps S : List Str} {t : Tg} (h0 : x ∈ S) (hS : ∀ f ∈ fs, ∀ y, f.2 = .nm y → y ∈ S) (h : wk fs dn x = .trail ps t) : ps.length ≤ S.length + 1 := wkF_len h0 hS 100 0 .one h
/-! where raising begins -/
theorem ls_start {nm : List Str} {b : List Dd} {h : List (Str × Int)} (ok : okL nm b) (o : HouseOk nm h) : LsOk2 (flowsS b) h ((mineS nm (flowsS b)).foldl sdf h) := by
  have lk : LvOk nm ((mineS nm (flowsS b)).foldl sdf h) := sdf_fold ⟨rising_nodup o.ri, fun y hy => by
    obtain ⟨p, hp, rfl⟩ := List.mem_map.mp hy
    exact o.nm p hp⟩ fun x hx => (mem_mine.mp hx).1
  refine ⟨lk.nd, fun f hf => ?_, fun y => by rw [sdfs_look]; exact house_look o y, fun y _ => sdfs_look⟩
  obtain ⟨a1, a2⟩ := allF_ok (ga_in ok f (mem_flows.mp hf))
  exact ⟨sdfs_keys.mpr (.inr (mem_mine.mpr ⟨a1, f, hf, .inl rfl⟩)), fun y hy => sdfs_keys.mpr (.inr (mem_mine.mpr ⟨a2 y hy, f, hf, .inr hy.symm⟩))⟩
theorem eqv_goal (x : Str) (t : Tg) : PyData.eqv (.tuple [.str "name", .str x]) (encG t) = decide (Tg.nm x = t) := by
  cases t with
  | nm y =>
    by_cases e : x = y
    · subst e
      simp [encG, PyData.eqv, PyData.eqvAll]
    · have e2 : ¬ Tg.nm x = Tg.nm y := fun q => e (Tg.nm.inj q)
      simp [encG, PyData.eqv, PyData.eqvAll, e]
  | pg i => simp [encG, PyData.eqv, PyData.eqvAll]
/-! what is told -/
theorem told_keys {b : List Dd} {h L : List (Str × Int)} (nd : (L.map (·.1)).Nodup) (q : ∀ y, y ∈ L.map (·.1) ↔ y ∈ h.map (·.1) ∨ y ∈ Ft.upX (allL b) ∨ ∃ p ∈ h, Rc (flowsS b) p.1 y) : upS ((upP L).map (·.1)) = Ft.upX (Ft.upX (allL b) ++ h.map (·.1)) := by
  have mnd : ((upP L).map (·.1)).Nodup := ((upP_perm L).map (·.1)).nodup_iff.mpr nd
  refine risS_ext (upS_ris mnd) (Ft.upX_ris _) fun z => ?_
  rw [(upS_perm _).mem_iff, Ft.mem_upX, List.mem_append, upP_keys, q]
  constructor
  · rintro (a | a | ⟨p, hp, r⟩)
    · exact .inr a
    · exact .inl a
    · cases r with
      | refl => exact .inr (List.mem_map.mpr ⟨p, hp, rfl⟩)
      | @step a z r1 r2 => exact .inl (Ft.mem_upX.mpr ((flow_named r2).2 z rfl))
  · rintro (a | a)
    · exact .inr (.inl a)
    · exact .inl a
theorem told_in {nm : List Str} {b : List Dd} {h L : List (Str × Int)} (st : LsOk2 (flowsS b) h ((mineS nm (flowsS b)).foldl sdf h)) (q : ∀ y, y ∈ L.map (·.1) ↔ y ∈ h.map (·.1) ∨ y ∈ Ft.upX (allL b) ∨ ∃ p ∈ h, Rc (flowsS b) p.1 y) {x : Str} (hx : x ∈ (lsLeast (flowsS b) h (mineS nm (flowsS b))).map (·.1)) : x ∈ (upP L).map (·.1) := by
  rw [(least_ok st).2.1] at hx
  rw [upP_keys, q]
  rcases sdfs_keys.mp hx with a | a
  · exact .inl a
  · obtain ⟨_, f, hf, e⟩ := mem_mine.mp a
    refine .inr (.inl (Ft.mem_upX.mpr ?_))
    rcases e with e | e
    · rw [e]
      exact (flow_named hf).1
    · exact (flow_named hf).2 x e.symm
theorem not_has {l : List (Str × Int)} {x : Str} (h : has l x = false) : look l x = 0 := by
  unfold look
  cases c : look? l x with
  | none => rfl
  | some v =>
    rw [has_iff.mpr (List.mem_map.mpr ⟨_, look?_mem c, rfl⟩)] at h
    cases h
theorem told_same {L : List (Str × Int)} (nd : (L.map (·.1)).Nodup) : upP (Ft.ddp (upP L)) = upP L := by
  have mnd : ((upP L).map (·.1)).Nodup := ((upP_perm L).map (·.1)).nodup_iff.mpr nd
  have n1 : (upP L).Nodup := (List.pairwise_map.mp mnd).imp fun h e => h (by rw [e])
  exact Fp.upP_same (((List.perm_ext_iff_of_nodup (Ft.ddp_nodup _) n1).mpr fun f => Ft.mem_ddp).trans (upP_perm L))
theorem told_few {nm : List Str} {L : List (Str × Int)} (lk : LvOk nm L) : (upP L).length ≤ nm.length ∧ (Ft.ddp (upP L)).length ≤ nm.length := by
  have a : (upP L).length ≤ nm.length := by
    rw [(upP_perm L).length_eq]
    exact lk.len
  exact ⟨a, Nat.le_trans (Ft.nodup_len (Ft.ddp_nodup _) fun f hf => Ft.mem_ddp.mp hf) a⟩
end Wk
open PySem PySem.Spec L2 Fw Wk Fn Fv
local macro_rules | `(tactic| walk_at "ev") => `(tactic| first
  | exact ev_var rfl rfl
  | exact ev_cint | exact ev_cstr | exact ev_cbl | exact ev_cnon
  | exact eva_nil | exact evd_nil | exact evo_none | exact evt_yes
  | apply ev_mulR | apply ev_mulL | apply ev_modC | apply ev_iI0 | apply ev_bI0 | apply ev_iI
  | apply ev_eq | apply ev_ne
  | apply evt_test | apply evt_B | apply evt_not
  | apply eva_cons | apply evd_cons | apply evo_some
  | apply ev_call | apply ev_tup | apply ev_lst
  | apply ev_len (ev_var rfl rfl) len_scr | apply ev_len (ev_var rfl rfl) len_list | apply ev_len (ev_var rfl rfl) len_tup | apply ev_len (ev_var rfl rfl) (len_str ?_) | exact ev_lenO rfl
  | apply ev_ixR (ev_var rfl rfl) | apply ev_ixT
  | exact evs_own rfl | apply evs_dat
  | apply ev_tupL | apply ev_max2 | apply ev_intB
  | apply ev_slS | apply ev_addStr | apply ev_join
  | exact pr_cell rfl (by assumption) | exact pr_mix rfl rfl | exact pr_names (by assumption) | exact pr_levels (by assumption) | exact pr_prog (by assumption) | exact pr_store rfl (by assumption)
  | exact rfl)
namespace Wk
def topS (i : Nat) : Stmt := PySem.Challenge.pw_whisperwall_k07_whole_levels_or_a_trail.main.body.getD i (.Pass ⟨0, 0, 0, 0⟩)
/-! ### cells, names, levels -/
abbrev st_l_cell : Stmt := topS 13
abbrev N_l_cell : List Str := ["_law_script", "_law_k"]
abbrev P_l_cell : List Str := ["_law_script", "_law_k"]
theorem sc_l_cell : FnScope N_l_cell P_l_cell (defScope st_l_cell) := ⟨rfl, rfl, rfl, by decide +kernel, rfl, by decide +kernel, by decide +kernel⟩
abbrev st_l_mix : Stmt := topS 14
abbrev N_l_mix : List Str := ["_law_cell_here", "_law_prime", "_law_many"]
abbrev P_l_mix : List Str := ["_law_cell_here", "_law_prime", "_law_many"]
theorem sc_l_mix : FnScope N_l_mix P_l_mix (defScope st_l_mix) := ⟨rfl, rfl, rfl, by decide +kernel, rfl, by decide +kernel, by decide +kernel⟩
abbrev st_l_name : Stmt := topS 15
abbrev N_l_name : List Str := ["_law_script", "_law_k", "_law_letters", "_law_seed", "_law_sign", "_law_tail", "_law_at", "_law_j"]
abbrev P_l_name : List Str := ["_law_script", "_law_k"]
theorem sc_l_name : FnScope N_l_name P_l_name (defScope st_l_name) := ⟨rfl, rfl, rfl, by decide +kernel, rfl, by decide +kernel, by decide +kernel⟩
abbrev st_l_names : Stmt := topS 16
abbrev N_l_names : List Str := ["_law_script", "_law_k"]
abbrev P_l_names : List Str := ["_law_script"]
theorem sc_l_names : FnScope N_l_names P_l_names (defScope st_l_names) := ⟨rfl, rfl, rfl, by decide +kernel, rfl, by decide +kernel, by decide +kernel⟩
abbrev st_l_levels : Stmt := topS 17
abbrev N_l_levels : List Str := ["_law_script"]
abbrev P_l_levels : List Str := ["_law_script"]
theorem sc_l_levels : FnScope N_l_levels P_l_levels (defScope st_l_levels) := ⟨rfl, rfl, rfl, by decide +kernel, rfl, by decide +kernel, by decide +kernel⟩
section
variable {P : Program} {w : World} {K : PySem.W.Frag} {mg : Str → Option Value} {base : Heap}
theorem d_cell (F : Fnd K mg "_law_cell" st_l_cell P_l_cell) (hB : Blt mg) : Dfn P w K mg base "_law_cell" 1 P_l_cell (spP K PrCell) := by
  refine F.pure sc_l_cell (fun xs d ⟨_, _, h, _⟩ => by subst h; rfl) fun f cdv A outer s H E hr => ⟨_, (pss_cons (ps_if (pt_cmpR op_lt (pv 1) (pe_callB (k_len K rfl) (by rfl) hB.len (by decide +kernel) (pa_cons (pv 0) pa_nil)) (nomark _)) (pss_one (ps_ret (pe_ix (k_ixL K rfl) (pv 0) (pv 1) (fun _ _ => rfl)))) pss_nil)
      (pss_one (ps_ret pe_int))), ?_⟩
  rintro xs d ⟨ns, k, rfl, h0, h63, rfl⟩
  refine do_ifs (b := decide (k < (ns.length : Nat))) ?_ (fun hb => do_stop (do_ret (x := .dat (.int (cell ns k.toNat))) ?_ rfl)) fun hb => do_skip (do_ret (x := .dat (.int 0)) ?_ ?_)
  all_goals repeat' walk_at "ev"
  · have q := atI_nat (cell_lt (ns := ns) (k := k.toNat) (by have := of_decide_eq_true hb; omega))
    rwa [Int.toNat_of_nonneg h0] at q
  · rw [cell_ge (by have := of_decide_eq_false hb; omega)]
theorem d_mix (F : Fnd K mg "_law_mix" st_l_mix P_l_mix) : Dfn P w K mg base "_law_mix" 1 P_l_mix (spP K PrMix) := by
  refine F.pure sc_l_mix (fun xs d ⟨_, _, _, h, _⟩ => by subst h; rfl) fun f cdv A outer s H E hr => ⟨_, (pss_one (ps_ret (pe_op op_mod (pe_op op_mod (pe_op op_mul (pv 0) pe_int) (pv 1)) (pv 2)))), ?_⟩
  rintro xs d ⟨c, p, m, rfl, hp, hm, rfl⟩
  refine do_ret (x := .dat (.int (mix c p m))) ?_ rfl
  repeat' walk_at "ev"
  · exact hp
  · exact hm
theorem d_name (F : Fnd K mg "_law_name" st_l_name P_l_name) (hB : Blt mg) (D_l_cell : Dfn P w K mg base "_law_cell" 1 P_l_cell (spP K PrCell)) (D_l_mix : Dfn P w K mg base "_law_mix" 1 P_l_mix (spP K PrMix)) :
    Dfn P w K mg base "_law_name" 2 P_l_name (spP K PrName) := by
  refine F.pure sc_l_name (fun xs d ⟨_, _, h, _⟩ => by subst h; rfl) fun f cdv A outer s H E hr => ⟨_, (pss_cons (ps_set (i := 2) sc_l_name.nd rfl (by first | exact Or.inl rfl | exact Or.inr rfl) pe_str)
      (pss_cons (ps_set (i := 3) sc_l_name.nd rfl (by first | exact Or.inl rfl | exact Or.inr rfl) (pe_callD D_l_cell (hr.mono (by omega)) (by rfl) (pa_cons (pv 0) (pa_cons pe_int pa_nil))))
      (pss_cons (ps_set (i := 4) sc_l_name.nd rfl (by first | exact Or.inl rfl | exact Or.inr rfl) (pe_ix ix_str (pv 2) (pe_op op_mod (pe_op op_add (pe_callD D_l_mix (hr.mono (by omega)) (by rfl) (pa_cons (pv 3) (pa_cons pe_int (pa_cons pe_int pa_nil)))) (pe_op op_mul pe_int (pv 1))) pe_int) (fun _ _ => rfl)))
      (pss_cons (ps_set (i := 5) sc_l_name.nd rfl (by first | exact Or.inl rfl | exact Or.inr rfl) (k_join K rfl pe_str (pe_lc (own := [("_law_j", 7)]) (g := (gName 7)) (tt := tYes) (by rfl) sc_l_name.nd (pi_range1 (by rfl) hB.range (pa_cons (pe_callD D_l_mix (hr.mono (by omega)) (by rfl) (pa_cons (pv 3) (pa_cons pe_int (pa_cons pe_int pa_nil)))) pa_nil)) (blkOk_by (own := [("_law_j", 7)]) (N := N_l_name) (sc := defScope st_l_name) (by decide +kernel)) (fun _ _ _ _ _ => (pg_name (i := 7) sc_l_name.nd rfl (by first | exact Or.inl rfl | exact Or.inr rfl))) (fun _ _ _ _ _ => pts_nil) (fun _ _ _ _ _ => (pe_ix ix_str (pv 2) (pe_callD D_l_mix (hr.mono (by omega)) (by rfl) (pa_cons (pe_op op_add (pv 3) (pe_op op_mul pe_int (pv 7))) (pa_cons pe_int (pa_cons pe_int pa_nil)))) (fun _ _ => rfl))))))
      (pss_cons (ps_set (i := 6) sc_l_name.nd rfl (by first | exact Or.inl rfl | exact Or.inr rfl) (pe_callD D_l_mix (hr.mono (by omega)) (by rfl) (pa_cons (pv 3) (pa_cons pe_int (pa_cons (pe_op op_add (pe_callB (k_len K rfl) (by rfl) hB.len (by decide +kernel) (pa_cons (pv 5) pa_nil)) pe_int) pa_nil)))))
      (pss_one (ps_ret (pe_op op_addStr (pe_op op_addStr (pe_slice sl_str (pv 5) po_none (po_some (pv 6))) (pv 4)) (pe_slice sl_str (pv 5) (po_some (pv 6)) po_none))))))))), ?_⟩
  rintro xs d ⟨ns, k, rfl, h63, hk, rfl⟩
  have m26 : ∀ c p, 0 ≤ mix c p 26 ∧ mix c p 26 < 26 := fun c p => ⟨mix_lo c (by omega), mix_hi c (by omega)⟩
  have hs : 0 ≤ mix (cell ns 0) 9931 3 ∧ mix (cell ns 0) 9931 3 < 3 := ⟨mix_lo _ (by omega), mix_hi _ (by omega)⟩
  have hat := tailAt_le (cell ns 0)
  have htl := tailC_le (cell ns 0)
  refine do_seq (do_asg (x := .dat (.str abc)) ev_cstr) (do_seq (do_asg (x := .dat (.int (cell ns 0))) ?_) (do_seq (do_asg (x := .dat (.str (Sg [signC (cell ns 0) k]))) ?_)
    (do_seq (do_asg (x := .dat (.str (Sg (tailC (cell ns 0))))) ?_) (do_seq (do_asg (x := .dat (.int (tailAt (cell ns 0) : Nat))) ?_) (do_ret (x := .dat (.str (nameS (cell ns 0) k))) ?_ rfl)))))
  · repeat' walk_at "ev"
  · refine ev_ixS (i := (mix (cell ns 0) 9949 26 + 5 * (k : Int)) % 26) (c := signC (cell ns 0) k) (ev_var rfl rfl) ?_ (by rw [abc_len]; decide) (abc_at (by omega) (by omega))
    repeat' walk_at "ev"
  · refine ev_is (d := .str (Txt.join "" ((tailC (cell ns 0)).map fun c => Sg [c]))) ?_ (by rw [sg_join])
    refine ev_join ev_cstr (evs_dat (ev_is (ev_lcM (fun d => match d with | .int j => .str (Sg [97 + (mix (cell ns 0 + 3 * j) 9941 26).toNat]) | _ => .none) (evi_range1 (n := mix (cell ns 0) 9931 3) ?_ (by omega) (by omega)) ?_ fun i d hd => ?_) ?_)) ?_
    · repeat' walk_at "ev"
    · rw [rangeD_len]; omega
    · have hi : i < (mix (cell ns 0) 9931 3).toNat := by
        have := (List.getElem?_eq_some_iff.mp hd).1
        rwa [rangeD_len] at this
      rw [rangeD_get hi] at hd
      cases hd
      refine ⟨_, _, evg_name, by decide, ?_⟩
      refine ev_ixS (i := mix (cell ns 0 + 3 * (0 + (i : Int))) 9941 26) (c := 97 + (mix (cell ns 0 + 3 * (0 + (i : Int))) 9941 26).toNat) (ev_var rfl rfl) ?_ (by rw [abc_len]; decide) (abc_at (m26 _ _).1 (m26 _ _).2)
      repeat' walk_at "ev"
    · unfold rangeD tailC
      simp only [List.map_map, PyData.list.injEq]
      refine List.map_congr_left fun j _ => ?_
      simp only [Function.comp, Int.zero_add]
    · rw [List.map_map, List.length_map]
      show ((tailC (cell ns 0)).map (fun c => (Sg [c]).length)).sum + _ * 0 ≤ _
      rw [show (fun c => (Sg [c]).length) = fun _ => 1 from funext fun c => sg_len [c]]
      have : ∀ l : List Nat, (l.map fun _ => 1).sum = l.length := fun l => by
        induction l with
        | nil => rfl
        | cons a l ih => rw [List.map_cons, List.sum_cons, ih, List.length_cons]; omega
      rw [this]
      omega
  · repeat' walk_at "ev"
    · rw [sg_len]
      exact Nat.le_trans htl (by decide)
    · refine ⟨_, 9929, _, rfl, by decide, by omega, ?_⟩
      unfold tailAt
      rw [sg_len]
      have := mix_lo (cell ns 0) (p := 9929) (m := ((tailC (cell ns 0)).length + 1 : Int)) (by omega)
      exact congrArg PyData.int (by omega)
  · refine ev_is (ev_addStr (ev_addStr (ev_slS (ev_var rfl rfl) evo_none (evo_some (ev_var rfl rfl)) ?_) (ev_var rfl rfl) ?_) (ev_slS (ev_var rfl rfl) (evo_some (ev_var rfl rfl)) evo_none ?_) ?_) ?_
    · rw [sg_len]
      exact Nat.le_trans htl (by decide)
    · rw [sg_cut_to _ _ hat, sg_len, sg_len, List.length_take]
      exact Nat.le_trans (m := 10) (by simp only [List.length_singleton]; omega) (by decide)
    · rw [sg_len]
      exact Nat.le_trans htl (by decide)
    · rw [sg_cut_to _ _ hat, sg_cut_from _ _ hat, sg_app, sg_len, sg_len, List.length_append, List.length_take, List.length_drop]
      exact Nat.le_trans (m := 10) (by simp only [List.length_singleton]; omega) (by decide)
    · rw [sg_cut_to _ _ hat, sg_cut_from _ _ hat, sg_app, sg_app]
      rfl
theorem d_names (F : Fnd K mg "_law_names" st_l_names P_l_names) (hB : Blt mg) (D_l_name : Dfn P w K mg base "_law_name" 2 P_l_name (spP K PrName)) : Dfn P w K mg base "_law_names" 3 P_l_names (spP K PrNames) := by
  refine F.pure sc_l_names (fun xs d ⟨_, h, _⟩ => by subst h; rfl) fun f cdv A outer s H E hr => ⟨_, (pss_one (ps_ret (pe_lc (own := [("_law_k", 1)]) (g := (gName 1)) (tt := tYes) (by rfl) sc_l_names.nd (pi_range1 (by rfl) hB.range (pa_cons pe_int pa_nil)) (blkOk_by (own := [("_law_k", 1)]) (N := N_l_names) (sc := defScope st_l_names) (by decide +kernel)) (fun _ _ _ _ _ => (pg_name (i := 1) sc_l_names.nd rfl (by first | exact Or.inl rfl | exact Or.inr rfl))) (fun _ _ _ _ _ => pts_nil) (fun _ _ _ _ _ => (pe_callD D_l_name (hr.mono (by omega)) (by rfl) (pa_cons (pv 0) (pa_cons (pv 1) pa_nil))))))), ?_⟩
  rintro xs d ⟨ns, rfl, h63, rfl⟩
  refine do_ret (x := .dat (.list ((namesS (cell ns 0)).map .str))) ?_ rfl
  refine ev_is (ev_lcM (fun d => match d with | .int j => .str (nameS (cell ns 0) j.toNat) | _ => .none) (evi_range1 ev_cint (by decide) (by decide)) (by decide) fun i d hd => ?_) ?_
  · have hi : i < 4 := by
      have := (List.getElem?_eq_some_iff.mp hd).1
      rwa [rangeD_len] at this
    cases (rangeD_get (lo := 0) hi).symm.trans hd
    refine ⟨_, _, evg_name, by decide, ?_⟩
    repeat' walk_at "ev"
    exact ⟨ns, i, by rw [Int.zero_add], h63, hi, by simp⟩
  · rfl
theorem d_levels (F : Fnd K mg "_law_levels" st_l_levels P_l_levels) (D_l_cell : Dfn P w K mg base "_law_cell" 1 P_l_cell (spP K PrCell)) (D_l_mix : Dfn P w K mg base "_law_mix" 1 P_l_mix (spP K PrMix)) :
    Dfn P w K mg base "_law_levels" 2 P_l_levels (spP K PrLevels) := by
  refine F.pure sc_l_levels (fun xs d ⟨_, h, _⟩ => by subst h; rfl) fun f cdv A outer s H E hr => ⟨_, (pss_one (ps_ret (pe_lst (pa_cons pe_int (pa_cons pe_int (pa_cons (pe_callD D_l_mix (hr.mono (by omega)) (by rfl) (pa_cons (pe_callD D_l_cell (hr.mono (by omega)) (by rfl) (pa_cons (pv 0) (pa_cons pe_int pa_nil))) (pa_cons pe_int (pa_cons pe_int pa_nil)))) (pa_cons (pe_callD D_l_mix (hr.mono (by omega)) (by rfl) (pa_cons (pe_callD D_l_cell (hr.mono (by omega)) (by rfl) (pa_cons (pv 0) (pa_cons pe_int pa_nil))) (pa_cons pe_int (pa_cons pe_int pa_nil)))) pa_nil))))))), ?_⟩
  rintro xs d ⟨ns, rfl, h63, rfl⟩
  refine do_ret (x := .dat (.list [.int 0, .int 2, .int (mix (cell ns 1) 9923 3), .int (mix (cell ns 1) 9907 3)])) ?_ rfl
  repeat' walk_at "ev"
end
/-! ### terms, deeds, blocks, programs -/
section
variable {P : Program} {w : World} {K : PySem.W.Frag} {mg : Str → Option Value} {base : Heap}
abbrev st_l_term : Stmt := topS 19
abbrev N_l_term : List Str := ["_law_names_here", "_law_seed", "_law_left", "_law_turn", "_law_one"]
abbrev P_l_term : List Str := ["_law_names_here", "_law_seed", "_law_left"]
theorem sc_l_term : FnScope N_l_term P_l_term (defScope st_l_term) := ⟨rfl, rfl, rfl, by decide +kernel, rfl, by decide +kernel, by decide +kernel⟩
theorem d_term (F : Fnd K mg "_law_term" st_l_term P_l_term) (D_l_mix : Dfn P w K mg base "_law_mix" 1 P_l_mix (spP K PrMix)) : ∀ n : Nat, Dfn P w K mg base "_law_term" (n + 1) P_l_term (spP K (PrTerm n))
  | 0 => F.never fun xs d ⟨_, _, _, _, _, h, _⟩ => absurd h (Nat.not_lt_zero _)
  | n + 1 => by
    have D_l_term := d_term F D_l_mix n
    refine F.pure sc_l_term (fun xs d ⟨_, _, _, h, _⟩ => by subst h; rfl) fun f cdv A outer s H E hr => ⟨_, (pss_cons (ps_set (i := 3) sc_l_term.nd rfl (by first | exact Or.inl rfl | exact Or.inr rfl) (pe_callD D_l_mix (hr.mono (by omega)) (by rfl) (pa_cons (pv 1) (pa_cons pe_int (pa_cons pe_int pa_nil)))))
      (pss_cons (ps_if (PW.pt (pw_or (pt_cmpR op_eq (pv 2) pe_int (nomark _)) (pw_or1 (pt_cmpR op_lt (pv 3) pe_int (nomark _))))) (pss_cons (ps_if (pt_cmpR op_eq (pe_op op_mod (pv 3) pe_int) pe_int (nomark _)) (pss_one (ps_ret (pf_tup (pa_cons pe_str (pa_cons (pe_callD D_l_mix (hr.mono (by omega)) (by rfl) (pa_cons (pv 1) (pa_cons pe_int (pa_cons pe_int pa_nil)))) pa_nil))))) pss_nil)
      (pss_one (ps_ret (pf_tup (pa_cons pe_str (pa_cons (pe_ix (k_ixL K rfl) (pv 0) (pe_callD D_l_mix (hr.mono (by omega)) (by rfl) (pa_cons (pv 1) (pa_cons pe_int (pa_cons pe_int pa_nil)))) (fun _ _ => rfl)) pa_nil)))))) pss_nil)
      (pss_cons (ps_set (i := 4) sc_l_term.nd rfl (by first | exact Or.inl rfl | exact Or.inr rfl) (pe_callD D_l_term (hr.mono (by omega)) (by rfl) (pa_cons (pv 0) (pa_cons (pe_op op_add (pe_op op_mul (pv 1) pe_int) pe_int) (pa_cons (pe_op op_sub (pv 2) pe_int) pa_nil)))))
      (pss_one (ps_ret (pf_tup (pa_cons (pe_ix (k_ixL K rfl) (pe_lst (pa_cons pe_str (pa_cons pe_str (pa_cons pe_str pa_nil)))) (pe_op op_mod (pv 3) pe_int) (fun _ _ => rfl)) (pa_cons (pv 4) (pa_cons (pe_callD D_l_term (hr.mono (by omega)) (by rfl) (pa_cons (pv 0) (pa_cons (pe_op op_add (pe_op op_mul (pv 1) pe_int) pe_int) (pa_cons (pe_op op_sub (pv 2) pe_int) pa_nil)))) pa_nil))))))))), ?_⟩
    rintro xs d ⟨nm, s, left, rfl, h4, hl, rfl⟩
    have h9 : 0 ≤ mix s 9901 9 ∧ mix s 9901 9 < 9 := ⟨mix_lo _ (by omega), mix_hi _ (by omega)⟩
    have hn := mix4 s 9883
    refine do_seq (do_asg (x := .dat (.int (mix s 9901 9))) (by repeat' walk_at "ev")) ?_
    have leaf : ∀ R : Ds → Prop, R (.dat (encT (if mix s 9901 9 % 3 = 0 then Tm.num (mix s 9887 997) else .nam (nameAt nm (mix s 9883 4))))) → Do K (tSeq (tIfS (tTest (tOp rEq (tOp (rI (fun _ j => 0 < j) fun i j => .int (i % j)) (tVar 3) (tC (.int 3))) (tC (.int 0)))) (tRet (tTupF (tCons (tC (.str "number")) (tCons (tCall (spP K PrMix) [] E0 (tCons (tVar 1) (tCons (tC (.int 9887)) (tCons (tC (.int 997)) tNil)))) tNil)))) tNext) (tRet (tTupF (tCons (tC (.str "name")) (tCons (tOp (rIxL K) (tVar 0) (tCall (spP K PrMix) [] E0 (tCons (tVar 1) (tCons (tC (.int 9883)) (tCons (tC (.int 4)) tNil))))) tNil)))))
        [.dat (.list (nm.map .str)), .dat (.int s), .dat (.int (left : Nat)), .dat (.int (mix s 9901 9)), .any] none R := fun R hR => by
      refine do_ifs (b := decide (mix s 9901 9 % 3 = 0)) (by repeat' walk_at "ev") (fun hb => do_stop (do_ret (x := .dat (.tuple [.str "number", .int (mix s 9887 997)])) (by repeat' walk_at "ev") ?_)) fun hb => do_skip (do_ret (x := .dat (.tuple [.str "name", .str (nameAt nm (mix s 9883 4))])) ?_ ?_)
      · rw [if_pos (of_decide_eq_true hb)] at hR
        exact hR
      · repeat' walk_at "ev"
        refine ev_ixL (evs_dat (ev_var rfl rfl)) (i := mix s 9883 4) (by repeat' walk_at "ev") (atI_map _ (nameAt_get hn.1 (by omega)))
      · rw [if_neg (of_decide_eq_false hb)] at hR
        exact hR
    refine do_ifs (b := decide ((left : Int) = 0) || decide (mix s 9901 9 < 3)) (evt_or (by repeat' walk_at "ev") fun _ => by repeat' walk_at "ev") (fun hb => do_stop (do_weak (by exact Sub.refl _) (leaf _ ?_))) fun hb => do_skip ?_
    · cases left with
      | zero => rfl
      | succ m =>
        have h3 : mix s 9901 9 < 3 := by
          rcases Bool.or_eq_true_iff.mp hb with h | h
          · exact absurd (of_decide_eq_true h) (by omega)
          · exact of_decide_eq_true h
        show Ds.dat _ = Ds.dat (encT (termS nm (m + 1) s))
        unfold termS
        rw [if_pos h3]
    · have hb' := Bool.or_eq_false_iff.mp hb
      have h0 := of_decide_eq_false hb'.1
      have h3 := of_decide_eq_false hb'.2
      obtain ⟨m, rfl⟩ : ∃ m, left = m + 1 := ⟨left - 1, by omega⟩
      have hm : ((m + 1 : Nat) : Int) - 1 = (m : Nat) := by omega
      refine do_seq (do_asg (x := .dat (encT (termS nm m (s * 3 + 1)))) ?_) (do_ret (x := .dat (encT (termS nm (m + 1) s))) ?_ rfl)
      · repeat' walk_at "ev"
        exact ⟨nm, s * 3 + 1, m, by rw [hm], h4, by omega, rfl⟩
      · refine ev_is (e := encT (termS nm (m + 1) s)) (ev_tup (ds := [.str (opAt (mix s 9901 9 % 3)).str, encT (termS nm m (s * 3 + 1)), encT (termS nm m (s * 5 + 2))]) (evd_cons (ev_ixL (evs_dat (ev_lst (by repeat' walk_at "ev") rfl)) (i := mix s 9901 9 % 3) (by repeat' walk_at "ev") (op_at (by omega) (by omega))) ?_) rfl) (by rw [termS_bin h3]; rfl)
        repeat' walk_at "ev"
        exact ⟨nm, s * 5 + 2, m, by rw [hm], h4, by omega, rfl⟩
abbrev st_l_names_in : Stmt := topS 20
abbrev N_l_names_in : List Str := ["_law_term_here"]
abbrev P_l_names_in : List Str := ["_law_term_here"]
theorem sc_l_names_in : FnScope N_l_names_in P_l_names_in (defScope st_l_names_in) := ⟨rfl, rfl, rfl, by decide +kernel, rfl, by decide +kernel, by decide +kernel⟩
theorem d_lnin (F : Fnd K mg "_law_names_in" st_l_names_in P_l_names_in) : ∀ n : Nat, Dfn P w K mg base "_law_names_in" n P_l_names_in (spP K (PrNin n))
  | 0 => F.never fun xs d ⟨_, _, h, _⟩ => absurd h (Nat.not_lt_zero _)
  | n + 1 => by
    have D_l_names_in := d_lnin F n
    refine F.pure sc_l_names_in (fun xs d ⟨_, h, _⟩ => by subst h; rfl) fun f cdv A outer s H E hr => ⟨_, (pss_cons (ps_if (pt_cmpR op_eq (pe_ix (k_ixT K rfl) (pv 0) pe_int (fun _ _ => rfl)) pe_str (nomark _)) (pss_one (ps_ret (pe_lst (pa_cons (pe_ix (k_ixT K rfl) (pv 0) pe_int (fun _ _ => rfl)) pa_nil)))) pss_nil)
      (pss_cons (ps_if (pt_cmpR op_eq (pe_ix (k_ixT K rfl) (pv 0) pe_int (fun _ _ => rfl)) pe_str (nomark _)) (pss_one (ps_ret (pe_lst pa_nil))) pss_nil)
      (pss_one (ps_ret (pe_op op_cat (pe_callD D_l_names_in (hr.mono (by omega)) (by rfl) (pa_cons (pe_ix (k_ixT K rfl) (pv 0) pe_int (fun _ _ => rfl)) pa_nil)) (pe_callD D_l_names_in (hr.mono (by omega)) (by rfl) (pa_cons (pe_ix (k_ixT K rfl) (pv 0) pe_int (fun _ _ => rfl)) pa_nil))))))), ?_⟩
    rintro xs d ⟨t, rfl, hd, h16, rfl⟩
    cases t with
    | num i =>
      refine do_ifs (b := false) (by repeat' walk_at "ev") (fun e => by cases e) fun _ => do_skip (do_ifs (b := true) (by repeat' walk_at "ev") (fun _ => do_stop (do_ret (x := .dat (.list [])) (by repeat' walk_at "ev") rfl)) fun e => by cases e)
    | nam x =>
      refine do_ifs (b := true) (by repeat' walk_at "ev") (fun _ => do_stop (do_ret (x := .dat (.list [.str x])) (by repeat' walk_at "ev") rfl)) fun e => by cases e
    | bin o a b =>
      have hd : max a.depth b.depth + 1 < n + 1 := hd
      have ho : (decide (o.str = "name") = false) ∧ (decide (o.str = "number") = false) := by cases o <;> decide
      refine do_ifs (b := false) ?_ (fun e => by cases e) fun _ => do_skip (do_ifs (b := false) ?_ (fun e => by cases e) fun _ => do_skip (do_ret (x := .dat (.list ((Tm.bin o a b).names.map .str))) ?_ rfl))
      · exact evt_is (by repeat' walk_at "ev") ho.1
      · exact evt_is (by repeat' walk_at "ev") ho.2
      · show Ev K _ _ (.dat (.list ((a.names ++ b.names).map .str)))
        rw [List.map_append]
        refine ev_cat (evs_dat (ev_call (xs := [.dat (encT a)]) (by repeat' walk_at "ev") ⟨a, rfl, by omega, by omega, rfl⟩)) (evs_dat (ev_call (xs := [.dat (encT b)]) (by repeat' walk_at "ev") ⟨b, rfl, by omega, by omega, rfl⟩)) ?_
        rw [List.length_map, List.length_map]
        have h1 := names_len a
        have h2 := names_len b
        have h3 := pow16 (n := a.depth) (by omega)
        have h4 := pow16 (n := b.depth) (by omega)
        exact Nat.le_trans (show _ ≤ 200000 by omega) (by decide)
end
section
variable {P : Program} {w : World} {K : PySem.W.Frag} {mg : Str → Option Value} {base : Heap}
abbrev st_l_deed : Stmt := topS 21
abbrev N_l_deed : List Str := ["_law_plan", "_law_cell_here", "_law_deep", "_law_need", "_law_names_here", "_law_levels_here", "_law_honest", "_law_term_here", "_law_high", "_law_turn", "_law_some", "_law_one", "_law_more", "_law_block_here", "_law_k", "_law_name_here"]
abbrev P_l_deed : List Str := ["_law_plan", "_law_cell_here", "_law_deep", "_law_need"]
theorem sc_l_deed : FnScope N_l_deed P_l_deed (defScope st_l_deed) := ⟨rfl, rfl, rfl, by decide +kernel, rfl, by decide +kernel, by decide +kernel⟩
abbrev st_l_block : Stmt := topS 22
abbrev N_l_block : List Str := ["_law_plan", "_law_cell_here", "_law_deep", "_law_need", "_law_many", "_law_k"]
abbrev P_l_block : List Str := ["_law_plan", "_law_cell_here", "_law_deep", "_law_need"]
theorem sc_l_block : FnScope N_l_block P_l_block (defScope st_l_block) := ⟨rfl, rfl, rfl, by decide +kernel, rfl, by decide +kernel, by decide +kernel⟩
theorem d_block {n : Nat} (F : Fnd K mg "_law_block" st_l_block P_l_block) (hB : Blt mg) (D_l_mix : Dfn P w K mg base "_law_mix" 1 P_l_mix (spP K PrMix)) (D_l_deed : Dfn P w K mg base "_law_deed" (2 * n + 4) P_l_deed (spP K (PrDeed n))) :
    Dfn P w K mg base "_law_block" (2 * n + 5) P_l_block (spP K (PrBlock n)) := by
  refine F.pure sc_l_block (fun xs d ⟨_, _, _, _, _, _, h, _⟩ => by subst h; rfl) fun f cdv A outer s H E hr => ⟨_, (pss_cons (ps_set (i := 4) sc_l_block.nd rfl (by first | exact Or.inl rfl | exact Or.inr rfl) (pe_op op_add pe_int (pe_callD D_l_mix (hr.mono (by omega)) (by rfl) (pa_cons (pv 1) (pa_cons pe_int (pa_cons pe_int pa_nil))))))
      (pss_one (ps_ret (pe_callTy (k_tup K rfl) (by rfl) hB.tuple (by decide +kernel) (pa_cons (pe_lc (own := [("_law_k", 5)]) (g := (gName 5)) (tt := tYes) (by rfl) sc_l_block.nd (pi_range1 (by rfl) hB.range (pa_cons (pv 4) pa_nil)) (blkOk_by (own := [("_law_k", 5)]) (N := N_l_block) (sc := defScope st_l_block) (by decide +kernel)) (fun _ _ _ _ _ => (pg_name (i := 5) sc_l_block.nd rfl (by first | exact Or.inl rfl | exact Or.inr rfl))) (fun _ _ _ _ _ => pts_nil) (fun _ _ _ _ _ => (pe_callD D_l_deed (hr.mono (by omega)) (by rfl) (pa_cons (pv 0) (pa_cons (pe_op op_add (pe_op op_mul (pv 1) pe_int) (pe_op op_mul pe_int (pv 5))) (pa_cons (pv 2) (pa_cons (pv 3) pa_nil))))))) pa_nil))))), ?_⟩
  rintro xs d ⟨nm, lv, hon, c, deep, need, rfl, p, hneed, hdn, rfl⟩
  have hm : 0 ≤ mix c 9839 2 ∧ mix c 9839 2 < 2 := ⟨mix_lo _ (by omega), mix_hi _ (by omega)⟩
  refine do_seq (do_asg (x := .dat (.int (1 + mix c 9839 2))) (by repeat' walk_at "ev")) (do_ret (x := .dat (encB (blockS nm lv hon deep c need))) (ev_tupL (evs_dat ?_)) rfl)
  refine ev_is (ev_lcM (fun d => match d with | .int k => encD (deedS nm lv hon deep (c * 7 + 11 * k) need) | _ => .none) (evi_range1 (ev_var rfl rfl) (by omega) (by omega)) ?_ fun i d hd => ?_) ?_
  · rw [rangeD_len]; omega
  · have hi : i < (1 + mix c 9839 2).toNat := by
      have := (List.getElem?_eq_some_iff.mp hd).1
      rwa [rangeD_len] at this
    cases (rangeD_get (lo := 0) hi).symm.trans hd
    refine ⟨_, _, evg_name, by decide, ?_⟩
    repeat' walk_at "ev"
    exact ⟨nm, lv, hon, _, deep, need, rfl, p, hneed, hdn, rfl⟩
  · unfold blockS manyOf rangeD
    rw [encL_map, List.map_map, List.map_map]
    simp only [Function.comp_def, Int.zero_add]
theorem d_deed (F : Fnd K mg "_law_deed" st_l_deed P_l_deed) (FB : Fnd K mg "_law_block" st_l_block P_l_block) (hB : Blt mg) (D_l_mix : Dfn P w K mg base "_law_mix" 1 P_l_mix (spP K PrMix)) (D_l_term : Dfn P w K mg base "_law_term" 4 P_l_term (spP K (PrTerm 3)))
    (D_l_names_in : Dfn P w K mg base "_law_names_in" 3 P_l_names_in (spP K (PrNin 3))) : ∀ n : Nat, Dfn P w K mg base "_law_deed" (2 * n + 4) P_l_deed (spP K (PrDeed n))
  | 0 => F.never fun xs d ⟨_, _, _, _, _, _, _, _, _, h, _⟩ => absurd h (Nat.not_lt_zero _)
  | n + 1 => by
    have D_l_block := d_block FB hB D_l_mix (d_deed F FB hB D_l_mix D_l_term D_l_names_in n)
    refine F.pure sc_l_deed (fun xs d ⟨_, _, _, _, _, _, h, _⟩ => by subst h; rfl) fun f cdv A outer s H E hr => ⟨_, (pss_cons (ps_asg (pv 0) (k_gt K rfl rfl (pgs_cons (pg_name (i := 4) sc_l_deed.nd rfl (by first | exact Or.inl rfl | exact Or.inr rfl)) (pgs_cons (pg_name (i := 5) sc_l_deed.nd rfl (by first | exact Or.inl rfl | exact Or.inr rfl)) (pgs_cons (pg_name (i := 6) sc_l_deed.nd rfl (by first | exact Or.inl rfl | exact Or.inr rfl)) pgs_nil)))))
      (pss_cons (ps_set (i := 7) sc_l_deed.nd rfl (by first | exact Or.inl rfl | exact Or.inr rfl) (pe_callD D_l_term (hr.mono (by omega)) (by rfl) (pa_cons (pv 4) (pa_cons (pv 1) (pa_cons (pe_op op_add pe_int (pe_op op_mod (pv 1) pe_int)) pa_nil)))))
      (pss_cons (ps_set (i := 8) sc_l_deed.nd rfl (by first | exact Or.inl rfl | exact Or.inr rfl) (pe_callB (k_max K rfl rfl) (by rfl) hB.max (by decide +kernel) (pa_cons (pe_op op_cat (pe_lc (own := [("_law_name_here", 15)]) (g := (gName 15)) (tt := tYes) (by rfl) sc_l_deed.nd (k_pil K rfl (pe_callD D_l_names_in (hr.mono (by omega)) (by rfl) (pa_cons (pv 7) pa_nil))) (blkOk_by (own := [("_law_name_here", 15)]) (N := N_l_deed) (sc := defScope st_l_deed) (by decide +kernel)) (fun _ _ _ _ _ => (pg_name (i := 15) sc_l_deed.nd rfl (by first | exact Or.inl rfl | exact Or.inr rfl))) (fun _ _ _ _ _ => pts_nil) (fun _ _ _ _ _ => (pe_ix (k_ixL K rfl) (pv 5) (k_bm K rfl PySem.F.plainAttrs_list PySem.F.slot_list_index PySem.F.type_list_index (k_index K rfl) (pv 4) (pa_cons (pv 15) pa_nil)) (fun _ _ => rfl)))) (pe_lst (pa_cons (pv 3) pa_nil))) pa_nil)))
      (pss_cons (ps_set (i := 9) sc_l_deed.nd rfl (by first | exact Or.inl rfl | exact Or.inr rfl) (pe_callD D_l_mix (hr.mono (by omega)) (by rfl) (pa_cons (pv 1) (pa_cons pe_int (pa_cons pe_int pa_nil)))))
      (pss_cons (ps_if (PW.pt (pw_and (pt_cmpR op_gt (pv 2) pe_int (nomark _)) (pw_and1 (pt_cmpR op_lt (pv 9) pe_int (nomark _))))) (pss_cons (ps_set (i := 11) sc_l_deed.nd rfl (by first | exact Or.inl rfl | exact Or.inr rfl) (pe_callD D_l_block (hr.mono (by omega)) (by rfl) (pa_cons (pv 0) (pa_cons (pe_op op_add (pe_op op_mul (pv 1) pe_int) pe_int) (pa_cons (pe_op op_sub (pv 2) pe_int) (pa_cons (pv 8) pa_nil))))))
      (pss_one (ps_ret (pf_tup (pa_cons pe_str (pa_cons (pv 7) (pa_cons (pv 11) (pa_cons (pe_callD D_l_block (hr.mono (by omega)) (by rfl) (pa_cons (pv 0) (pa_cons (pe_op op_add (pe_op op_mul (pv 1) pe_int) pe_int) (pa_cons (pe_op op_sub (pv 2) pe_int) (pa_cons (pv 8) pa_nil))))) pa_nil)))))))) pss_nil)
      (pss_cons (ps_if (PW.pt (pw_and (pt_cmpR op_gt (pv 2) pe_int (nomark _)) (pw_and (pt_cmpR op_lt (pv 9) pe_int (nomark _)) (pw_and1 (PW.pt (pw_or (pt_cmpR op_eq (pv 3) pe_int (nomark _)) (pw_or1 (pt_not (pt_val (pv 6)))))))))) (pss_cons (ps_set (i := 12) sc_l_deed.nd rfl (by first | exact Or.inl rfl | exact Or.inr rfl) (pf_tup (pa_cons pe_str (pa_cons (pe_ix (k_ixL K rfl) (pv 4) pe_int (fun _ _ => rfl)) (pa_cons (pf_tup (pa_cons pe_str (pa_cons (pf_tup (pa_cons pe_str (pa_cons (pe_ix (k_ixL K rfl) (pv 4) pe_int (fun _ _ => rfl)) pa_nil))) (pa_cons (pf_tup (pa_cons pe_str (pa_cons pe_int pa_nil))) pa_nil)))) pa_nil)))))
      (pss_cons (ps_set (i := 13) sc_l_deed.nd rfl (by first | exact Or.inl rfl | exact Or.inr rfl) (pe_callD D_l_block (hr.mono (by omega)) (by rfl) (pa_cons (pv 0) (pa_cons (pe_op op_add (pe_op op_mul (pv 1) pe_int) pe_int) (pa_cons (pe_op op_sub (pv 2) pe_int) (pa_cons (pv 3) pa_nil))))))
      (pss_cons (ps_if (pt_val (pv 6)) (pss_one (ps_set (i := 7) sc_l_deed.nd rfl (by first | exact Or.inl rfl | exact Or.inr rfl) (pf_tup (pa_cons pe_str (pa_cons (pf_tup (pa_cons pe_str (pa_cons (pe_ix (k_ixL K rfl) (pv 4) pe_int (fun _ _ => rfl)) pa_nil))) (pa_cons (pf_tup (pa_cons pe_str (pa_cons (pe_callD D_l_mix (hr.mono (by omega)) (by rfl) (pa_cons (pv 1) (pa_cons pe_int (pa_cons pe_int pa_nil)))) pa_nil))) pa_nil)))))) pss_nil)
      (pss_one (ps_ret (pf_tup (pa_cons pe_str (pa_cons (pv 7) (pa_cons (pe_op (k_catT K rfl) (pv 13) (pf_tup (pa_cons (pv 12) pa_nil))) pa_nil))))))))) pss_nil)
      (pss_cons (ps_setLc (i := 10) (own := [("_law_k", 14)]) (g := (gName 14))  (by rfl) sc_l_deed.nd rfl rfl (sw_true rfl rfl rfl (by decide +kernel)) (pi_range1 (by rfl) hB.range (pa_cons pe_int pa_nil)) (blkOk_by (own := [("_law_k", 14)]) (N := N_l_deed) (sc := defScope st_l_deed) (by decide +kernel)) (fun _ _ _ _ _ => (pg_name (i := 14) sc_l_deed.nd rfl (by first | exact Or.inl rfl | exact Or.inr rfl))) (fun _ _ _ _ _ => pts_one (PW.pt (pw_or (pt_cmpR op_ge (pe_ix (k_ixL K rfl) (pv 5) (pv 14) (fun _ _ => rfl)) (pv 8) (nomark _)) (pw_or1 (pt_not (pt_val (pv 6))))))) (fun _ _ _ _ _ => (pv 14)))
      (pss_cons (ps_if (PW.pt (pw_and (pt_cmpR op_lt (pv 9) pe_int (nomark _)) (pw_and1 (k_truth K rfl (pv 10) (by intro _; rfl))))) (pss_one (ps_ret (pf_tup (pa_cons pe_str (pa_cons (pe_ix (k_ixL K rfl) (pv 4) (pe_ix (k_ixL K rfl) (pv 10) (pe_callD D_l_mix (hr.mono (by omega)) (by rfl) (pa_cons (pv 1) (pa_cons pe_int (pa_cons (pe_callB (k_len K rfl) (by rfl) hB.len (by decide +kernel) (pa_cons (pv 10) pa_nil)) pa_nil)))) (fun _ _ => rfl)) (fun _ _ => rfl)) (pa_cons (pv 7) pa_nil)))))) pss_nil)
      (pss_one (ps_ret (pf_tup (pa_cons pe_str (pa_cons (pe_callB (cr_max2 rfl) (by rfl) hB.max (by decide +kernel) (pa_cons (pe_callD D_l_mix (hr.mono (by omega)) (by rfl) (pa_cons (pv 1) (pa_cons pe_int (pa_cons pe_int pa_nil)))) (pa_cons (pe_op op_mul (pv 8) (pe_callTy cr_int1 (by rfl) hB.int (by decide +kernel) (pa_cons (pv 6) pa_nil))) pa_nil))) (pa_cons (pv 7) pa_nil)))))))))))))), ?_⟩
    rintro xs d ⟨nm, lv, hon, c, deep, need, rfl, p, hneed, hdn, rfl⟩
    have hc2 : 0 ≤ c % 2 ∧ c % 2 < 2 := by omega
    obtain ⟨tok, tdp⟩ := termS_ok p.n4 (1 + c % 2).toNat c
    have tdp : (termOf nm c).depth < 3 := by unfold termOf; omega
    have tok : (termOf nm c).ok nm := tok
    have n0 : atI (nm.map PyData.str) 0 = some (.str (nameAt nm 0)) := atI_map _ (nameAt_get (by decide) (by rw [p.n4]; decide))
    refine do_seq (do_asgG (d := .tuple [.list (nm.map .str), .list (lv.map .int), .bool hon]) (ev_var rfl rfl) (evg_tup (evgs_cons evg_name (evgs_cons evg_name (evgs_cons evg_name evgs_nil))) rfl)) ?_
    refine do_seq (do_asg (x := .dat (encT (termOf nm c))) ?_) ?_
    · repeat' walk_at "ev"
      exact ⟨nm, c, (1 + c % 2).toNat, by rw [Int.toNat_of_nonneg (by omega)], p.n4, by omega, rfl⟩
    refine do_seq (do_asg (x := .dat (.int (highOf nm lv (termOf nm c) need))) ?_) ?_
    · refine ev_maxL (ns := (termOf nm c).names.map (lvOf nm lv) ++ [need]) ?_ (by simp) fun m h1 h2 => max_fold h1 h2
      rw [List.map_append]
      refine evs_dat (ev_cat (evs_dat (ev_is (ev_lcM (fun d => match d with | .str x => .int (lvOf nm lv x) | _ => .none) (evi_list (ev_call (Pr := PrNin 3) (xs := [.dat (encT (termOf nm c))]) (by repeat' walk_at "ev") ⟨_, rfl, tdp, by decide, rfl⟩)) ?_ fun i d hd => ?_) ?_)) (evs_dat (ev_lst (ds := [.int need]) (by repeat' walk_at "ev") rfl)) ?_)
      · have h1 := names_len (termOf nm c)
        have h2 := pow16 (n := (termOf nm c).depth) (by omega)
        rw [List.length_map]
        omega
      · rw [List.getElem?_map] at hd
        cases cx : (termOf nm c).names[i]? with
        | none => rw [cx] at hd; cases hd
        | some x =>
          rw [cx] at hd
          cases hd
          have hx : x ∈ nm := names_mem tok x (List.mem_of_getElem? cx)
          exact ⟨_, _, evg_name, by decide, ev_ixL (evs_dat (ev_var rfl rfl)) (ev_index (ev_var rfl rfl) (ev_var rfl rfl) hx) (lv_at p hx)⟩
      · rw [List.map_map, List.map_map]
        rfl
      · have h1 := names_len (termOf nm c)
        have h2 := pow16 (n := (termOf nm c).depth) (by omega)
        rw [List.length_map, List.length_map, List.length_map]
        exact Nat.le_trans (show _ ≤ 200000 by simp only [List.length_singleton]; omega) (by decide)
    refine do_seq (do_asg (x := .dat (.int (mix c 9871 9))) (by repeat' walk_at "ev")) ?_
    have hh := highOf_lo p (termOf nm c) hneed
    have e1 : deedS nm lv hon deep c need = deedS nm lv hon deep c need := rfl
    generalize hhi : highOf nm lv (termOf nm c) need = high at *
    refine do_weak (Γ' := [.dat (.tuple [.list (nm.map .str), .list (lv.map .int), .bool hon]), .dat (.int c), .dat (.int (deep : Nat)), .dat (.int need), .dat (.list (nm.map .str)), .dat (.list (lv.map .int)), .dat (.bool hon), .dat (encT (termOf nm c)), .dat (.int high), .dat (.int (mix c 9871 9)), .any, .any, .any, .any, .any, .any]) (by exact Sub.refl _) ?_
    refine do_ifs (b := decide ((deep : Int) > 0) && decide (mix c 9871 9 < 2)) (evt_and (by repeat' walk_at "ev") fun _ => by repeat' walk_at "ev") (fun hb => do_stop ?_) fun hb => do_skip ?_
    · obtain ⟨h0, h2⟩ := Bool.and_eq_true_iff.mp hb
      obtain ⟨m, rfl⟩ : ∃ m, deep = m + 1 := ⟨deep - 1, by have := of_decide_eq_true h0; omega⟩
      have hm : ((m + 1 : Nat) : Int) - 1 = (m : Nat) := by omega
      refine do_seq (do_asg (x := .dat (encB (blockS nm lv hon m (c * 3 + 1) high))) ?_) (do_ret (x := .dat (encD (deedS nm lv hon (m + 1) c need))) (ev_is (d := .tuple [.str "if", encT (termOf nm c), encB (blockS nm lv hon m (c * 3 + 1) high), encB (blockS nm lv hon m (c * 5 + 2) high)]) ?_ ?_) rfl)
      · repeat' walk_at "ev"
        exact ⟨nm, lv, hon, c * 3 + 1, m, high, by rw [hm], p, hh.1, by omega, rfl⟩
      · repeat' walk_at "ev"
        exact ⟨nm, lv, hon, c * 5 + 2, m, high, by rw [hm], p, hh.1, by omega, rfl⟩
      · rw [deed_ite (of_decide_eq_true h2), hhi]
        rfl
    have hb1 : ¬ ((deep : Int) > 0 ∧ mix c 9871 9 < 2) := fun ⟨a, b⟩ => by
      rw [decide_eq_true a, decide_eq_true b] at hb
      cases hb
    refine do_ifs (b := decide ((deep : Int) > 0) && (decide (mix c 9871 9 < 4) && (decide (need = 0) || !hon))) (evt_and (by repeat' walk_at "ev") fun _ => evt_and (by repeat' walk_at "ev") fun _ => evt_or (by repeat' walk_at "ev") fun _ => by repeat' walk_at "ev") (fun hb2 => do_stop ?_) fun hb2 => do_skip ?_
    · obtain ⟨h0, h2⟩ := Bool.and_eq_true_iff.mp hb2
      obtain ⟨h4, h5⟩ := Bool.and_eq_true_iff.mp h2
      have h5 : need = 0 ∨ hon = false := by
        rcases Bool.or_eq_true_iff.mp h5 with h | h
        · exact .inl (of_decide_eq_true h)
        · exact .inr (by cases hon <;> first | rfl | cases h)
      obtain ⟨m, rfl⟩ : ∃ m, deep = m + 1 := ⟨deep - 1, by have := of_decide_eq_true h0; omega⟩
      have hm : ((m + 1 : Nat) : Int) - 1 = (m : Nat) := by omega
      have hw := deed_whl (nm := nm) (lv := lv) (hon := hon) (n := m) (c := c) (need := need) (fun e => hb1 ⟨by omega, e⟩) ⟨of_decide_eq_true h4, h5⟩
      have hret : encD (deedS nm lv hon (m + 1) c need) = .tuple [.str "while", encT (if hon then .bin .less (.nam (nameAt nm 0)) (.num (mix c 9859 6)) else termOf nm c), .tuple (encL (blockS nm lv hon m (c * 3 + 1) need) ++ [encD (moreD nm)])] := by
        rw [hw, encD, encL_app]
        rfl
      rw [hret]
      refine do_seq (do_asg (x := .dat (encD (moreD nm))) ?_) (do_seq (do_asg (x := .dat (encB (blockS nm lv hon m (c * 3 + 1) need))) ?_) ?_)
      · refine ev_tup (ds := [.str "put", .str (nameAt nm 0), .tuple [.str "sum", .tuple [.str "name", .str (nameAt nm 0)], .tuple [.str "number", .int 1]]]) (evd_cons ev_cstr (evd_cons (ev_ixL (evs_dat (ev_var rfl rfl)) ev_cint n0) (evd_cons (ev_tup (evd_cons ev_cstr (evd_cons (ev_tup (evd_cons ev_cstr (evd_cons (ev_ixL (evs_dat (ev_var rfl rfl)) ev_cint n0) evd_nil)) rfl) (evd_cons (ev_tup (by repeat' walk_at "ev") rfl) evd_nil))) rfl) evd_nil))) rfl
      · repeat' walk_at "ev"
        exact ⟨nm, lv, hon, c * 3 + 1, m, need, by rw [hm], p, hneed, by omega, rfl⟩
      · have tail : ∀ T : Tm, (hon = true → T = .bin .less (.nam (nameAt nm 0)) (.num (mix c 9859 6))) → (hon = false → T = termOf nm c) → (if hon then Tm.bin .less (.nam (nameAt nm 0)) (.num (mix c 9859 6)) else termOf nm c) = T := fun T h1 h2 => by
          cases hon
          · exact (h2 rfl).symm
          · exact (h1 rfl).symm
        have cat : (encL (blockS nm lv hon m (c * 3 + 1) need)).length + 1 ≤ sizeLine := by
          rw [encL_len]
          have := blockS_len (nm := nm) (lv := lv) (hon := hon) (n := m) (c := c * 3 + 1) (need := need)
          exact Nat.le_trans (show _ ≤ 3 by omega) (by decide)
        refine do_ifs (b := hon) (by repeat' walk_at "ev") (fun ht => do_seq (do_asg (x := .dat (encT (.bin .less (.nam (nameAt nm 0)) (.num (mix c 9859 6))))) ?_) ?_) fun hf => do_skip ?_
        · refine ev_tup (ds := [.str "less", .tuple [.str "name", .str (nameAt nm 0)], .tuple [.str "number", .int (mix c 9859 6)]]) (evd_cons ev_cstr (evd_cons (ev_tup (evd_cons ev_cstr (evd_cons (ev_ixL (evs_dat (ev_var rfl rfl)) ev_cint n0) evd_nil)) rfl) (evd_cons (ev_tup (by repeat' walk_at "ev") rfl) evd_nil))) rfl
        · refine do_ret (x := .dat _) (ev_tup (evd_cons ev_cstr (evd_cons (ev_var rfl rfl) (evd_cons (ev_catT (ev_var rfl rfl) (ev_tup (evd_cons (ev_var rfl rfl) evd_nil) rfl) cat) evd_nil))) rfl) ?_
          rw [tail _ (fun _ => rfl) fun e => by rw [ht] at e; cases e]
        · refine do_ret (x := .dat _) (ev_tup (evd_cons ev_cstr (evd_cons (ev_var rfl rfl) (evd_cons (ev_catT (ev_var rfl rfl) (ev_tup (evd_cons (ev_var rfl rfl) evd_nil) rfl) cat) evd_nil))) rfl) ?_
          rw [tail _ (fun e => by rw [hf] at e; cases e) fun _ => rfl]
    have hb3 : ¬ ((deep : Int) > 0 ∧ mix c 9871 9 < 4 ∧ (need = 0 ∨ hon = false)) := fun ⟨a, b, e⟩ => by
      rw [decide_eq_true a, decide_eq_true b] at hb2
      rcases e with e | e
      · rw [decide_eq_true e] at hb2
        cases hb2
      · subst e
        simp at hb2
    have hl := deed_last (nm := nm) (lv := lv) (hon := hon) (n := deep) (c := c) (need := need) hb1 hb3
    rw [hhi] at hl
    rw [hl]
    refine do_seq (do_asg (x := .dat (.list ((someOf lv hon high).map .int))) ?_) ?_
    · rw [some_data]
      refine ev_lc _ id (evi_range1 ev_cint (by decide) (by decide)) (by decide) fun i d hd => ?_
      have hi : i < 4 := by
        have := (List.getElem?_eq_some_iff.mp hd).1
        rwa [rangeD_len] at this
      cases (rangeD_get (lo := 0) hi).symm.trans hd
      refine ⟨_, _, evg_name, by decide, evt_or (evt_test (ev_bI0 (ev_ixL (evs_dat (ev_var rfl rfl)) (ev_var rfl rfl) (getI (by omega) (by rw [p.l4]; omega)).1) (ev_var rfl rfl))) fun _ => by repeat' walk_at "ev", fun _ => ev_var rfl rfl⟩
    refine do_ifs (b := decide (mix c 9871 9 < 7) && !((someOf lv hon high).map PyData.int).isEmpty) (evt_and (by repeat' walk_at "ev") fun _ => evt_list (ev_var rfl rfl)) (fun hb4 => do_stop ?_) fun hb4 => do_skip ?_
    · obtain ⟨h7, hne⟩ := Bool.and_eq_true_iff.mp hb4
      have hne : someOf lv hon high ≠ [] := fun e => by
        rw [e] at hne
        cases hne
      rw [last_put ⟨of_decide_eq_true h7, hne⟩]
      have hpos : 0 < (someOf lv hon high).length := List.length_pos_iff.mpr hne
      have hmx : 0 ≤ mix c 9857 (someOf lv hon high).length ∧ mix c 9857 (someOf lv hon high).length < (someOf lv hon high).length := ⟨mix_lo _ (by omega), mix_hi _ (by omega)⟩
      obtain ⟨g1, g2⟩ := getI hmx.1 hmx.2
      have g3 := some_lo _ g2
      refine do_ret (x := .dat _) (ev_tup (evd_cons ev_cstr (evd_cons (ev_ixL (evs_dat (ev_var rfl rfl)) (ev_ixL (evs_dat (ev_var rfl rfl)) (ev_call (Pr := PrMix) (xs := [.dat (.int c), .dat (.int 9857), .dat (.int ((someOf lv hon high).length : Nat))]) (eva_cons (ev_var rfl rfl) (eva_cons ev_cint (eva_cons ?_ eva_nil))) ⟨_, _, _, rfl, by decide, by omega, rfl⟩) g1) (atI_map _ (nameAt_get g3.1 (by rw [p.n4]; omega)))) (evd_cons (ev_var rfl rfl) evd_nil))) rfl) rfl
      have q := ev_len (K := K) (t := tVar 10) (Γ := [.dat (.tuple [.list (nm.map .str), .list (lv.map .int), .bool hon]), .dat (.int c), .dat (.int (deep : Nat)), .dat (.int need), .dat (.list (nm.map .str)), .dat (.list (lv.map .int)), .dat (.bool hon), .dat (encT (termOf nm c)), .dat (.int high), .dat (.int (mix c 9871 9)), .dat (.list ((someOf lv hon high).map .int)), .any, .any, .any, .any, .any]) (ev_var rfl rfl) len_list
      rw [List.length_map] at q
      exact q
    · have hb5 : ¬ (mix c 9871 9 < 7 ∧ someOf lv hon high ≠ []) := fun ⟨a, b⟩ => by
        rw [decide_eq_true a] at hb4
        cases e : someOf lv hon high with
        | nil => exact b e
        | cons x r => rw [e] at hb4; cases hb4
      rw [last_shw hb5]
      refine do_ret (x := .dat _) (ev_tup (evd_cons ev_cstr (evd_cons (ev_max2 (by repeat' walk_at "ev") (ev_iI (ev_var rfl rfl) (ev_intB (ev_var rfl rfl)) (.inl ⟨by omega, by omega⟩))) (evd_cons (ev_var rfl rfl) evd_nil))) rfl) rfl
abbrev st_l_program : Stmt := topS 23
abbrev N_l_program : List Str := ["_law_script", "_law_k", "_law_honest", "_law_plan", "_law_cells", "_law_cell_here"]
abbrev P_l_program : List Str := ["_law_script", "_law_k"]
theorem sc_l_program : FnScope N_l_program P_l_program (defScope st_l_program) := ⟨rfl, rfl, rfl, by decide +kernel, rfl, by decide +kernel, by decide +kernel⟩
theorem d_program (F : Fnd K mg "_law_program" st_l_program P_l_program) (hB : Blt mg) (D_l_cell : Dfn P w K mg base "_law_cell" 1 P_l_cell (spP K PrCell)) (D_l_mix : Dfn P w K mg base "_law_mix" 1 P_l_mix (spP K PrMix)) (D_l_names : Dfn P w K mg base "_law_names" 3 P_l_names (spP K PrNames))
    (D_l_levels : Dfn P w K mg base "_law_levels" 2 P_l_levels (spP K PrLevels)) (D_l_deed : Dfn P w K mg base "_law_deed" 10 P_l_deed (spP K (PrDeed 3))) : Dfn P w K mg base "_law_program" 11 P_l_program (spP K PrProg) := by
  refine F.pure sc_l_program (fun xs d ⟨_, _, h, _⟩ => by subst h; rfl) fun f cdv A outer s H E hr => ⟨_, (pss_cons (ps_set (i := 2) sc_l_program.nd rfl (by first | exact Or.inl rfl | exact Or.inr rfl) (pe_cmpR op_gt (pe_callD D_l_mix (hr.mono (by omega)) (by rfl) (pa_cons (pe_callD D_l_cell (hr.mono (by omega)) (by rfl) (pa_cons (pv 0) (pa_cons pe_int pa_nil))) (pa_cons pe_int (pa_cons pe_int pa_nil)))) pe_int (nomark _)))
      (pss_cons (ps_set (i := 3) sc_l_program.nd rfl (by first | exact Or.inl rfl | exact Or.inr rfl) (pf_tup (pa_cons (pe_callD D_l_names (hr.mono (by omega)) (by rfl) (pa_cons (pv 0) pa_nil)) (pa_cons (pe_callD D_l_levels (hr.mono (by omega)) (by rfl) (pa_cons (pv 0) pa_nil)) (pa_cons (pv 2) pa_nil)))))
      (pss_cons (ps_set (i := 4) sc_l_program.nd rfl (by first | exact Or.inl rfl | exact Or.inr rfl) (pe_slice (k_slL K rfl) (pv 0) (po_some (pv 1)) (po_some (pe_op op_add (pe_op op_add (pv 1) pe_int) (pe_op op_mod (pe_callD D_l_cell (hr.mono (by omega)) (by rfl) (pa_cons (pv 0) (pa_cons pe_int pa_nil))) pe_int)))))
      (pss_one (ps_ret (pe_callTy (k_tup K rfl) (by rfl) hB.tuple (by decide +kernel) (pa_cons (pe_lc (own := [("_law_cell_here", 5)]) (g := (gName 5)) (tt := tYes) (by rfl) sc_l_program.nd (k_pil K rfl (pv 4)) (blkOk_by (own := [("_law_cell_here", 5)]) (N := N_l_program) (sc := defScope st_l_program) (by decide +kernel)) (fun _ _ _ _ _ => (pg_name (i := 5) sc_l_program.nd rfl (by first | exact Or.inl rfl | exact Or.inr rfl))) (fun _ _ _ _ _ => pts_nil) (fun _ _ _ _ _ => (pe_callD D_l_deed (hr.mono (by omega)) (by rfl) (pa_cons (pv 3) (pa_cons (pv 5) (pa_cons pe_int (pa_cons pe_int pa_nil))))))) pa_nil))))))), ?_⟩
  rintro xs d ⟨ns, k, rfl, h63, rfl⟩
  refine do_seq (do_asg (x := .dat (.bool (honS ns))) (by repeat' walk_at "ev")) (do_seq (do_asg (x := .dat (.tuple [.list ((nmS ns).map .str), .list ((lvS ns).map .int), .bool (honS ns)])) (by repeat' walk_at "ev")) (do_seq (do_asg (x := .dat (.list ((cellsOf ns k).map .int))) ?_)
    (do_ret (x := .dat (encB (progS ns k))) (ev_tupL (evs_dat ?_)) rfl)))
  · exact ev_slR (ev_var rfl rfl) (evo_some (ev_var rfl rfl)) (evo_some (by repeat' walk_at "ev"))
  · refine ev_is (ev_lcM (fun d => match d with | .int c => encD (deedS (nmS ns) (lvS ns) (honS ns) 2 c 0) | _ => .none) (evi_list (ev_var rfl rfl)) ?_ fun i d hd => ?_) ?_
    · rw [List.length_map]
      have := cells_len (k := k) h63
      omega
    · rw [List.getElem?_map] at hd
      cases cx : (cellsOf ns k)[i]? with
      | none => rw [cx] at hd; cases hd
      | some c =>
        rw [cx] at hd
        cases hd
        refine ⟨_, _, evg_name, by decide, ?_⟩
        repeat' walk_at "ev"
        exact ⟨nmS ns, lvS ns, honS ns, c, 2, 0, rfl, plan_ok ns, by decide, by decide, rfl⟩
    · unfold progS
      rw [encL_map, List.map_map, List.map_map]
      rfl
end
/-! ### cuts -/
section
variable {P : Program} {w : World} {K : PySem.W.Frag} {mg : Str → Option Value} {base : Heap}
abbrev st_names_in : Stmt := topS 1
abbrev N_names_in : List Str := ["term"]
abbrev P_names_in : List Str := ["term"]
theorem sc_names_in : FnScope N_names_in P_names_in (defScope st_names_in) := ⟨rfl, rfl, rfl, by decide +kernel, rfl, by decide +kernel, by decide +kernel⟩
theorem d_nin (F : Fnd K mg "names_in" st_names_in P_names_in) : ∀ n : Nat, Dfn P w K mg base "names_in" n P_names_in (spP K (PrNin n))
  | 0 => F.never fun xs d ⟨_, _, h, _⟩ => absurd h (Nat.not_lt_zero _)
  | n + 1 => by
    have D_names_in := d_nin F n
    refine F.pure sc_names_in (fun xs d ⟨_, h, _⟩ => by subst h; rfl) fun f cdv A outer s H E hr => ⟨_, (pss_cons (ps_if (pt_cmpR op_eq (pe_ix (k_ixT K rfl) (pv 0) pe_int (fun _ _ => rfl)) pe_str (nomark _)) (pss_one (ps_ret (pe_lst pa_nil))) pss_nil)
      (pss_cons (ps_if (pt_cmpR op_eq (pe_ix (k_ixT K rfl) (pv 0) pe_int (fun _ _ => rfl)) pe_str (nomark _)) (pss_one (ps_ret (pe_lst (pa_cons (pe_ix (k_ixT K rfl) (pv 0) pe_int (fun _ _ => rfl)) pa_nil)))) pss_nil)
      (pss_one (ps_ret (pe_op op_cat (pe_callD D_names_in (hr.mono (by omega)) (by rfl) (pa_cons (pe_ix (k_ixT K rfl) (pv 0) pe_int (fun _ _ => rfl)) pa_nil)) (pe_callD D_names_in (hr.mono (by omega)) (by rfl) (pa_cons (pe_ix (k_ixT K rfl) (pv 0) pe_int (fun _ _ => rfl)) pa_nil))))))), ?_⟩
    rintro xs d ⟨t, rfl, hd, h16, rfl⟩
    cases t with
    | num i =>
      exact do_ifs (b := true) (by repeat' walk_at "ev") (fun _ => do_stop (do_ret (x := .dat (.list [])) (by repeat' walk_at "ev") rfl)) fun e => by cases e
    | nam x =>
      exact do_ifs (b := false) (by repeat' walk_at "ev") (fun e => by cases e) fun _ => do_skip (do_ifs (b := true) (by repeat' walk_at "ev") (fun _ => do_stop (do_ret (x := .dat (.list [.str x])) (by repeat' walk_at "ev") rfl)) fun e => by cases e)
    | bin o a b =>
      have hd : max a.depth b.depth + 1 < n + 1 := hd
      have ho : (decide (o.str = "number") = false) ∧ (decide (o.str = "name") = false) := by cases o <;> decide
      refine do_ifs (b := false) (evt_is (by repeat' walk_at "ev") ho.1) (fun e => by cases e) fun _ => do_skip (do_ifs (b := false) (evt_is (by repeat' walk_at "ev") ho.2) (fun e => by cases e) fun _ => do_skip (do_ret (x := .dat (.list ((Tm.bin o a b).names.map .str))) ?_ rfl))
      show Ev K _ _ (.dat (.list ((a.names ++ b.names).map .str)))
      rw [List.map_append]
      refine ev_cat (evs_dat (ev_call (xs := [.dat (encT a)]) (by repeat' walk_at "ev") ⟨a, rfl, by omega, by omega, rfl⟩)) (evs_dat (ev_call (xs := [.dat (encT b)]) (by repeat' walk_at "ev") ⟨b, rfl, by omega, by omega, rfl⟩)) ?_
      rw [List.length_map, List.length_map]
      have h1 := names_len a
      have h2 := names_len b
      have h3 := pow16 (n := a.depth) (by omega)
      have h4 := pow16 (n := b.depth) (by omega)
      exact Nat.le_trans (show _ ≤ 200000 by omega) (by decide)
end
/-! ### all names; the value -/
section
variable {P : Program} {w : World} {K : PySem.W.Frag} {mg : Str → Option Value} {base : Heap}
abbrev st_all_names : Stmt := topS 2
abbrev N_all_names : List Str := ["program", "found", "deed", "block"]
abbrev P_all_names : List Str := ["program"]
theorem sc_all_names : FnScope N_all_names P_all_names (defScope st_all_names) := ⟨rfl, rfl, rfl, by decide +kernel, rfl, by decide +kernel, by decide +kernel⟩
theorem d_alln (F : Fnd K mg "all_names" st_all_names P_all_names) (D_names_in : Dfn P w K mg base "names_in" 3 P_names_in (spP K (PrNin 3))) : ∀ n : Nat, Dfn P w K mg base "all_names" (n + 4) P_all_names (spP K (PrAll n))
  | 0 => F.never fun xs d ⟨_, _, _, h, _⟩ => absurd h (Nat.not_lt_zero _)
  | n + 1 => by
    have D_all_names := d_alln F D_names_in n
    refine F.pure sc_all_names (fun xs d ⟨_, h, _⟩ => by subst h; rfl) fun f cdv A outer s H E hr => ⟨_, (pss_cons (ps_set (i := 1) sc_all_names.nd rfl (by first | exact Or.inl rfl | exact Or.inr rfl) (pe_lst pa_nil))
      (pss_cons (ps_for PassesOwn.never rfl (k_pit K rfl (pv 0)) (pg_name (i := 2) sc_all_names.nd rfl (by first | exact Or.inl rfl | exact Or.inr rfl)) (pss_cons (ps_if (pt_cmpR op_eq (pe_ix (k_ixT K rfl) (pv 2) pe_int (fun _ _ => rfl)) pe_str (nomark _)) (pss_one (ps_expr (k_bm K rfl PySem.F.plainAttrs_list PySem.F.slot_list_append PySem.F.type_list_append mt_append (pv 1) (pa_cons (pe_ix (k_ixT K rfl) (pv 2) pe_int (fun _ _ => rfl)) pa_nil)))) pss_nil)
      (pss_one (ps_if (pt_cmpR (k_inQ K rfl) (pe_ix (k_ixT K rfl) (pv 2) pe_int (fun _ _ => rfl)) (pf_tup (pa_cons pe_str (pa_cons pe_str pa_nil))) (by rfl)) (pss_one (ps_expr (k_bm K rfl PySem.F.plainAttrs_list PySem.F.slot_list_extend PySem.F.type_list_extend mt_extend (pv 1) (pa_cons (pe_callD D_names_in (hr.mono (by omega)) (by rfl) (pa_cons (pe_ix (k_ixT K rfl) (pv 2) pe_int (fun _ _ => rfl)) pa_nil)) pa_nil)))) (pss_cons (ps_expr (k_bm K rfl PySem.F.plainAttrs_list PySem.F.slot_list_extend PySem.F.type_list_extend mt_extend (pv 1) (pa_cons (pe_callD D_names_in (hr.mono (by omega)) (by rfl) (pa_cons (pe_ix (k_ixT K rfl) (pv 2) pe_int (fun _ _ => rfl)) pa_nil)) pa_nil)))
      (pss_one (ps_for PassesOwn.never rfl (k_pit K rfl (pe_slice (k_slT K rfl) (pv 2) (po_some pe_int) po_none)) (pg_name (i := 3) sc_all_names.nd rfl (by first | exact Or.inl rfl | exact Or.inr rfl)) (pss_one (ps_expr (k_bm K rfl PySem.F.plainAttrs_list PySem.F.slot_list_extend PySem.F.type_list_extend mt_extend (pv 1) (pa_cons (pe_callD D_all_names (hr.mono (by omega)) (by rfl) (pa_cons (pv 3) pa_nil)) pa_nil)))))))))))
      (pss_one (ps_ret (pv 1))))), ?_⟩
    rintro xs o ⟨b, rfl, htd, hdp, hz, rfl⟩
    have hlen : ∀ i, (allL (b.take i)).length ≤ 50000 := fun i => Nat.le_trans all_take hz
    refine do_seq (do_newL (ds := []) evd_nil rfl) (do_seq (do_for (ds := encL b) (N := some [.dat (encB b), .own ((allL b).map .str), .any, .any]) (fun _ => True) (fun i => [.dat (encB b), .own ((allL (b.take i)).map .str), .any, .any])
      (evi_tup (ev_var rfl rfl)) ?_ trivial (fun i d hd _ => ?_) fun _ => ⟨_, rfl, ?_⟩) (do_retO rfl rfl))
    · rw [List.take_zero, allL]
      exact Sub.refl _
    · obtain ⟨e, he, rfl⟩ := encL_get hd
      have hmem : e ∈ b := List.mem_of_getElem? he
      have edp : e.depth < n + 1 := Nat.lt_of_le_of_lt (depthL_le.mp (Nat.le_refl _) e hmem) hdp
      have etd := tdepL_le.mp htd e hmem
      have hn := hlen (i + 1)
      rw [all_next he, List.length_append] at hn
      refine ⟨_, _, some [.dat (encB b), .own ((allL (b.take (i + 1))).map .str), .any, .any], evg_name, ?_, fun Γn q => by cases q; exact ⟨trivial, Sub.refl _⟩⟩
      refine do_weak (Γ' := [.dat (encB b), .own ((allL (b.take i)).map .str), .dat (encD e), .any]) (by exact Sub.refl _) ?_
      rw [all_next he]
      generalize allL (b.take i) = pre at hn
      generalize encB b = Pb
      cases e with
      | put x t =>
        simp only [Dd.tdep] at etd
        rw [allD, List.length_cons] at hn
        refine do_ifs (b := true) (by repeat' walk_at "ev") (fun _ => do_seq (do_append rfl (d := .str x) (ev_ixT (ds := [.str "put", .str x, encT t]) (ev_var rfl rfl) ev_cint rfl) ?_) ?_) fun e => by cases e
        · rw [List.length_map]; omega
        refine do_yes (evt_is (evt_test (ev_inT (x := "put") (hs := ["put", "show"]) (ev_ixT (ds := [.str "put", .str x, encT t]) (ev_var rfl rfl) ev_cint rfl) (ev_tup (by repeat' walk_at "ev") rfl))) (by decide)) (do_post (do_extend rfl (es := t.names.map .str) (evs_dat (ev_call (Pr := PrNin 3) (eva_cons (ev_ixT (ds := [.str "put", .str x, encT t]) (ev_var rfl rfl) ev_cint rfl) eva_nil) ⟨t, rfl, by omega, by decide, rfl⟩)) ?_) ?_)
        · rw [List.length_append, List.length_map, List.length_map]
          show pre.length + 1 + _ ≤ _
          omega
        · have e1 : (pre ++ allD (.put x t)).map PyData.str = pre.map .str ++ [.str x] ++ t.names.map .str := by
            rw [allD, List.map_append, List.append_assoc]
            rfl
          rw [e1]
          exact ⟨.inr rfl, .inr rfl, .inl rfl, .inl rfl, trivial⟩
      | shw l t =>
        simp only [Dd.tdep] at etd
        rw [allD] at hn
        refine do_ifs (b := false) (by repeat' walk_at "ev") (fun e => by cases e) fun _ => do_skip ?_
        refine do_yes (evt_is (evt_test (ev_inT (x := "show") (hs := ["put", "show"]) (ev_ixT (ds := [.str "show", .int l, encT t]) (ev_var rfl rfl) ev_cint rfl) (ev_tup (by repeat' walk_at "ev") rfl))) (by decide)) (do_post (do_extend rfl (es := t.names.map .str) (evs_dat (ev_call (Pr := PrNin 3) (eva_cons (ev_ixT (ds := [.str "show", .int l, encT t]) (ev_var rfl rfl) ev_cint rfl) eva_nil) ⟨t, rfl, by omega, by decide, rfl⟩)) ?_) ?_)
        · rw [List.length_map, List.length_map]
          omega
        · rw [allD, List.map_append]
          exact ⟨.inr rfl, .inr rfl, .inl rfl, .inl rfl, trivial⟩
      | ite t c1 c2 =>
        simp only [Dd.depth] at edp
        simp only [Dd.tdep] at etd
        rw [allD, List.length_append, List.length_append] at hn
        refine do_ifs (b := false) (by repeat' walk_at "ev") (fun e => by cases e) fun _ => do_skip ?_
        refine do_if (b := false) (evt_is (evt_test (ev_inT (x := "if") (hs := ["put", "show"]) (ev_ixT (ds := [.str "if", encT t, encB c1, encB c2]) (ev_var rfl rfl) ev_cint rfl) (ev_tup (by repeat' walk_at "ev") rfl))) (by decide)) (fun e => by cases e) fun _ => ?_
        refine do_seq (do_extend rfl (es := t.names.map .str) (evs_dat (ev_call (Pr := PrNin 3) (eva_cons (ev_ixT (ds := [.str "if", encT t, encB c1, encB c2]) (ev_var rfl rfl) ev_cint rfl) eva_nil) ⟨t, rfl, by omega, by decide, rfl⟩)) ?_) ?_
        · rw [List.length_map, List.length_map]
          omega
        refine do_weak (Γ' := [.dat Pb, .own ((pre ++ t.names).map .str), .dat (encD (.ite t c1 c2)), .any]) (by rw [List.map_append]; exact Sub.refl _) (do_post (do_inner (n := n) (bs := [c1, c2]) (evi_tup (ev_slT (ds := [.str "if", encT t, encB c1, encB c2]) (ev_var rfl rfl) (evo_some ev_cint) evo_none)) (fun a ha => ?_) ?_) ?_)
        · simp only [List.mem_cons, List.not_mem_nil, or_false] at ha
          rcases ha with q | q <;> subst q
          · exact ⟨by omega, by omega⟩
          · exact ⟨by omega, by omega⟩
        · simp only [List.flatMap_cons, List.flatMap_nil, List.append_nil, List.length_append]
          omega
        · have e1 : pre ++ allD (.ite t c1 c2) = pre ++ t.names ++ [c1, c2].flatMap allL := by
            rw [allD, List.append_assoc]
            simp only [List.flatMap_cons, List.flatMap_nil, List.append_nil]
          rw [e1]
          exact ⟨.inr rfl, .inr rfl, .inl rfl, .inl rfl, trivial⟩
      | whl t c1 =>
        simp only [Dd.depth] at edp
        simp only [Dd.tdep] at etd
        rw [allD, List.length_append] at hn
        refine do_ifs (b := false) (by repeat' walk_at "ev") (fun e => by cases e) fun _ => do_skip ?_
        refine do_if (b := false) (evt_is (evt_test (ev_inT (x := "while") (hs := ["put", "show"]) (ev_ixT (ds := [.str "while", encT t, encB c1]) (ev_var rfl rfl) ev_cint rfl) (ev_tup (by repeat' walk_at "ev") rfl))) (by decide)) (fun e => by cases e) fun _ => ?_
        refine do_seq (do_extend rfl (es := t.names.map .str) (evs_dat (ev_call (Pr := PrNin 3) (eva_cons (ev_ixT (ds := [.str "while", encT t, encB c1]) (ev_var rfl rfl) ev_cint rfl) eva_nil) ⟨t, rfl, by omega, by decide, rfl⟩)) ?_) ?_
        · rw [List.length_map, List.length_map]
          omega
        refine do_weak (Γ' := [.dat Pb, .own ((pre ++ t.names).map .str), .dat (encD (.whl t c1)), .any]) (by rw [List.map_append]; exact Sub.refl _) (do_post (do_inner (n := n) (bs := [c1]) (evi_tup (ev_slT (ds := [.str "while", encT t, encB c1]) (ev_var rfl rfl) (evo_some ev_cint) evo_none)) (fun a ha => ?_) ?_) ?_)
        · rw [List.mem_singleton] at ha
          subst ha
          exact ⟨by omega, by omega⟩
        · simp only [List.flatMap_cons, List.flatMap_nil, List.append_nil, List.length_append]
          omega
        · have e1 : pre ++ allD (.whl t c1) = pre ++ t.names ++ [c1].flatMap allL := by
            rw [allD, List.append_assoc]
            simp only [List.flatMap_cons, List.flatMap_nil, List.append_nil]
          rw [e1]
          exact ⟨.inr rfl, .inr rfl, .inl rfl, .inl rfl, trivial⟩
    · rw [encL_len, List.take_length]
      exact Sub.refl _
abbrev st_names_of : Stmt := topS 3
abbrev N_names_of : List Str := ["program"]
abbrev P_names_of : List Str := ["program"]
theorem sc_names_of : FnScope N_names_of P_names_of (defScope st_names_of) := ⟨rfl, rfl, rfl, by decide +kernel, rfl, by decide +kernel, by decide +kernel⟩
theorem d_nmsof (F : Fnd K mg "names_of" st_names_of P_names_of) (hB : Blt mg) (n : Nat) (D_all_names : Dfn P w K mg base "all_names" (n + 4) P_all_names (spP K (PrAll n))) : Dfn P w K mg base "names_of" (n + 5) P_names_of (spP K (PrNmsOf n)) := by
  refine F.pure sc_names_of (fun xs d ⟨_, _, h, _⟩ => by subst h; rfl) fun f cdv A outer s H E hr => ⟨_, (pss_one (ps_ret (pe_callTy (k_tup K rfl) (by rfl) hB.tuple (by decide +kernel) (pa_cons (pe_callB (Ft.cr_sortX rfl (hu100 hr)) (by rfl) hB.sorted (by decide +kernel) (pa_cons (pe_callTy (Ft.cr_setS rfl) (by rfl) hB.set (by decide +kernel) (pa_cons (pe_callD D_all_names (hr.mono (by omega)) (by rfl) (pa_cons (pv 0) pa_nil)) pa_nil)) pa_nil)) pa_nil)))), ?_⟩
  rintro xs o ⟨nm, b, rfl, hok, hnm, htd, hdp, hz, rfl⟩
  exact do_ret (ev_tupL (evs_dat (Ft.ev_sortSet (evs_dat (ev_call (Pr := PrAll n) (eva_cons (ev_var rfl rfl) eva_nil) ⟨b, rfl, htd, hdp, hz, rfl⟩)) (all_ddp hok hnm)))) rfl
end
/-! ### gather, flows -/
section
variable {P : Program} {w : World} {K : PySem.W.Frag} {mg : Str → Option Value} {base : Heap}
abbrev st_gather : Stmt := topS 5
abbrev N_gather : List Str := ["program", "around", "found", "deed", "target", "names", "name"]
abbrev P_gather : List Str := ["program", "around", "found"]
theorem sc_gather : FnScope N_gather P_gather (defScope st_gather) := ⟨rfl, rfl, rfl, by decide +kernel, rfl, by decide +kernel, by decide +kernel⟩
theorem d_gather (F : Fnd K mg "gather" st_gather P_gather) (D_names_in : Dfn P w K mg base "names_in" 3 P_names_in (spP K (PrNin 3))) : ∀ n : Nat, Dfn P w K mg base "gather" (n + 4) P_gather (spGa P w n)
  | 0 => by
    obtain ⟨f, fd, F, hm, hb⟩ := F
    exact ⟨f, fd, ⟨fun vs H Q E ⟨_, _, _, _, _, _, _, _, _, _, _, _, _, _, h, _⟩ => absurd h (Nat.not_lt_zero _), fun A outer s H args us vs Q E _ _ _ _ ⟨_, _, _, _, _, _, _, _, _, _, _, _, _, _, h, _⟩ => absurd h (Nat.not_lt_zero _)⟩, hm, F.kp, hb, fun_lk F⟩
  | n + 1 => by
    have D_gather := d_gather F D_names_in n
    refine F.ok sc_gather (fun vs H Q E h => ?_) fun f cdv A outer s0 H E hr => ⟨_, (pss_one (ps_for PassesOwn.never rfl (k_pit K rfl (pv 0)) (pg_name (i := 3) sc_gather.nd rfl (by first | exact Or.inl rfl | exact Or.inr rfl)) (pss_cons (ps_if (pt_cmpR op_eq (pe_ix (k_ixT K rfl) (pv 3) pe_int (fun _ _ => rfl)) pe_str (nomark _)) (pss_cons (ps_set (i := 4) sc_gather.nd rfl (by first | exact Or.inl rfl | exact Or.inr rfl) (pf_tup (pa_cons pe_str (pa_cons (pe_ix (k_ixT K rfl) (pv 3) pe_int (fun _ _ => rfl)) pa_nil))))
      (pss_one (ps_set (i := 5) sc_gather.nd rfl (by first | exact Or.inl rfl | exact Or.inr rfl) (pe_op op_cat (pv 1) (pe_callD D_names_in (hr.mono (by omega)) (by rfl) (pa_cons (pe_ix (k_ixT K rfl) (pv 3) pe_int (fun _ _ => rfl)) pa_nil)))))) (pss_one (ps_if (pt_cmpR op_eq (pe_ix (k_ixT K rfl) (pv 3) pe_int (fun _ _ => rfl)) pe_str (nomark _)) (pss_cons (ps_set (i := 4) sc_gather.nd rfl (by first | exact Or.inl rfl | exact Or.inr rfl) (pf_tup (pa_cons pe_str (pa_cons (pe_ix (k_ixT K rfl) (pv 3) pe_int (fun _ _ => rfl)) pa_nil))))
      (pss_one (ps_set (i := 5) sc_gather.nd rfl (by first | exact Or.inl rfl | exact Or.inr rfl) (pe_op op_cat (pv 1) (pe_callD D_names_in (hr.mono (by omega)) (by rfl) (pa_cons (pe_ix (k_ixT K rfl) (pv 3) pe_int (fun _ _ => rfl)) pa_nil)))))) (pss_cons (ps_set (i := 4) sc_gather.nd rfl (by first | exact Or.inl rfl | exact Or.inr rfl) (pf_tup (pa_cons pe_str (pa_cons pe_int pa_nil))))
      (pss_one (ps_set (i := 5) sc_gather.nd rfl (by first | exact Or.inl rfl | exact Or.inr rfl) (pe_op op_cat (pv 1) (pe_callD D_names_in (hr.mono (by omega)) (by rfl) (pa_cons (pe_ix (k_ixT K rfl) (pv 3) pe_int (fun _ _ => rfl)) pa_nil)))))))))
      (pss_cons (ps_if (pt_cmpR op_eq (pe_ix (k_ixT K rfl) (pv 3) pe_int (fun _ _ => rfl)) pe_str (nomark _)) (pss_cons (ps_expr (pe_callD D_gather (hr.mono (by omega)) (by rfl) (pa_cons (pe_ix (k_ixT K rfl) (pv 3) pe_int (fun _ _ => rfl)) (pa_cons (pv 5) (pa_cons (pv 2) pa_nil)))))
      (pss_one (ps_expr (pe_callD D_gather (hr.mono (by omega)) (by rfl) (pa_cons (pe_ix (k_ixT K rfl) (pv 3) pe_int (fun _ _ => rfl)) (pa_cons (pv 5) (pa_cons (pv 2) pa_nil))))))) (pss_one (ps_for PassesOwn.never rfl (k_pil K rfl (pv 5)) (pg_name (i := 6) sc_gather.nd rfl (by first | exact Or.inl rfl | exact Or.inr rfl)) (pss_one (Fn.ps_fput (hu32 hr) (pv 2) (pf_tup (pa_cons (pv 6) (pa_cons (pv 4) pa_nil))) pe_bl rfl)))))
      (pss_one (ps_if (pt_cmpR op_eq (pe_ix (k_ixT K rfl) (pv 3) pe_int (fun _ _ => rfl)) pe_str (nomark _)) (pss_one (ps_expr (pe_callD D_gather (hr.mono (by omega)) (by rfl) (pa_cons (pe_ix (k_ixT K rfl) (pv 3) pe_int (fun _ _ => rfl)) (pa_cons (pv 1) (pa_cons (pv 2) pa_nil)))))) pss_nil)))))), ?_⟩
    · obtain ⟨ds, ar, v, va, a, rows, G, rfl, _⟩ := h
      rfl
    rintro vs Q ⟨ds, ar, v, va, a, rows, G, rfl, sm, hv, hva, out, at_, ks, hdp, htd, har, hz, q⟩
    have E0 : En K G G G G (L2.start N_gather [v, va, .ref a]) ([.dat (encB ds), .dat (.list (ar.map .str)), .val (.ref a)] ++ List.replicate (N_gather.length - 3) .any) := en_start (N := N_gather) (Same.refl G) (.cons hv (.cons hva (.cons rfl .nil)))
    have L0 : GLive P w K G H a (L2.start N_gather [v, va, .ref a]) [.dat (encB ds), .dat (.list (ar.map .str)), .val (.ref a), .any, .any, .any, .any] G H rows := ⟨E0.rebase (by rfl) sm, by rfl, .refl sm, at_, out, ks⟩
    refine gl_for (ds := encL ds) L0 (fun _ => [.dat (encB ds), .dat (.list (ar.map .str)), .val (.ref a), .any, .any, .any, .any]) (fun i rs => rs.map (·.1) = insF (rows.map (·.1)) (gaL ar (ds.take i))) (evi_tup (ev_var rfl rfl)) (by exact Sub.refl _) (fun _ => by rfl) (by rw [List.take_zero, gaL]; rfl) (fun i d hd => ?_) fun σ' G' H' rs L hrs => ?_
    · obtain ⟨e, he, rfl⟩ := encL_get hd
      have hmem : e ∈ ds := List.mem_of_getElem? he
      have edp : e.depth < n + 1 := Nat.lt_of_le_of_lt (depthL_le.mp (Nat.le_refl _) e hmem) hdp
      have etd := tdepL_le.mp htd e hmem
      have hrest := ga_rest (ar := ar) he
      refine ⟨_, _, evg_name, by rfl, fun Gc2 Hc2 σ' G' H' rs D' hrs L k => ?_⟩
      have L : GLive P w K Gc2 Hc2 a σ' [.dat (encB ds), .dat (.list (ar.map .str)), .val (.ref a), .dat (encD e), .any, .any, .any] G' H' rs := L
      have hrl : rs.length ≤ rows.length + (gaL ar (ds.take i)).length := by
        have h1 := congrArg List.length hrs
        have h2 := insF_len (gaL ar (ds.take i)) (rows.map (·.1))
        rw [List.length_map] at h1 h2
        omega
      -- the end of a turn
      have fin : ∀ σ2 G2 H2 rows2 Γ2, GLive P w K Gc2 Hc2 a σ2 Γ2 G2 H2 rows2 → Sub Γ2 [.dat (encB ds), .dat (.list (ar.map .str)), .val (.ref a), .any, .any, .any, .any] → rows2.map (·.1) = insF (rs.map (·.1)) (gaD ar e) → D'.nx σ2 H2 := fun σ2 G2 H2 rows2 Γ2 L2 sb hr2 => k σ2 G2 H2 rows2 (L2.sub sb (by rfl)) (by rw [hr2, hrs, ga_next he, insF_app])
      -- the loop over the names
      have loop : ∀ (nms : List Str) (t : Tg) (σ2 : St) (G2 H2 : Hp) (rows2 : List Fn.Row) (D2 : Ends) (De : PyData), GLive P w K Gc2 Hc2 a σ2 [.dat (encB ds), .dat (.list (ar.map .str)), .val (.ref a), .dat De, .dat (encG t), .dat (.list (nms.map .str)), .any] G2 H2 rows2 → rows2.length + nms.length ≤ 100000 →
          (∀ σ3 G3 H3 rows3, GLive P w K Gc2 Hc2 a σ3 [.dat (encB ds), .dat (.list (ar.map .str)), .val (.ref a), .dat De, .dat (encG t), .dat (.list (nms.map .str)), .any] G3 H3 rows3 → rows3.map (·.1) = insF (rows2.map (·.1)) (nms.map fun x => (x, t)) → D2.nx σ3 H3) →
          tFor (iList K (tVar 5)) (gName 6) (sFPut P w (tVar 2) (tTupF (tCons (tVar 6) (tCons (tVar 4) tNil))) (tC (.bl true))) D2 σ2 H2 := fun nms t σ2 G2 H2 rows2 D2 De L2 hz2 k2 => by
        refine gl_for (ds := nms.map .str) L2 (fun _ => [.dat (encB ds), .dat (.list (ar.map .str)), .val (.ref a), .dat De, .dat (encG t), .dat (.list (nms.map .str)), .any]) (fun j rs => rs.map (·.1) = insF (rows2.map (·.1)) ((nms.take j).map fun x => (x, t))) (evi_list (ev_var rfl rfl)) (by exact Sub.refl _) (fun _ => by rfl) (by rw [List.take_zero]; rfl) (fun j d hd => ?_) fun σ3 G3 H3 rs3 L3 h3 => k2 σ3 G3 H3 rs3 L3 (by rw [h3, List.length_map, List.take_length])
        rw [List.getElem?_map] at hd
        cases hx : nms[j]? with
        | none => rw [hx] at hd; cases hd
        | some x =>
          rw [hx] at hd
          cases hd
          refine ⟨_, _, evg_name, by rfl, fun Gc3 Hc3 σ3 G3 H3 rs3 D3 h3 L3 k3 => ?_⟩
          have L3 : GLive P w K Gc3 Hc3 a σ3 [.dat (encB ds), .dat (.list (ar.map .str)), .val (.ref a), .dat De, .dat (encG t), .dat (.list (nms.map .str)), .dat (.str x)] G3 H3 rs3 := L3
          refine gl_put (x := x) (t := t) L3 rfl rfl rfl ?_ fun G4 H4 rs4 L4 h4 => k3 σ3 G4 H4 rs4 (L4.sub ⟨.inr rfl, .inr rfl, .inr rfl, .inr rfl, .inr rfl, .inr rfl, .inl rfl, trivial⟩ (by rfl)) ?_
          · have h1 := congrArg List.length h3
            have h2 := insF_len ((nms.take j).map fun x => (x, t)) (rows2.map (·.1))
            rw [List.length_map] at h1 h2
            rw [List.length_map, List.length_take] at h2
            omega
          · rw [h4, h3, List.take_add_one, hx, List.map_append, insF_app]
            rfl
      cases e with
      | put x t =>
        simp only [Dd.tdep] at etd
        rw [gaD, List.length_map] at hrest
        have tn := names_len t
        have tp : 2 ^ t.depth ≤ 4 := Nat.le_trans (Nat.pow_le_pow_right (by decide) etd) (by decide)
        refine gl_seq (gl_do (Γ1 := [.dat (encB ds), .dat (.list (ar.map .str)), .val (.ref a), .dat (encD (.put x t)), .dat (encG (.nm x)), .dat (.list ((ar ++ t.names).map .str)), .any]) L ?_ (by rfl) fun σ2 G2 H2 L2 => ?_)
        · refine do_yes (by repeat' walk_at "ev") (do_seq (do_asg (x := .dat (encG (.nm x))) (ev_tup (ds := [.str "name", .str x]) (by repeat' walk_at "ev") rfl)) (do_asg (x := .dat (.list ((ar ++ t.names).map .str))) ?_))
          rw [List.map_append]
          exact ev_cat (evs_dat (ev_var rfl rfl)) (evs_dat (ev_call (Pr := PrNin 3) (eva_cons (ev_ixT (ds := [.str "put", .str x, encT t]) (ev_var rfl rfl) ev_cint rfl) eva_nil) ⟨t, rfl, by omega, by decide, rfl⟩)) (by rw [List.length_map, List.length_map]; show _ ≤ 16777216; omega)
        · dsimp only
          refine gl_seq (gl_no L2 (by repeat' walk_at "ev") fun G3 H3 L3 => ?_)
          refine loop _ _ _ _ _ _ _ _ L3 (by omega) fun σ4 G4 H4 rs4 L4 h4 => ?_
          dsimp only
          refine gl_no L4 (by repeat' walk_at "ev") fun G5 H5 L5 => ?_
          exact fin _ _ _ _ _ L5 ⟨.inr rfl, .inr rfl, .inr rfl, .inl rfl, .inl rfl, .inl rfl, .inl rfl, trivial⟩ (by rw [h4, gaD])
      | shw l t =>
        simp only [Dd.tdep] at etd
        rw [gaD, List.length_map] at hrest
        have tn := names_len t
        have tp : 2 ^ t.depth ≤ 4 := Nat.le_trans (Nat.pow_le_pow_right (by decide) etd) (by decide)
        refine gl_seq (gl_do (Γ1 := [.dat (encB ds), .dat (.list (ar.map .str)), .val (.ref a), .dat (encD (.shw l t)), .dat (encG (.pg l)), .dat (.list ((ar ++ t.names).map .str)), .any]) L ?_ (by rfl) fun σ2 G2 H2 L2 => ?_)
        · refine do_if (b := false) (by repeat' walk_at "ev") (fun e => by cases e) fun _ => do_yes (by repeat' walk_at "ev") (do_seq (do_asg (x := .dat (encG (.pg l))) (ev_tup (ds := [.str "page", .int l]) (by repeat' walk_at "ev") rfl)) (do_asg (x := .dat (.list ((ar ++ t.names).map .str))) ?_))
          rw [List.map_append]
          exact ev_cat (evs_dat (ev_var rfl rfl)) (evs_dat (ev_call (Pr := PrNin 3) (eva_cons (ev_ixT (ds := [.str "show", .int l, encT t]) (ev_var rfl rfl) ev_cint rfl) eva_nil) ⟨t, rfl, by omega, by decide, rfl⟩)) (by rw [List.length_map, List.length_map]; show _ ≤ 16777216; omega)
        · dsimp only
          refine gl_seq (gl_no L2 (by repeat' walk_at "ev") fun G3 H3 L3 => ?_)
          refine loop _ _ _ _ _ _ _ _ L3 (by omega) fun σ4 G4 H4 rs4 L4 h4 => ?_
          dsimp only
          refine gl_no L4 (by repeat' walk_at "ev") fun G5 H5 L5 => ?_
          exact fin _ _ _ _ _ L5 ⟨.inr rfl, .inr rfl, .inr rfl, .inl rfl, .inl rfl, .inl rfl, .inl rfl, trivial⟩ (by rw [h4, gaD])
      | ite t c1 c2 =>
        simp only [Dd.depth] at edp
        simp only [Dd.tdep] at etd
        rw [gaD, List.length_append] at hrest
        have tn := names_len t
        have tp : 2 ^ t.depth ≤ 4 := Nat.le_trans (Nat.pow_le_pow_right (by decide) (show t.depth ≤ 2 by omega)) (by decide)
        refine gl_seq (gl_do (Γ1 := [.dat (encB ds), .dat (.list (ar.map .str)), .val (.ref a), .dat (encD (.ite t c1 c2)), .dat (encG (.pg 0)), .dat (.list ((ar ++ t.names).map .str)), .any]) L ?_ (by rfl) fun σ2 G2 H2 L2 => ?_)
        · refine do_if (b := false) (by repeat' walk_at "ev") (fun e => by cases e) fun _ => do_if (b := false) (by repeat' walk_at "ev") (fun e => by cases e) fun _ => (do_seq (do_asg (x := .dat (encG (.pg 0))) (ev_tup (ds := [.str "page", .int 0]) (by repeat' walk_at "ev") rfl)) (do_asg (x := .dat (.list ((ar ++ t.names).map .str))) ?_))
          rw [List.map_append]
          exact ev_cat (evs_dat (ev_var rfl rfl)) (evs_dat (ev_call (Pr := PrNin 3) (eva_cons (ev_ixT (ds := [.str "if", encT t, encB c1, encB c2]) (ev_var rfl rfl) ev_cint rfl) eva_nil) ⟨t, rfl, by omega, by decide, rfl⟩)) (by rw [List.length_map, List.length_map]; show _ ≤ 16777216; omega)
        · dsimp only
          refine gl_seq (gl_yes L2 (by repeat' walk_at "ev") fun G3 H3 L3 => ?_)
          have hl : (ar ++ t.names).length + 4 * n ≤ 1000 := by rw [List.length_append]; omega
          refine gl_seq (gl_callE (ds := c1) (ar := ar ++ t.names) L3 (ev_ixT (ds := [.str "if", encT t, encB c1, encB c2]) (ev_var rfl rfl) ev_cint rfl) (ev_var rfl rfl) rfl (by omega) (by omega) hl (by omega) fun G4 H4 rs4 L4 h4 => ?_)
          have hl4 : rs4.length ≤ rs.length + (gaL (ar ++ t.names) c1).length := by
            have h1 := congrArg List.length h4
            have h2 := insF_len (gaL (ar ++ t.names) c1) (rs.map (·.1))
            rw [List.length_map] at h1 h2
            omega
          dsimp only
          refine gl_callE (ds := c2) (ar := ar ++ t.names) L4 (ev_ixT (ds := [.str "if", encT t, encB c1, encB c2]) (ev_var rfl rfl) ev_cint rfl) (ev_var rfl rfl) rfl (by omega) (by omega) hl (by omega) fun G5 H5 rs5 L5 h5 => ?_
          dsimp only
          refine gl_no L5 (by repeat' walk_at "ev") fun G6 H6 L6 => ?_
          exact fin _ _ _ _ _ L6 ⟨.inr rfl, .inr rfl, .inr rfl, .inl rfl, .inl rfl, .inl rfl, .inl rfl, trivial⟩ (by rw [h5, h4, gaD, insF_app])
      | whl t c1 =>
        simp only [Dd.depth] at edp
        simp only [Dd.tdep] at etd
        rw [gaD, List.length_append, List.length_map] at hrest
        have tn := names_len t
        have tp : 2 ^ t.depth ≤ 4 := Nat.le_trans (Nat.pow_le_pow_right (by decide) (show t.depth ≤ 2 by omega)) (by decide)
        refine gl_seq (gl_do (Γ1 := [.dat (encB ds), .dat (.list (ar.map .str)), .val (.ref a), .dat (encD (.whl t c1)), .dat (encG (.pg 0)), .dat (.list ((ar ++ t.names).map .str)), .any]) L ?_ (by rfl) fun σ2 G2 H2 L2 => ?_)
        · refine do_if (b := false) (by repeat' walk_at "ev") (fun e => by cases e) fun _ => do_if (b := false) (by repeat' walk_at "ev") (fun e => by cases e) fun _ => (do_seq (do_asg (x := .dat (encG (.pg 0))) (ev_tup (ds := [.str "page", .int 0]) (by repeat' walk_at "ev") rfl)) (do_asg (x := .dat (.list ((ar ++ t.names).map .str))) ?_))
          rw [List.map_append]
          exact ev_cat (evs_dat (ev_var rfl rfl)) (evs_dat (ev_call (Pr := PrNin 3) (eva_cons (ev_ixT (ds := [.str "while", encT t, encB c1]) (ev_var rfl rfl) ev_cint rfl) eva_nil) ⟨t, rfl, by omega, by decide, rfl⟩)) (by rw [List.length_map, List.length_map]; show _ ≤ 16777216; omega)
        · dsimp only
          refine gl_seq (gl_no L2 (by repeat' walk_at "ev") fun G3 H3 L3 => ?_)
          refine loop _ _ _ _ _ _ _ _ L3 (by omega) fun σ4 G4 H4 rs4 L4 h4 => ?_
          have hl4 : rs4.length ≤ rs.length + (ar ++ t.names).length := by
            have h1 := congrArg List.length h4
            have h2 := insF_len ((ar ++ t.names).map fun x => (x, Tg.pg 0)) (rs.map (·.1))
            rw [List.length_map] at h1 h2
            rw [List.length_map] at h2
            omega
          dsimp only
          refine gl_yes L4 (by repeat' walk_at "ev") fun G5 H5 L5 => ?_
          refine gl_callE (ds := c1) (ar := ar) L5 (ev_ixT (ds := [.str "while", encT t, encB c1]) (ev_var rfl rfl) ev_cint rfl) (ev_var rfl rfl) rfl (by omega) (by omega) (by omega) (by omega) fun G6 H6 rs6 L6 h6 => ?_
          exact fin _ _ _ _ _ L6 ⟨.inr rfl, .inr rfl, .inr rfl, .inl rfl, .inl rfl, .inl rfl, .inl rfl, trivial⟩ (by rw [h6, h4, gaD, insF_app])
    · exact q G' H' rs L.x L.at_ L.out L.ks (by rw [hrs, encL_len, List.take_length])
end
section
variable {P : Program} {w : World} {K : PySem.W.Frag} {mg : Str → Option Value} {base : Heap}
abbrev st_flows : Stmt := topS 6
abbrev N_flows : List Str := ["program", "found"]
abbrev P_flows : List Str := ["program"]
theorem sc_flows : FnScope N_flows P_flows (defScope st_flows) := ⟨rfl, rfl, rfl, by decide +kernel, rfl, by decide +kernel, by decide +kernel⟩
theorem d_flows (F : Fnd K mg "flows" st_flows P_flows) (hB : Blt mg) (n : Nat) (D_gather : Dfn P w K mg base "gather" (n + 4) P_gather (spGa P w n)) : Dfn P w K mg base "flows" (n + 5) P_flows (spP K (PrFlows n)) := by
  refine F.pure sc_flows (fun xs d ⟨_, h, _⟩ => by subst h; rfl) fun f cdv A outer s H E hr => ⟨_, (pss_cons (ps_set (i := 1) sc_flows.nd rfl (by first | exact Or.inl rfl | exact Or.inr rfl) Fn.pe_fnew)
      (pss_cons (ps_expr (pe_callD D_gather (hr.mono (by omega)) (by rfl) (pa_cons (pv 0) (pa_cons (pe_lst pa_nil) (pa_cons (pv 1) pa_nil)))))
      (pss_one (ps_ret (pe_callTy (k_tup K rfl) (by rfl) hB.tuple (by decide +kernel) (pa_cons (pe_callB (Fn.cr_sortFlo rfl (hu100 hr)) (by rfl) hB.sorted (by decide +kernel) (pa_cons (pv 1) pa_nil)) pa_nil)))))), ?_⟩
  rintro xs o ⟨b, rfl, ok, rfl⟩
  intro G0 H0 G H σ D E hn hr2
  refine gl_seq (fun p hp => ?_)
  have hg : G p = none := E.s.free hp
  have L : GLive P w K G H p (σ.set 1 (some (.ref p))) [.dat (encB b), .val (.ref p)] G (upd H p (FloO P w p [])) [] :=
    ⟨(E.set (i := 1) (x := .val (.ref p)) rfl).rebase (by rfl) (same_out E.s hg), by rfl, ⟨Same.refl _, fun q u hq h => by rw [upd_ne hq]; exact h, same_out E.s hg, fun _ _ h => h⟩, upd_same, hg, fun r hr => by cases hr⟩
  show tSeq _ _ D (σ.set 1 (some (.ref p))) (upd H p (FloO P w p []))
  refine gl_seq (gl_callE (ds := b) (ar := []) L (ev_var rfl rfl) (ev_lst evd_nil rfl) rfl ok.dp ok.td (by have := ok.n; show 0 + 4 * n ≤ 1000; omega) (by have := ok.z; show 0 + _ ≤ 100000; omega) fun G1 H1 rows L1 hr1 => ?_)
  dsimp only
  obtain ⟨ov, h1, h2⟩ := L1.E.ok 1 (.val (.ref p)) rfl
  have hz : rows.length ≤ 100000 := by
    have q1 := congrArg List.length hr1
    have q2 := insF_len (gaL [] b) []
    have q3 := ok.z
    rw [List.length_map] at q1
    have q2' : (insF [] (gaL [] b)).length ≤ 0 + (gaL [] b).length := q2
    have q1' : rows.length = (insF [] (gaL [] b)).length := q1
    omega
  refine ⟨_, by rw [h1, h2], p, rows, G1, rfl, L1.E.s, L1.at_, L1.ks, hz, fun l us nl hd => ⟨l, us, rfl, .inl ⟨SqL.of upd_same, fun t ot nt hot => ?_⟩⟩⟩
  have e1 : Ext G0 H0 G1 H1 := ⟨E.x.g.trans L1.x.g, fun q u hq => L1.x.h q u (fun e => by subst e; rw [E.x.h _ _ hq] at hp; cases hp) (E.x.h q u hq), L1.E.s, fun q q1 q2 => L1.x.n q (Same.some' E.x.h q1) (E.x.n q q1 q2)⟩
  have e2 := e1.trans (Ext.new (o := .lst us) L1.E.s nl)
  have e3 := e2.trans (Ext.new (o := frT ot us) e2.i nt)
  have hfl : rows.map (·.1) = insF [] (gaL [] b) := hr1
  rw [hfl] at hd
  exact hr2 _ _ _ _ rfl e3 (Dr.tup (Tp.new hot) (hd.up ((same_up (L1.E.s.free nl)).trans (same_up (e2.i.free nt)))))
end
/-! ### flows by hand -/
section
variable {P : Program} {w : World} {K : PySem.W.Frag} {mg : Str → Option Value} {base : Heap}
open Fs (upF)
abbrev st_l_flows : Stmt := topS 24
abbrev N_l_flows : List Str := ["_law_block_here", "_law_around", "_law_found", "_law_deed_here", "_law_names_here", "_law_name_here"]
abbrev P_l_flows : List Str := ["_law_block_here", "_law_around"]
theorem sc_l_flows : FnScope N_l_flows P_l_flows (defScope st_l_flows) := ⟨rfl, rfl, rfl, by decide +kernel, rfl, by decide +kernel, by decide +kernel⟩
theorem d_lflows (F : Fnd K mg "_law_flows" st_l_flows P_l_flows) (hB : Blt mg) (D_l_names_in : Dfn P w K mg base "_law_names_in" 3 P_l_names_in (spP K (PrNin 3))) : ∀ n : Nat, Dfn P w K mg base "_law_flows" (n + 4) P_l_flows (spP K (PrLF n))
  | 0 => F.never fun xs d ⟨_, _, _, _, h, _⟩ => absurd h (Nat.not_lt_zero _)
  | n + 1 => by
    have D_l_flows := d_lflows F hB D_l_names_in n
    refine F.pure sc_l_flows (fun xs d ⟨_, _, _, h, _⟩ => by subst h; rfl) fun f cdv A outer s H E hr => ⟨_, (pss_cons (ps_set (i := 2) sc_l_flows.nd rfl (by first | exact Or.inl rfl | exact Or.inr rfl) (pe_lst pa_nil))
      (pss_cons (ps_for PassesOwn.never rfl (k_pit K rfl (pv 0)) (pg_name (i := 3) sc_l_flows.nd rfl (by first | exact Or.inl rfl | exact Or.inr rfl)) (pss_cons (ps_if (pt_cmpR op_eq (pe_ix (k_ixT K rfl) (pv 3) pe_int (fun _ _ => rfl)) pe_str (nomark _)) (pss_one (ps_expr (k_bm K rfl PySem.F.plainAttrs_list PySem.F.slot_list_extend PySem.F.type_list_extend mt_extend (pv 2) (pa_cons (pe_lc (own := [("_law_name_here", 5)]) (g := (gName 5)) (tt := tYes) (by rfl) sc_l_flows.nd (k_pil K rfl (pe_op op_cat (pv 1) (pe_callD D_l_names_in (hr.mono (by omega)) (by rfl) (pa_cons (pe_ix (k_ixT K rfl) (pv 3) pe_int (fun _ _ => rfl)) pa_nil)))) (blkOk_by (own := [("_law_name_here", 5)]) (N := N_l_flows) (sc := defScope st_l_flows) (by decide +kernel)) (fun _ _ _ _ _ => (pg_name (i := 5) sc_l_flows.nd rfl (by first | exact Or.inl rfl | exact Or.inr rfl))) (fun _ _ _ _ _ => pts_nil) (fun _ _ _ _ _ => (pf_tup (pa_cons (pv 5) (pa_cons (pf_tup (pa_cons pe_str (pa_cons (pe_ix (k_ixT K rfl) (pv 3) pe_int (fun _ _ => rfl)) pa_nil))) pa_nil))))) pa_nil)))) pss_nil)
      (pss_cons (ps_if (pt_cmpR op_eq (pe_ix (k_ixT K rfl) (pv 3) pe_int (fun _ _ => rfl)) pe_str (nomark _)) (pss_one (ps_expr (k_bm K rfl PySem.F.plainAttrs_list PySem.F.slot_list_extend PySem.F.type_list_extend mt_extend (pv 2) (pa_cons (pe_lc (own := [("_law_name_here", 5)]) (g := (gName 5)) (tt := tYes) (by rfl) sc_l_flows.nd (k_pil K rfl (pe_op op_cat (pv 1) (pe_callD D_l_names_in (hr.mono (by omega)) (by rfl) (pa_cons (pe_ix (k_ixT K rfl) (pv 3) pe_int (fun _ _ => rfl)) pa_nil)))) (blkOk_by (own := [("_law_name_here", 5)]) (N := N_l_flows) (sc := defScope st_l_flows) (by decide +kernel)) (fun _ _ _ _ _ => (pg_name (i := 5) sc_l_flows.nd rfl (by first | exact Or.inl rfl | exact Or.inr rfl))) (fun _ _ _ _ _ => pts_nil) (fun _ _ _ _ _ => (pf_tup (pa_cons (pv 5) (pa_cons (pf_tup (pa_cons pe_str (pa_cons (pe_ix (k_ixT K rfl) (pv 3) pe_int (fun _ _ => rfl)) pa_nil))) pa_nil))))) pa_nil)))) pss_nil)
      (pss_cons (ps_if (pt_cmpR op_eq (pe_ix (k_ixT K rfl) (pv 3) pe_int (fun _ _ => rfl)) pe_str (nomark _)) (pss_cons (ps_expr (k_bm K rfl PySem.F.plainAttrs_list PySem.F.slot_list_extend PySem.F.type_list_extend mt_extend (pv 2) (pa_cons (pe_lc (own := [("_law_name_here", 5)]) (g := (gName 5)) (tt := tYes) (by rfl) sc_l_flows.nd (k_pil K rfl (pe_op op_cat (pv 1) (pe_callD D_l_names_in (hr.mono (by omega)) (by rfl) (pa_cons (pe_ix (k_ixT K rfl) (pv 3) pe_int (fun _ _ => rfl)) pa_nil)))) (blkOk_by (own := [("_law_name_here", 5)]) (N := N_l_flows) (sc := defScope st_l_flows) (by decide +kernel)) (fun _ _ _ _ _ => (pg_name (i := 5) sc_l_flows.nd rfl (by first | exact Or.inl rfl | exact Or.inr rfl))) (fun _ _ _ _ _ => pts_nil) (fun _ _ _ _ _ => (pf_tup (pa_cons (pv 5) (pa_cons (pf_tup (pa_cons pe_str (pa_cons pe_int pa_nil))) pa_nil))))) pa_nil)))
      (pss_one (ps_expr (k_bm K rfl PySem.F.plainAttrs_list PySem.F.slot_list_extend PySem.F.type_list_extend mt_extend (pv 2) (pa_cons (pe_callD D_l_flows (hr.mono (by omega)) (by rfl) (pa_cons (pe_ix (k_ixT K rfl) (pv 3) pe_int (fun _ _ => rfl)) (pa_cons (pv 1) pa_nil))) pa_nil))))) pss_nil)
      (pss_one (ps_if (pt_cmpR op_eq (pe_ix (k_ixT K rfl) (pv 3) pe_int (fun _ _ => rfl)) pe_str (nomark _)) (pss_cons (ps_set (i := 4) sc_l_flows.nd rfl (by first | exact Or.inl rfl | exact Or.inr rfl) (pe_op op_cat (pv 1) (pe_callD D_l_names_in (hr.mono (by omega)) (by rfl) (pa_cons (pe_ix (k_ixT K rfl) (pv 3) pe_int (fun _ _ => rfl)) pa_nil))))
      (pss_one (ps_expr (k_bm K rfl PySem.F.plainAttrs_list PySem.F.slot_list_extend PySem.F.type_list_extend mt_extend (pv 2) (pa_cons (pe_op op_cat (pe_callD D_l_flows (hr.mono (by omega)) (by rfl) (pa_cons (pe_ix (k_ixT K rfl) (pv 3) pe_int (fun _ _ => rfl)) (pa_cons (pv 4) pa_nil))) (pe_callD D_l_flows (hr.mono (by omega)) (by rfl) (pa_cons (pe_ix (k_ixT K rfl) (pv 3) pe_int (fun _ _ => rfl)) (pa_cons (pv 4) pa_nil)))) pa_nil))))) pss_nil))))))
      (pss_one (ps_ret (pe_callB (Fs.cr_sortSF rfl (hu100 hr)) (by rfl) hB.sorted (by decide +kernel) (pa_cons (pe_callTy (Fs.cr_setF rfl (Nat.lt_of_succ_lt (hu65 hr))) (by rfl) hB.set (by decide +kernel) (pa_cons (pv 2) pa_nil)) pa_nil)))))), ?_⟩
    rintro xs o ⟨b, ar, S, rfl, hdp, htd, har, hz, hS, hs, rfl⟩
    have comp : ∀ (A B C D N : Ds) (ti tn : TE) (nms : List Str) (tg : Tg), Ev K tn [A, B, C, D, N, .any] (.dat (.list (nms.map .str))) → nms.length ≤ 100000 → (∀ x, Ev K ti [A, B, C, D, N, .dat (.str x)] (.dat (encG tg))) →
        EvS K (tLc (iList K tn) (gName 5) tYes (tTupF (tCons (tVar 5) (tCons ti tNil))) [5]) [A, B, C, D, N, .any] ((nms.map fun x => (x, tg)).map encF) := fun A B C D N ti tn nms tg hn hz ht =>
      evs_dat (ev_is (ev_lcM (fun d => match d with | .str x => encF (x, tg) | _ => .none) (evi_list hn) (by rw [List.length_map]; exact hz) fun j e he => by
        rw [List.getElem?_map] at he
        cases hx : nms[j]? with
        | none => rw [hx] at he; cases he
        | some x =>
          rw [hx] at he
          cases he
          exact ⟨_, _, evg_name, by decide, ev_tup (ds := [.str x, encG tg]) (evd_cons (ev_var rfl rfl) (evd_cons (ht x) evd_nil)) rfl⟩) (by rw [List.map_map, List.map_map]; rfl))
    have har4 : ar.length ≤ 996 := by omega
    have hcat : ∀ t : Tm, t.depth ≤ 2 → ((ar.map PyData.str).length + (t.names.map PyData.str).length ≤ sizeLine) ∧ (ar ++ t.names).length ≤ 100000 ∧ t.names.length ≤ 4 := fun t ht => by
      have tn := names_4 ht
      have h16 : sizeLine = 16777216 := by first | exact PyProof.Rows.sizeLine_eq | rfl
      refine ⟨?_, ?_, tn⟩
      · rw [List.length_map, List.length_map]; omega
      · rw [List.length_append]; omega
    refine do_seq (do_newL (ds := []) evd_nil rfl) (do_seq (do_for (ds := encL b) (N := some [.dat (encB b), .dat (.list (ar.map .str)), .own ((lfL ar b).map encF), .any, .any, .any]) (fun _ => True) (fun i => [.dat (encB b), .dat (.list (ar.map .str)), .own ((lfL ar (b.take i)).map encF), .any, .any, .any])
      (evi_tup (ev_var rfl rfl)) (by exact Sub.refl _) trivial (fun i d hd _ => ?_) fun _ => ⟨_, rfl, by rw [encL_len, List.take_length]; exact Sub.refl _⟩) (do_ret (x := .dat (.list ((upF (gaL ar b)).map encF))) (ev_is (Fs.ev_sortSF (evs_own rfl) (ddp_small (fun f hf => hS f (mem_lfL.mp hf)) hs)) (by rw [lf_up])) rfl))
    obtain ⟨e, he, rfl⟩ := encL_get hd
    have hmem : e ∈ b := List.mem_of_getElem? he
    have edp : e.depth < n + 1 := Nat.lt_of_le_of_lt (depthL_le.mp (Nat.le_refl _) e hmem) hdp
    have etd := tdepL_le.mp htd e hmem
    have hn : (lfL ar (b.take i)).length + (lfD ar e).length ≤ 100000 := by
      have h1 := lfL_len (ar := ar) (b.take i)
      have h2 := lfD_len (ar := ar) (d := e)
      have h3 := ga_rest (ar := ar) he
      omega
    have hgz : (gaD ar e).length ≤ 100000 := by
      have h3 := ga_rest (ar := ar) he
      omega
    have hgS : ∀ f ∈ gaD ar e, f ∈ S := fun f hf => hS f (by rw [gaL_flat]; exact List.mem_flatMap.mpr ⟨e, hmem, hf⟩)
    refine ⟨_, _, some [.dat (encB b), .dat (.list (ar.map .str)), .own ((lfL ar (b.take (i + 1))).map encF), .any, .any, .any], evg_name, ?_, fun Γn q => by cases q; exact ⟨trivial, Sub.refl _⟩⟩
    refine do_weak (Γ' := [.dat (encB b), .dat (.list (ar.map .str)), .own ((lfL ar (b.take i)).map encF), .dat (encD e), .any, .any]) (by exact Sub.refl _) ?_
    rw [lf_next he]
    generalize lfL ar (b.take i) = pre at hn
    generalize encB b = Pb
    have stop : ∀ (fs : List Fl) (N4 : Ds) (De : Ds), lfD ar e = fs → Sub [.dat Pb, .dat (.list (ar.map .str)), .own (pre.map encF ++ fs.map encF), De, N4, .any] [.dat Pb, .dat (.list (ar.map .str)), .own ((pre ++ lfD ar e).map encF), .any, .any, .any] := fun fs N4 De h => by
      rw [h, List.map_append]
      exact ⟨.inr rfl, .inr rfl, .inr rfl, .inl rfl, .inl rfl, .inl rfl, trivial⟩
    cases e with
    | put x t =>
      simp only [Dd.tdep] at etd
      obtain ⟨c1, c2, c3⟩ := hcat t etd
      rw [lfD, List.length_map] at hn
      refine do_ifs (b := true) (by repeat' walk_at "ev") (fun _ => do_seq (do_extend rfl (es := ((ar ++ t.names).map fun n => (n, Tg.nm x)).map encF) (comp _ _ _ _ _ _ _ _ (Tg.nm x) ?_ c2 fun y => ev_tup (ds := [.str "name", .str x]) (evd_cons ev_cstr (evd_cons (ev_ixT (ds := [.str "put", .str x, encT t]) (ev_var rfl rfl) ev_cint rfl) evd_nil)) rfl) ?_) ?_) fun e => by cases e
      · rw [List.map_append]
        exact ev_cat (evs_dat (ev_var rfl rfl)) (evs_dat (ev_call (Pr := PrNin 3) (eva_cons (ev_ixT (ds := [.str "put", .str x, encT t]) (ev_var rfl rfl) ev_cint rfl) eva_nil) ⟨t, rfl, by omega, by decide, rfl⟩)) c1
      · rw [List.length_map, List.length_map, List.length_map]
        omega
      · refine do_ifs (b := false) (by repeat' walk_at "ev") (fun e => by cases e) fun _ => do_skip (do_ifs (b := false) (by repeat' walk_at "ev") (fun e => by cases e) fun _ => do_skip (do_no (by repeat' walk_at "ev") (do_next ?_)))
        exact stop _ _ _ (by rw [lfD])
    | shw l t =>
      simp only [Dd.tdep] at etd
      obtain ⟨c1, c2, c3⟩ := hcat t etd
      rw [lfD, List.length_map] at hn
      refine do_ifs (b := false) (by repeat' walk_at "ev") (fun e => by cases e) fun _ => do_skip (do_ifs (b := true) (by repeat' walk_at "ev") (fun _ => do_seq (do_extend rfl (es := ((ar ++ t.names).map fun n => (n, Tg.pg l)).map encF) (comp _ _ _ _ _ _ _ _ (Tg.pg l) ?_ c2 fun y => ev_tup (ds := [.str "page", .int l]) (evd_cons ev_cstr (evd_cons (ev_ixT (ds := [.str "show", .int l, encT t]) (ev_var rfl rfl) ev_cint rfl) evd_nil)) rfl) ?_) ?_) fun e => by cases e)
      · rw [List.map_append]
        exact ev_cat (evs_dat (ev_var rfl rfl)) (evs_dat (ev_call (Pr := PrNin 3) (eva_cons (ev_ixT (ds := [.str "show", .int l, encT t]) (ev_var rfl rfl) ev_cint rfl) eva_nil) ⟨t, rfl, by omega, by decide, rfl⟩)) c1
      · rw [List.length_map, List.length_map, List.length_map]
        omega
      · refine do_ifs (b := false) (by repeat' walk_at "ev") (fun e => by cases e) fun _ => do_skip (do_no (by repeat' walk_at "ev") (do_next ?_))
        exact stop _ _ _ (by rw [lfD])
    | whl t a =>
      simp only [Dd.depth] at edp
      simp only [Dd.tdep] at etd
      obtain ⟨c1, c2, c3⟩ := hcat t (by omega)
      rw [gaD, List.length_append] at hgz
      rw [gaD] at hgS
      rw [lfD, List.length_append, List.length_map] at hn
      refine do_ifs (b := false) (by repeat' walk_at "ev") (fun e => by cases e) fun _ => do_skip (do_ifs (b := false) (by repeat' walk_at "ev") (fun e => by cases e) fun _ => do_skip (do_ifs (b := true) (by repeat' walk_at "ev") (fun _ => do_seq (do_seq (do_extend rfl (es := ((ar ++ t.names).map fun n => (n, Tg.pg 0)).map encF) (comp _ _ _ _ _ _ _ _ (Tg.pg 0) ?_ c2 fun y => ev_tup (ds := [.str "page", .int 0]) (evd_cons ev_cstr (evd_cons ev_cint evd_nil)) rfl) ?_)
        (do_extend rfl (es := (upF (gaL ar a)).map encF) (evs_dat (ev_call (Pr := PrLF n) (eva_cons (ev_ixT (ds := [.str "while", encT t, encB a]) (ev_var rfl rfl) ev_cint rfl) (eva_cons (ev_var rfl rfl) eva_nil)) ⟨a, ar, S, rfl, by omega, by omega, by omega, by omega, fun f hf => hgS f (List.mem_append_right _ hf), hs, rfl⟩)) ?_)) ?_) fun e => by cases e))
      · rw [List.map_append]
        exact ev_cat (evs_dat (ev_var rfl rfl)) (evs_dat (ev_call (Pr := PrNin 3) (eva_cons (ev_ixT (ds := [.str "while", encT t, encB a]) (ev_var rfl rfl) ev_cint rfl) eva_nil) ⟨t, rfl, by omega, by decide, rfl⟩)) c1
      · rw [List.length_map, List.length_map, List.length_map]
        omega
      · rw [List.length_append, List.length_map, List.length_map, List.length_map, List.length_map]
        omega
      · refine do_no (by repeat' walk_at "ev") (do_next ?_)
        have q := stop ((ar ++ t.names).map (fun n => (n, Tg.pg 0)) ++ upF (gaL ar a)) .any (.dat (encD (.whl t a))) (by rw [lfD])
        rw [List.map_append, ← List.append_assoc] at q
        exact q
    | ite t a c =>
      simp only [Dd.depth] at edp
      simp only [Dd.tdep] at etd
      obtain ⟨c1, c2, c3⟩ := hcat t (by omega)
      rw [gaD, List.length_append] at hgz
      rw [gaD] at hgS
      rw [lfD, List.length_append] at hn
      have hl : (ar ++ t.names).length + 4 * n ≤ 1000 := by rw [List.length_append]; omega
      have h16 : sizeLine = 16777216 := by first | exact PyProof.Rows.sizeLine_eq | rfl
      refine do_ifs (b := false) (by repeat' walk_at "ev") (fun e => by cases e) fun _ => do_skip (do_ifs (b := false) (by repeat' walk_at "ev") (fun e => by cases e) fun _ => do_skip (do_ifs (b := false) (by repeat' walk_at "ev") (fun e => by cases e) fun _ => do_skip (do_yes (by repeat' walk_at "ev") (do_seq (do_asg (x := .dat (.list ((ar ++ t.names).map .str))) ?_) (do_post (do_extend rfl (es := (upF (gaL (ar ++ t.names) a)).map encF ++ (upF (gaL (ar ++ t.names) c)).map encF) (evs_dat (ev_cat
        (evs_dat (ev_call (Pr := PrLF n) (eva_cons (ev_ixT (ds := [.str "if", encT t, encB a, encB c]) (ev_var rfl rfl) ev_cint rfl) (eva_cons (ev_var rfl rfl) eva_nil)) ⟨a, ar ++ t.names, S, rfl, by omega, by omega, hl, by omega, fun f hf => hgS f (List.mem_append_left _ hf), hs, rfl⟩))
        (evs_dat (ev_call (Pr := PrLF n) (eva_cons (ev_ixT (ds := [.str "if", encT t, encB a, encB c]) (ev_var rfl rfl) ev_cint rfl) (eva_cons (ev_var rfl rfl) eva_nil)) ⟨c, ar ++ t.names, S, rfl, by omega, by omega, hl, by omega, fun f hf => hgS f (List.mem_append_right _ hf), hs, rfl⟩)) ?_)) ?_) ?_)))))
      · rw [List.map_append]
        exact ev_cat (evs_dat (ev_var rfl rfl)) (evs_dat (ev_call (Pr := PrNin 3) (eva_cons (ev_ixT (ds := [.str "if", encT t, encB a, encB c]) (ev_var rfl rfl) ev_cint rfl) eva_nil) ⟨t, rfl, by omega, by decide, rfl⟩)) c1
      · rw [List.length_map, List.length_map]
        omega
      · rw [List.length_append, List.length_map, List.length_map, List.length_map]
        omega
      · have q := stop (upF (gaL (ar ++ t.names) a) ++ upF (gaL (ar ++ t.names) c)) (.dat (.list ((ar ++ t.names).map .str))) (.dat (encD (.ite t a c))) (by rw [lfD])
        rw [List.map_append] at q
        exact q
end
/-! ### goals by hand -/
section
variable {P : Program} {w : World} {K : PySem.W.Frag} {mg : Str → Option Value} {base : Heap}
abbrev st_l_goal : Stmt := topS 25
abbrev N_l_goal : List Str := ["_law_target", "_law_levels_here"]
abbrev P_l_goal : List Str := ["_law_target", "_law_levels_here"]
theorem sc_l_goal : FnScope N_l_goal P_l_goal (defScope st_l_goal) := ⟨rfl, rfl, rfl, by decide +kernel, rfl, by decide +kernel, by decide +kernel⟩
theorem d_lgoal (F : Fnd K mg "_law_goal" st_l_goal P_l_goal) : Dfn P w K mg base "_law_goal" 1 P_l_goal (spP K PrLvOf) := by
  refine F.pure sc_l_goal (fun xs d ⟨_, _, h, _⟩ => by subst h; rfl) fun f cdv A outer s H E hr => ⟨_, (pss_cons (ps_if (pt_cmpR op_eq (pe_ix (k_ixT K rfl) (pv 0) pe_int (fun _ _ => rfl)) pe_str (nomark _)) (pss_one (ps_ret (pe_ix (k_ixT K rfl) (pv 0) pe_int (fun _ _ => rfl)))) pss_nil)
      (pss_one (ps_ret (pe_dget2 (hu_of hr) (pv 1) (pe_ix (k_ixT K rfl) (pv 0) pe_int (fun _ _ => rfl)) pe_int ⟨rfl, rfl, rfl, rfl⟩)))), ?_⟩
  rintro xs o ⟨t, h, rfl, rfl⟩
  cases t with
  | nm y => exact do_ifs (b := false) (by repeat' walk_at "ev") (fun e => by cases e) fun _ => do_skip (do_ret (x := .dat (.int (look h y))) (ev_get2 (ev_var rfl rfl) (ev_ixT (ds := [.str "name", .str y]) (ev_var rfl rfl) ev_cint rfl)) rfl)
  | pg i => exact do_ifs (b := true) (by repeat' walk_at "ev") (fun _ => do_stop (do_ret (x := .dat (.int i)) (ev_ixT (ds := [.str "page", .int i]) (ev_var rfl rfl) ev_cint rfl) rfl)) fun e => by cases e
end
/-! ### settling -/
section
variable {P : Program} {w : World} {K : PySem.W.Frag} {mg : Str → Option Value} {base : Heap}
abbrev st_trail_of : Stmt := topS 8
abbrev N_trail_of : List Str := ["name", "came", "found"]
abbrev P_trail_of : List Str := ["name", "came"]
theorem sc_trail_of : FnScope N_trail_of P_trail_of (defScope st_trail_of) := ⟨rfl, rfl, rfl, by decide +kernel, rfl, by decide +kernel, by decide +kernel⟩
theorem d_trail (F : Fnd K mg "trail_of" st_trail_of P_trail_of) (hB : Blt mg) : Dfn P w K mg base "trail_of" 1 P_trail_of (spP K PrTrail) := by
  refine F.pure sc_trail_of (fun xs d ⟨_, _, _, _, h, _⟩ => by subst h; rfl) fun f cdv A outer s H E hr => ⟨_, (pss_cons (ps_set (i := 2) sc_trail_of.nd rfl (by first | exact Or.inl rfl | exact Or.inr rfl) (pe_lst (pa_cons (pv 0) pa_nil)))
      (pss_cons (ps_while PassesOwn.never (pt_cmpR op_notNone (pe_dget (hu_of hr) (pv 1) (pe_ix (k_ixL K rfl) (pv 2) pe_int (fun _ _ => rfl)) (fun _ _ => rfl)) pe_non (nomark _)) (pss_one (ps_expr (k_bm K rfl PySem.F.plainAttrs_list PySem.F.slot_list_insert PySem.F.type_list_insert mt_insert (pv 2) (pa_cons pe_int (pa_cons (pe_dget (hu_of hr) (pv 1) (pe_ix (k_ixL K rfl) (pv 2) pe_int (fun _ _ => rfl)) (fun _ _ => rfl)) pa_nil))))))
      (pss_one (ps_ret (pe_callTy (k_tup K rfl) (by rfl) hB.tuple (by decide +kernel) (pa_cons (pv 2) pa_nil)))))), ?_⟩
  rintro xs o ⟨x, cm, fs, x0, rfl, hc, hx, hz, rfl⟩
  have g0 : ∀ (y : Str) (acc : List Str) (Γ : List Ds) (o : Option Str) (d : PyData), Γ[1]? = some (.dic (cmV cm)) → Γ[2]? = some (.own ((y :: acc).map .str)) → par cm y = some o → flatV d = some (oV o) → Ev K (tDGet (tVar 1) (tOp (rIxL K) (tVar 2) (tC (.int 0)))) Γ (.dat d) := fun y acc Γ o d q1 q2 hp hd =>
    ev_dgV (x := y) (evm_dic (ev_var q1 rfl)) (ev_ixL (evs_own q2) ev_cint (by show atI _ ((0 : Nat) : Int) = _; exact atI_nat rfl)) (by rw [lk_cm, hp]; rfl) hd
  refine do_seq (do_newL (ds := [.str x]) (evd_cons (ev_var rfl rfl) evd_nil) rfl) (do_seq (Γ1 := [.dat (.str x), .dic (cmV cm), .own ((trl cm x).map .str)]) (do_while (S := Nat × Str × List Str) (fun s => [.dat (.str x), .dic (cmV cm), .own ((s.2.1 :: s.2.2).map .str)]) (fun s => s.1)
    (fun s => trF s.1 cm s.2.1 (s.2.1 :: s.2.2) = trl cm x ∧ s.2.1 ∈ cm.map (·.1) ∧ rk cm s.2.1 < s.1 ∧ s.2.2.length + s.1 ≤ 200) (fun s => match par cm s.2.1 with | some (some _) => true | _ => false) (cm.length, x, []) (by exact Sub.refl _) ⟨rfl, hx, rk_lt hx, by show 0 + cm.length ≤ 200; omega⟩ ?_ ?_ ?_) (do_ret (x := .dat (.tuple ((trl cm x).map .str))) (ev_tupL (evs_own rfl)) rfl))
  · rintro ⟨n, y, acc⟩ ⟨p1, p2, p3, p4⟩
    rcases hc.par y p2 with ⟨q, _⟩ | ⟨z, q, _⟩
    · exact evt_is (evt_test (ev_notNone (g0 y acc _ _ .none rfl rfl q rfl))) (by show _ = (match par cm y with | some (some _) => true | _ => false); rw [q]; rfl)
    · exact evt_is (evt_test (ev_notNone (g0 y acc _ _ (.str z) rfl rfl q rfl))) (by show _ = (match par cm y with | some (some _) => true | _ => false); rw [q]; rfl)
  · rintro ⟨n, y, acc⟩ ⟨p1, p2, p3, p4⟩ hb
    have p1 : trF n cm y (y :: acc) = trl cm x := p1
    have p3 : rk cm y < n := p3
    have p4 : acc.length + n ≤ 200 := p4
    have hb : (match par cm y with | some (some _) => true | _ => false) = true := hb
    rcases hc.par y p2 with ⟨q, _⟩ | ⟨z, q, q2, q3, _⟩
    · rw [q] at hb
      cases hb
    · obtain ⟨m, rfl⟩ : ∃ m, n = m + 1 := ⟨n - 1, by omega⟩
      refine ⟨_, do_insert0 rfl rfl (g0 y acc _ _ (.str z) rfl rfl q rfl) (by rw [List.length_map, List.length_cons]; omega), fun Γn e => ?_⟩
      cases e
      refine ⟨(m, z, y :: acc), Nat.lt_succ_self m, ⟨?_, q2, ?_, ?_⟩, Sub.refl _⟩
      · rw [← p1]
        show _ = (match par cm y with | some (some y') => trF m cm y' (y' :: y :: acc) | _ => y :: acc)
        rw [q]
      · show rk cm z < m
        omega
      · show acc.length + 1 + m ≤ 200
        omega
  · rintro ⟨n, y, acc⟩ ⟨p1, p2, p3, p4⟩ hb
    have p1 : trF n cm y (y :: acc) = trl cm x := p1
    have p3 : rk cm y < n := p3
    have hb : (match par cm y with | some (some _) => true | _ => false) = false := hb
    obtain ⟨m, rfl⟩ : ∃ m, n = m + 1 := ⟨n - 1, by omega⟩
    have e : trF (m + 1) cm y (y :: acc) = y :: acc := by
      show (match par cm y with | some (some y') => trF m cm y' (y' :: y :: acc) | _ => y :: acc) = _
      rcases hc.par y p2 with ⟨q, _⟩ | ⟨z, q, _⟩
      · rw [q]
      · rw [q] at hb
        cases hb
    rw [e] at p1
    exact ⟨_, rfl, by rw [← p1]; exact Sub.refl _⟩
abbrev st_is_down : Stmt := topS 9
abbrev N_is_down : List Str := ["target", "level", "told"]
abbrev P_is_down : List Str := ["target", "level", "told"]
theorem sc_is_down : FnScope N_is_down P_is_down (defScope st_is_down) := ⟨rfl, rfl, rfl, by decide +kernel, rfl, by decide +kernel, by decide +kernel⟩
theorem d_down (F : Fnd K mg "is_down" st_is_down P_is_down) : Dfn P w K mg base "is_down" 1 P_is_down (spP K PrDown) := by
  refine F.pure sc_is_down (fun xs d ⟨_, _, _, h, _⟩ => by subst h; rfl) fun f cdv A outer s H E hr => ⟨_, (pss_cons (ps_if (pt_cmpR op_eq (pe_ix (k_ixT K rfl) (pv 0) pe_int (fun _ _ => rfl)) pe_str (nomark _)) (pss_one (ps_ret (pe_cmpR op_lt (pe_ix (k_ixT K rfl) (pv 0) pe_int (fun _ _ => rfl)) (pv 1) (nomark _)))) pss_nil)
      (pss_one (ps_ret (pe_and (pe_cmp (pc_din (hu_of hr) (pe_ix (k_ixT K rfl) (pv 0) pe_int (fun _ _ => rfl)) (pv 2)) rfl) (pe_one (pe_cmpR op_lt (pe_dget (hu_of hr) (pv 2) (pe_ix (k_ixT K rfl) (pv 0) pe_int (fun _ _ => rfl)) (fun _ _ => rfl)) (pv 1) (nomark _))))))), ?_⟩
  rintro xs o ⟨t, lv, h, rfl, rfl⟩
  cases t with
  | pg i => exact do_ifs (b := true) (by repeat' walk_at "ev") (fun _ => do_stop (do_ret (x := .dat (.bool (decide (i < lv)))) (ev_bI0 (ev_ixT (ds := [.str "page", .int i]) (ev_var rfl rfl) ev_cint rfl) (ev_var rfl rfl)) rfl)) fun e => by cases e
  | nm y =>
    refine do_ifs (b := false) (by repeat' walk_at "ev") (fun e => by cases e) fun _ => do_skip (do_ret (x := .dat (.bool (has h y && decide (look h y < lv)))) (ev_andV (ev_is (ev_inV (x := y) (ev_ixT (ds := [.str "name", .str y]) (ev_var rfl rfl) ev_cint rfl) (evm_dic (ev_var rfl rfl))) (by rw [hsV_bk])) fun hh => ?_) rfl)
    obtain ⟨v, hv⟩ : ∃ v, look? h y = some v := by
      have q := has_look? h y
      rw [hh] at q
      exact Option.isSome_iff_exists.mp q
    have e : look h y = v := by
      unfold look
      rw [hv]
      rfl
    exact ev_bI0 (ev_dgV (x := y) (d := .int (look h y)) (evm_dic (ev_var rfl rfl)) (ev_ixT (ds := [.str "name", .str y]) (ev_var rfl rfl) ev_cint rfl) (u := .int v) (by rw [lkV_bk, hv]; rfl) (by rw [e]; rfl)) (ev_var rfl rfl)
abbrev st_walked : Stmt := topS 10
abbrev N_walked : List Str := ["name", "level", "told", "some", "came", "row", "at", "one", "target"]
abbrev P_walked : List Str := ["name", "level", "told", "some"]
theorem sc_walked : FnScope N_walked P_walked (defScope st_walked) := ⟨rfl, rfl, rfl, by decide +kernel, rfl, by decide +kernel, by decide +kernel⟩
theorem d_walked (F : Fnd K mg "walked" st_walked P_walked) (hB : Blt mg) (D_trail_of : Dfn P w K mg base "trail_of" 1 P_trail_of (spP K PrTrail)) (D_is_down : Dfn P w K mg base "is_down" 1 P_is_down (spP K PrDown)) : Dfn P w K mg base "walked" 2 P_walked (spP K PrWalk) := by
  refine F.pure sc_walked (fun xs d ⟨_, _, _, _, _, h, _⟩ => by subst h; rfl) fun f cdv A outer s H E hr => ⟨_, (pss_cons (ps_set (i := 4) sc_walked.nd rfl (by first | exact Or.inl rfl | exact Or.inr rfl) (pe_disp (pps_cons (pv 0) pe_non pps_nil) (by rfl) (by rfl) (by intro e; cases e) (by decide)))
      (pss_cons (ps_set (i := 5) sc_walked.nd rfl (by first | exact Or.inl rfl | exact Or.inr rfl) (pe_lst (pa_cons (pv 0) pa_nil)))
      (pss_cons (ps_set (i := 6) sc_walked.nd rfl (by first | exact Or.inl rfl | exact Or.inr rfl) pe_int)
      (pss_cons (ps_while PassesOwn.never (pt_cmpR op_lt (pv 6) (pe_callB (k_len K rfl) (by rfl) hB.len (by decide +kernel) (pa_cons (pv 5) pa_nil)) (nomark _)) (pss_cons (ps_for PassesOwn.never rfl (k_pit K rfl (pv 3)) (k_gt K rfl rfl (pgs_cons (pg_name (i := 7) sc_walked.nd rfl (by first | exact Or.inl rfl | exact Or.inr rfl)) (pgs_cons (pg_name (i := 8) sc_walked.nd rfl (by first | exact Or.inl rfl | exact Or.inr rfl)) pgs_nil))) (pss_cons (ps_if (PW.pt (pw_and (pt_cmpR op_eq (pv 7) (pe_ix (k_ixL K rfl) (pv 5) (pv 6) (fun _ _ => rfl)) (nomark _)) (pw_and1 (pt_val (pe_callD D_is_down (hr.mono (by omega)) (by rfl) (pa_cons (pv 8) (pa_cons (pv 1) (pa_cons (pv 2) pa_nil)))))))) (pss_one (ps_ret (pf_tup (pa_cons pe_str (pa_cons (pe_callD D_trail_of (hr.mono (by omega)) (by rfl) (pa_cons (pv 7) (pa_cons (pv 4) pa_nil))) (pa_cons (pv 8) pa_nil)))))) pss_nil)
      (pss_one (ps_if (PW.pt (pw_and (pt_cmpR op_eq (pv 7) (pe_ix (k_ixL K rfl) (pv 5) (pv 6) (fun _ _ => rfl)) (nomark _)) (pw_and (pt_cmpR op_eq (pe_ix (k_ixT K rfl) (pv 8) pe_int (fun _ _ => rfl)) pe_str (nomark _)) (pw_and1 (pt_cmp (pc_dnotin (hu_of hr) (pe_ix (k_ixT K rfl) (pv 8) pe_int (fun _ _ => rfl)) (pv 4))))))) (pss_cons (ps_dput (hu_of hr) (pv 4) (pe_ix (k_ixT K rfl) (pv 8) pe_int (fun _ _ => rfl)) (pv 7) rfl)
      (pss_one (ps_expr (k_bm K rfl PySem.F.plainAttrs_list PySem.F.slot_list_append PySem.F.type_list_append mt_append (pv 5) (pa_cons (pe_ix (k_ixT K rfl) (pv 8) pe_int (fun _ _ => rfl)) pa_nil))))) pss_nil))))
      (pss_one (ps_set (i := 6) sc_walked.nd rfl (by first | exact Or.inl rfl | exact Or.inr rfl) (pe_op op_add (pv 6) pe_int)))))
      (pss_one (ps_ret (pf_tup (pa_cons pe_str (pa_cons (pv 5) pa_nil))))))))), ?_⟩
  rintro xs o ⟨x0, lv, h, fs, S, rfl, hx0, hS, hS60, hfl, rfl⟩
  generalize hW : wk fs (dnH h lv) x0 = W
  have hW : wkF fs (dnH h lv) 100 0 [(x0, none)] = W := hW
  refine do_seq (do_dispN (x := x0) (j := 0) rfl) (do_seq (do_newL (ds := [.str x0]) (evd_cons (ev_var rfl rfl) evd_nil) rfl) (do_seq (do_asg (x := .dat (.int (0 : Nat))) ev_cint) ?_))
  refine do_whileS (S := Nat × Cm) (fun s => [.dat (.str x0), .dat (.int lv), .dic (bk h), .dat (.tuple (fs.map encF)), .ownD (cmV s.2), .own ((s.2.map (·.1)).map .str), .dat (.int (s.1 : Nat)), .any, .any]) (fun s => 100 - s.1) (fun s => wkF fs (dnH h lv) (100 - s.1) s.1 s.2 = W ∧ CmB fs x0 s.2 ∧ s.1 ≤ s.2.length) (fun s => decide (s.1 < s.2.length))
    (0, [(x0, none)]) (by exact Sub.refl _) ⟨hW, .one, Nat.zero_le _⟩ (fun s hp => evt_is (evt_test (ev_bI0 (ev_var rfl rfl) (ev_lenO rfl))) ?_) ?_ ?_
  · rw [List.length_map, List.length_map]
    simp
  · rintro ⟨a, cm⟩ ⟨p1, p2, p3⟩ hb
    have hb : a < cm.length := of_decide_eq_true hb
    have cl := p2.len hx0 hS
    obtain ⟨x, hx⟩ : ∃ x, (cm.map (·.1))[a]? = some x := ⟨_, List.getElem?_eq_getElem (by rw [List.length_map]; exact hb)⟩
    have xm : x ∈ cm.map (·.1) := List.mem_of_getElem? hx
    have p1 : wkF fs (dnH h lv) (100 - a) a cm = W := p1
    have pw : wkF fs (dnH h lv) (100 - a) a cm = match inn x (dnH h lv) fs cm with | .inl (f, c) => .trail (trl c f.1) f.2 | .inr c => wkF fs (dnH h lv) (100 - (a + 1)) (a + 1) c := by
      have e : 100 - a = (100 - (a + 1)) + 1 := by omega
      rw [e]
      show (match (cm.map (·.1))[a]? with | none => _ | some x => _) = _
      rw [hx]
      try rfl
    rw [pw] at p1
    refine ⟨match inn x (dnH h lv) fs cm with | .inl _ => none | .inr c => some [.dat (.str x0), .dat (.int lv), .dic (bk h), .dat (.tuple (fs.map encF)), .ownD (cmV c), .own ((c.map (·.1)).map .str), .dat (.int ((a + 1 : Nat))), .any, .any], ?_, fun Γn e => ?_⟩
    · refine do_forS (fun i => ∀ g ∈ fs.take i, hit x (dnH h lv) g = false) (fun i => [.dat (.str x0), .dat (.int lv), .dic (bk h), .dat (.tuple (fs.map encF)), .ownD (cmV ((fs.take i).foldl (addC x) cm)), .own ((((fs.take i).foldl (addC x) cm).map (·.1)).map .str), .dat (.int (a : Nat)), .any, .any]) (evi_tup (ev_var rfl rfl)) (by exact Sub.refl _) (fun g hg => by simp at hg) (fun i d hd hP => ?_) fun hP => ?_
      · rw [List.getElem?_map] at hd
        cases hf : fs[i]? with
        | none => rw [hf] at hd; cases hd
        | some f =>
          rw [hf] at hd
          cases hd
          have fm := List.mem_of_getElem? hf
          have hin := inn_at (cm := cm) hP
          have hdr : fs.drop i = f :: fs.drop (i + 1) := by
            obtain ⟨hl, e⟩ := List.getElem?_eq_some_iff.mp hf
            rw [List.drop_eq_getElem_cons hl, e]
          rw [hdr] at hin
          have ck := fold_ok (x := x) (gs := fs.take i) p2 xm fun g hg => List.mem_of_mem_take hg
          have hxm := fold_mem (x := x) (gs := fs.take i) xm
          obtain ⟨ext, hex⟩ := fold_pre (x := x) (gs := fs.take i) (cm := cm)
          have hxa : ((((fs.take i).foldl (addC x) cm).map (·.1)).map PyData.str)[a]? = some (.str x) := by
            rw [List.getElem?_map, hex, List.getElem?_append_left (by rw [List.length_map]; exact hb), hx]
            rfl
          have cl2 := ck.len hx0 hS
          have nx := fold_next (x := x) (cm := cm) hf
          have tk : fs.take (i + 1) = fs.take i ++ [f] := by rw [List.take_add_one, hf]; rfl
          rw [nx, tk]
          generalize (fs.take i).foldl (addC x) cm = c at *
          obtain ⟨o, t⟩ := f
          have eqx : ∀ Γ : List Ds, Γ[7]? = some (.dat (.str o)) → Γ[5]? = some (.own ((c.map (·.1)).map .str)) → Γ[6]? = some (.dat (.int (a : Nat))) → EvT K (tTest (tOp rEq (tVar 7) (tOp (rIxL K) (tVar 5) (tVar 6)))) Γ (decide (o = x)) := fun Γ q1 q2 q3 => evt_test (ev_eq (ev_var q1 rfl) (ev_ixL (evs_own q2) (ev_var q3 rfl) (atI_nat hxa)) rfl)
          have eg : ∀ {te : TE} {Γ : List Ds}, EvT K (tTest te) Γ true → EvT K (tTest te) Γ true := fun h => h
          refine ⟨_, _, if hit x (dnH h lv) (o, t) = true then none else some [.dat (.str x0), .dat (.int lv), .dic (bk h), .dat (.tuple (fs.map encF)), .ownD (cmV (addC x c (o, t))), .own (((addC x c (o, t)).map (·.1)).map .str), .dat (.int (a : Nat)), .any, .any], evg_tup (evgs_cons evg_name (evgs_cons evg_name evgs_nil)) rfl, ?_, fun Γn e => ?_⟩
          · refine do_weak (Γ' := [.dat (.str x0), .dat (.int lv), .dic (bk h), .dat (.tuple (fs.map encF)), .ownD (cmV c), .own ((c.map (·.1)).map .str), .dat (.int (a : Nat)), .dat (.str o), .dat (encG t)]) (by exact Sub.refl _) ?_
            refine do_ifs (b := hit x (dnH h lv) (o, t)) (evt_and (eqx _ rfl rfl rfl) fun _ => evt_test (ev_call (Pr := PrDown) (eva_cons (ev_var rfl rfl) (eva_cons (ev_var rfl rfl) (eva_cons (ev_var rfl rfl) eva_nil))) ⟨t, lv, h, rfl, rfl⟩)) (fun hh => do_stop ?_) fun hh => do_skip ?_
            · have ho : o = x := of_decide_eq_true (Bool.and_eq_true_iff.mp hh).1
              have hi2 : inn x (dnH h lv) fs cm = .inl ((o, t), c) := by
                rw [hin]
                show (if hit x (dnH h lv) (o, t) = true then _ else _) = _
                rw [if_pos hh]
              rw [hi2] at p1
              have p1 : WR.trail (trl c o) t = W := p1
              refine do_showD (i := 4) rfl (do_ret (x := .dat (encW W)) (ev_is (ev_tup (ds := [.str "trail", .tuple ((trl c o).map .str), encG t]) (evd_cons ev_cstr (evd_cons (ev_call (Pr := PrTrail) (eva_cons (ev_var rfl rfl) (eva_cons (ev_var rfl rfl) eva_nil)) ⟨o, c, fs, x0, rfl, ck, by rw [ho]; exact hxm, by omega, rfl⟩) (evd_cons (ev_var rfl rfl) evd_nil))) rfl) (by rw [← p1]; rfl)) rfl)
            · rw [if_neg (by rw [hh]; decide)]
              cases t with
              | pg i => exact do_no (evt_is (evt_and (b := false) (eqx _ rfl rfl rfl) fun _ => evt_is (evt_and (a := false) (b := false) (by repeat' walk_at "ev") fun e => by cases e) rfl) (by rw [Bool.and_false])) (do_next ⟨.inr rfl, .inr rfl, .inr rfl, .inr rfl, .inr rfl, .inr rfl, .inr rfl, .inl rfl, .inl rfl, trivial⟩)
              | nm y =>
                have ht1 : ∀ Γ : List Ds, Γ[8]? = some (.dat (encG (.nm y))) → Ev K (tOp (rIxT K) (tVar 8) (tC (.int 1))) Γ (.dat (.str y)) := fun Γ q => ev_ixT (ds := [.str "name", .str y]) (ev_var q rfl) ev_cint rfl
                refine do_if (b := decide (o = x) && (true && !decide (y ∈ c.map (·.1)))) (evt_and (eqx _ rfl rfl rfl) fun _ => evt_and (by repeat' walk_at "ev") fun _ => evt_is (evt_B (ev_ninV (x := y) (ht1 _ rfl) (evm_own rfl))) (by rw [hs_cm])) (fun hb2 => ?_) fun hb2 => ?_
                · obtain ⟨b1, b2⟩ := Bool.and_eq_true_iff.mp hb2
                  have b1 := of_decide_eq_true b1
                  have b2 : y ∉ c.map (·.1) := by simpa using b2
                  have ea : addC x c (o, .nm y) = c ++ [(y, some o)] := by
                    show (if o = x ∧ y ∉ c.map (·.1) then c ++ [(y, some o)] else c) = _
                    rw [if_pos ⟨b1, b2⟩]
                  rw [ea, ← pt_cm b2, List.map_append, List.map_append]
                  refine do_seq (do_dputV (i := 4) (x := y) (d := .str o) (u := .str o) rfl (ht1 _ rfl) (ev_var rfl rfl) rfl ?_) (do_post (do_append rfl (d := .str y) (ht1 _ rfl) ?_) ⟨.inr rfl, .inr rfl, .inr rfl, .inr rfl, .inr rfl, .inr rfl, .inr rfl, .inl rfl, .inl rfl, trivial⟩)
                  · unfold cmV
                    rw [List.length_map]
                    omega
                  · rw [List.length_map, List.length_map]
                    omega
                · have ea : addC x c (o, .nm y) = c := by
                    show (if o = x ∧ y ∉ c.map (·.1) then c ++ [(y, some o)] else c) = _
                    refine if_neg fun q => ?_
                    rw [decide_eq_true q.1, decide_eq_false q.2] at hb2
                    cases hb2
                  rw [ea]
                  exact do_next ⟨.inr rfl, .inr rfl, .inr rfl, .inr rfl, .inr rfl, .inr rfl, .inr rfl, .inl rfl, .inl rfl, trivial⟩
          · by_cases hh : hit x (dnH h lv) (o, t) = true
            · rw [if_pos hh] at e
              cases e
            · rw [if_neg hh] at e
              cases e
              refine ⟨fun g hg => ?_, Sub.refl _⟩
              rcases List.mem_append.mp hg with q | q
              · exact hP g q
              · rw [List.mem_singleton.mp q]
                simpa using hh
      · have hin : inn x (dnH h lv) fs cm = .inr (fs.foldl (addC x) cm) := by
          have q := inn_at (cm := cm) (i := fs.length) (fun g hg => hP g (by rw [List.length_map]; exact hg))
          rw [List.drop_length, List.take_length] at q
          exact q
        rw [hin, List.length_map, List.take_length]
        exact do_post (do_asg (x := .dat (.int ((a + 1 : Nat)))) (ev_is (ev_iI0 (ev_var rfl rfl) ev_cint) (by rw [Int.natCast_add]; rfl))) (by exact Sub.refl _)
    · cases hin : inn x (dnH h lv) fs cm with
      | inl q => rw [hin] at e; cases e
      | inr c =>
        rw [hin] at e p1
        cases e
        obtain ⟨q1, _⟩ := inn_inr hin
        have ck : CmB fs x0 c := by
          rw [q1]
          exact fold_ok p2 xm fun g hg => hg
        obtain ⟨ext, hex⟩ := fold_pre (x := x) (gs := fs) (cm := cm)
        rw [← q1] at hex
        have hl := congrArg List.length hex
        rw [List.length_append, List.length_map, List.length_map] at hl
        exact ⟨(a + 1, c), by show 100 - (a + 1) < 100 - a; omega, ⟨p1, ck, by show a + 1 ≤ c.length; omega⟩, Sub.refl _⟩
  · rintro ⟨a, cm⟩ ⟨p1, p2, p3⟩ hb
    have hb : ¬ a < cm.length := of_decide_eq_false hb
    have p1 : wkF fs (dnH h lv) (100 - a) a cm = W := p1
    have p3 : a ≤ cm.length := p3
    have cl := p2.len hx0 hS
    have e : W = .names (cm.map (·.1)) := by
      rw [← p1, show 100 - a = (99 - a) + 1 by omega]
      show (match (cm.map (·.1))[a]? with | none => _ | some x => _) = _
      rw [List.getElem?_eq_none (by rw [List.length_map]; omega)]
    subst e
    exact do_show (i := 5) rfl (do_ret (x := .dat (encW (.names (cm.map (·.1))))) (ev_tup (ds := [.str "names", .list ((cm.map (·.1)).map .str)]) (evd_cons ev_cstr (evd_cons (ev_var rfl rfl) evd_nil)) rfl) rfl)
abbrev st_settled : Stmt := topS 11
abbrev N_settled : List Str := ["program", "house", "told", "some", "levels", "name", "level", "found", "other"]
abbrev P_settled : List Str := ["program", "house"]
theorem sc_settled : FnScope N_settled P_settled (defScope st_settled) := ⟨rfl, rfl, rfl, by decide +kernel, rfl, by decide +kernel, by decide +kernel⟩
theorem d_settled (F : Fnd K mg "settled" st_settled P_settled) (hB : Blt mg) (n : Nat) (D_names_of : Dfn P w K mg base "names_of" (n + 5) P_names_of (spP K (PrNmsOf n))) (D_flows : Dfn P w K mg base "flows" (n + 5) P_flows (spP K (PrFlows n))) (D_walked : Dfn P w K mg base "walked" 2 P_walked (spP K PrWalk)) :
    Dfn P w K mg base "settled" (n + 6) P_settled (spP K (PrSettled n)) := by
  refine F.pure sc_settled (fun xs d ⟨_, _, _, h, _⟩ => by subst h; rfl) fun f cdv A outer s H E hr => ⟨_, (pss_cons (ps_set (i := 2) sc_settled.nd rfl (by first | exact Or.inl rfl | exact Or.inr rfl) (pe_callTy (cf_dict rfl) (by rfl) hB.dict (by decide +kernel) (pa_cons (pv 1) pa_nil)))
      (pss_cons (ps_set (i := 3) sc_settled.nd rfl (by first | exact Or.inl rfl | exact Or.inr rfl) (pe_callD D_flows (hr.mono (by omega)) (by rfl) (pa_cons (pv 0) pa_nil)))
      (pss_cons (ps_set (i := 4) sc_settled.nd rfl (by first | exact Or.inl rfl | exact Or.inr rfl) (pe_callTy (cf_dict rfl) (by rfl) hB.dict (by decide +kernel) (pa_cons (pv 1) pa_nil)))
      (pss_cons (ps_for PassesOwn.never rfl (k_pit K rfl (pe_callD D_names_of (hr.mono (by omega)) (by rfl) (pa_cons (pv 0) pa_nil))) (pg_name (i := 5) sc_settled.nd rfl (by first | exact Or.inl rfl | exact Or.inr rfl)) (pss_one (ps_expr (pe_dsetd (pv 4) (pv 5) pe_int ⟨rfl, rfl, rfl, rfl⟩))))
      (pss_cons (ps_for PassesOwn.never rfl (k_pit K rfl (pv 1)) (k_gt K rfl rfl (pgs_cons (pg_name (i := 5) sc_settled.nd rfl (by first | exact Or.inl rfl | exact Or.inr rfl)) (pgs_cons (pg_name (i := 6) sc_settled.nd rfl (by first | exact Or.inl rfl | exact Or.inr rfl)) pgs_nil))) (pss_cons (ps_set (i := 7) sc_settled.nd rfl (by first | exact Or.inl rfl | exact Or.inr rfl) (pe_callD D_walked (hr.mono (by omega)) (by rfl) (pa_cons (pv 5) (pa_cons (pv 6) (pa_cons (pv 2) (pa_cons (pv 3) pa_nil))))))
      (pss_cons (ps_if (pt_cmpR op_eq (pe_ix (k_ixT K rfl) (pv 7) pe_int (fun _ _ => rfl)) pe_str (nomark _)) (pss_one (ps_ret (pv 7))) pss_nil)
      (pss_one (ps_for PassesOwn.never rfl (k_pil K rfl (pe_ix (k_ixT K rfl) (pv 7) pe_int (fun _ _ => rfl))) (pg_name (i := 8) sc_settled.nd rfl (by first | exact Or.inl rfl | exact Or.inr rfl)) (pss_one (ps_dput (hu_of hr) (pv 4) (pv 8) (pe_callB (cr_max2 rfl) (by rfl) hB.max (by decide +kernel) (pa_cons (pe_dget2 (hu_of hr) (pv 4) (pv 8) pe_int ⟨rfl, rfl, rfl, rfl⟩) (pa_cons (pv 6) pa_nil))) rfl)))))))
      (pss_one (ps_ret (pf_tup (pa_cons pe_str (pa_cons (pe_callTy (k_tup K rfl) (by rfl) hB.tuple (by decide +kernel) (pa_cons (pe_callB (Fi.cr_sortIK rfl (hu100 hr)) (by rfl) hB.sorted (by decide +kernel) (pa_cons (Fi.k_bm0 K rfl PySem.F.plainAttrs_dict PySem.F.slot_dict_items PySem.F.type_dict_items Fi.mt_itemsK (pv 4)) pa_nil)) pa_nil)) pa_nil)))))))))), ?_⟩
  rintro xs o ⟨nm, b, h, rfl, hok, hnm, hga, hfl, hal, ri, hh, hhl, rfl⟩
  generalize hW : stl (flowsS b) h (Ft.upX (allL b)) = W
  have hSf : ∀ f ∈ flowsS b, f.1 ∈ nm ∧ ∀ y, f.2 = .nm y → y ∈ nm := fun f hf => allF_ok (ga_in hok f (mem_flows.mp hf))
  have hnx : ∀ x ∈ Ft.upX (allL b), x ∈ nm := fun x hx => allL_ok b hok x (Ft.mem_upX.mp hx)
  have nux := risS_nodup (Ft.upX_ris (allL b))
  have l0k := sdf_fold (nm := nm) (xs := Ft.upX (allL b)) (l := h) ⟨rising_nodup ri, fun y hy => by
    obtain ⟨p, hp, rfl⟩ := List.mem_map.mp hy
    exact hh p hp⟩ hnx
  refine do_seq (do_asg (x := .dic (bk h)) (ev_dictT (ev_var rfl rfl) (rising_nodup ri))) (do_seq (do_asg (x := .dat (.tuple ((flowsS b).map encF))) (ev_call (Pr := PrFlows n) (eva_cons (ev_var rfl rfl) eva_nil) ⟨b, rfl, hga, rfl⟩)) (do_seq (do_dictO (i := 4) (l := h) (ev_var rfl rfl) (rising_nodup ri)) (do_seq (Γ1 := [.dat (encB b), .dat (encS h), .dic (bk h), .dat (.tuple ((flowsS b).map encF)), .ownD (bk ((Ft.upX (allL b)).foldl sdf h)), .any, .any, .any, .any])
    (do_for (ds := (Ft.upX (allL b)).map .str) (fun _ => True) (fun i => [.dat (encB b), .dat (encS h), .dic (bk h), .dat (.tuple ((flowsS b).map encF)), .ownD (bk (((Ft.upX (allL b)).take i).foldl sdf h)), .any, .any, .any, .any])
      (evi_tup (ev_call (Pr := PrNmsOf n) (eva_cons (ev_var rfl rfl) eva_nil) ⟨nm, b, rfl, hok, by omega, hga.td, hga.dp, hal, rfl⟩)) (by exact Sub.refl _) trivial (fun i d hd _ => ?_) fun _ => ⟨_, rfl, by rw [List.length_map, List.take_length]; exact Sub.refl _⟩) ?_)))
  · rw [List.getElem?_map] at hd
    cases hx : (Ft.upX (allL b))[i]? with
    | none => rw [hx] at hd; cases hd
    | some x =>
      rw [hx] at hd
      cases hd
      have ck := sdf_fold (nm := nm) (xs := (Ft.upX (allL b)).take i) (l := h) ⟨rising_nodup ri, fun y hy => by
        obtain ⟨p, hp, rfl⟩ := List.mem_map.mp hy
        exact hh p hp⟩ fun y hy => hnx y (List.mem_of_mem_take hy)
      have e1 : ((Ft.upX (allL b)).take (i + 1)).foldl sdf h = sdf (((Ft.upX (allL b)).take i).foldl sdf h) x := by
        rw [List.take_add_one, hx, List.foldl_append]
        rfl
      rw [e1]
      generalize ((Ft.upX (allL b)).take i).foldl sdf h = l at ck
      have cl := ck.len
      refine ⟨_, _, some [.dat (encB b), .dat (encS h), .dic (bk h), .dat (.tuple ((flowsS b).map encF)), .ownD (bk (sdf l x)), .any, .any, .any, .any], evg_name, do_post (do_setdV (x := x) (i := 4) (u := .int 0) rfl (ev_var rfl rfl) ?_) ?_, fun Γn q => by cases q; exact ⟨trivial, Sub.refl _⟩⟩
      · unfold bk
        rw [List.length_map]
        omega
      · exact ⟨.inr rfl, .inr rfl, .inr rfl, .inr rfl, .inr (by rw [bk_sdf]), .inl rfl, .inr rfl, .inr rfl, .inr rfl, trivial⟩
  · have hW : stF (flowsS b) h h ((Ft.upX (allL b)).foldl sdf h) = W := hW
    generalize (Ft.upX (allL b)).foldl sdf h = l0 at hW l0k
    have lk : ∀ i, LvOk nm ((h.take i).foldl (lvUp (flowsS b) h) l0) := fun i => lvUp_fold l0k (fun p hp => hh p (List.mem_of_mem_take hp)) fun f hf => (hSf f hf).2
    refine do_forS (ds := h.map encP) (fun i => ∀ p ∈ h.take i, isNames (wk (flowsS b) (dnH h p.2) p.1) = true) (fun i => [.dat (encB b), .dat (encS h), .dic (bk h), .dat (.tuple ((flowsS b).map encF)), .ownD (bk ((h.take i).foldl (lvUp (flowsS b) h) l0)), .any, .any, .any, .any])
      (evi_tup (ev_var rfl rfl)) (by exact Sub.refl _) (fun g hg => by simp at hg) (fun i d hd hP => ?_) fun hP => ?_
    · rw [List.getElem?_map] at hd
      cases hp : h[i]? with
      | none => rw [hp] at hd; cases hd
      | some p =>
        rw [hp] at hd
        cases hd
        have pm := List.mem_of_getElem? hp
        have hst := stF_at (l := l0) hP
        have hdr : h.drop i = p :: h.drop (i + 1) := by
          obtain ⟨hl, e⟩ := List.getElem?_eq_some_iff.mp hp
          rw [List.drop_eq_getElem_cons hl, e]
        rw [hdr] at hst
        have e1 : (h.take (i + 1)).foldl (lvUp (flowsS b) h) l0 = lvUp (flowsS b) h ((h.take i).foldl (lvUp (flowsS b) h) l0) p := by
          rw [List.take_add_one, hp, List.foldl_append]
          rfl
        have tk : h.take (i + 1) = h.take i ++ [p] := by rw [List.take_add_one, hp]; rfl
        have ck := lk i
        rw [e1, tk]
        generalize (h.take i).foldl (lvUp (flowsS b) h) l0 = l at ck hst
        obtain ⟨x, lv⟩ := p
        have call : ∀ Γ : List Ds, Γ[5]? = some (.dat (.str x)) → Γ[6]? = some (.dat (.int lv)) → Γ[2]? = some (.dic (bk h)) → Γ[3]? = some (.dat (.tuple ((flowsS b).map encF))) → Ev K (tCall (spP K PrWalk) [] E0 (tCons (tVar 5) (tCons (tVar 6) (tCons (tVar 2) (tCons (tVar 3) tNil))))) Γ (.dat (encW (wk (flowsS b) (dnH h lv) x))) := fun Γ q1 q2 q3 q4 =>
          ev_call (Pr := PrWalk) (eva_cons (ev_var q1 rfl) (eva_cons (ev_var q2 rfl) (eva_cons (ev_var q3 rfl) (eva_cons (ev_var q4 rfl) eva_nil)))) ⟨x, lv, h, flowsS b, nm, rfl, hh _ pm, fun f hf => (hSf f hf).2, hnm, hfl, rfl⟩
        cases hw : wk (flowsS b) (dnH h lv) x with
        | trail ps t =>
          rw [hw] at call
          have e2 : stF (flowsS b) h ((x, lv) :: h.drop (i + 1)) l = .trail ps t := by
            show (match wk (flowsS b) (dnH h lv) x with | .trail ps t => SR.trail ps t | .names ns => _) = _
            rw [hw]
          rw [e2] at hst
          rw [hst] at hW
          refine ⟨_, _, none, evg_tup (ds := [.str x, .int lv]) (evgs_cons evg_name (evgs_cons evg_name evgs_nil)) rfl, ?_, fun Γn e => by cases e⟩
          refine do_seq (do_asg (x := .dat (encW (.trail ps t))) (call _ rfl rfl rfl rfl)) (do_ifs (b := true) (by repeat' walk_at "ev") (fun _ => do_stop (do_ret (x := .dat (encSR W)) (ev_is (ev_var rfl rfl) (by rw [← hW]; rfl)) rfl)) fun e => by cases e)
        | names ns =>
          rw [hw] at call
          have nsn : ∀ y ∈ ns, y ∈ nm := by
            obtain ⟨c, c1, c2⟩ := wk_names hw
            rw [c2]
            exact c1.sub (hh _ pm) fun f hf => (hSf f hf).2
          have e3 : lvUp (flowsS b) h l (x, lv) = ns.foldl (rais lv) l := by
            unfold lvUp
            show (match wk (flowsS b) (dnH h lv) x with | .trail _ _ => l | .names ns => ns.foldl (rais lv) l) = _
            rw [hw]
          rw [e3]
          refine ⟨_, _, some [.dat (encB b), .dat (encS h), .dic (bk h), .dat (.tuple ((flowsS b).map encF)), .ownD (bk (ns.foldl (rais lv) l)), .any, .any, .any, .any], evg_tup (ds := [.str x, .int lv]) (evgs_cons evg_name (evgs_cons evg_name evgs_nil)) rfl, ?_, fun Γn e => ?_⟩
          · refine do_seq (do_asg (x := .dat (encW (.names ns))) (call _ rfl rfl rfl rfl)) (do_ifs (b := false) (by repeat' walk_at "ev") (fun e => by cases e) fun _ => do_skip ?_)
            refine do_post (do_for (ds := ns.map .str) (N := some [.dat (encB b), .dat (encS h), .dic (bk h), .dat (.tuple ((flowsS b).map encF)), .ownD (bk (ns.foldl (rais lv) l)), .dat (.str x), .dat (.int lv), .dat (encW (.names ns)), .any]) (fun _ => True) (fun j => [.dat (encB b), .dat (encS h), .dic (bk h), .dat (.tuple ((flowsS b).map encF)), .ownD (bk ((ns.take j).foldl (rais lv) l)), .dat (.str x), .dat (.int lv), .dat (encW (.names ns)), .any])
              (evi_list (ev_ixT (ds := [.str "names", .list (ns.map .str)]) (ev_var rfl rfl) ev_cint rfl)) (by exact Sub.refl _) trivial (fun j d hd _ => ?_) fun _ => ⟨_, rfl, by rw [List.length_map, List.take_length]; exact Sub.refl _⟩) ⟨.inr rfl, .inr rfl, .inr rfl, .inr rfl, .inr rfl, .inl rfl, .inl rfl, .inl rfl, .inr rfl, trivial⟩
            rw [List.getElem?_map] at hd
            cases hy : ns[j]? with
            | none => rw [hy] at hd; cases hd
            | some y =>
              rw [hy] at hd
              cases hd
              have e4 : (ns.take (j + 1)).foldl (rais lv) l = rais lv ((ns.take j).foldl (rais lv) l) y := by
                rw [List.take_add_one, hy, List.foldl_append]
                rfl
              have ck2 := rais_fold (lv := lv) (xs := ns.take j) ck fun z hz => nsn z (List.mem_of_mem_take hz)
              rw [e4]
              generalize (ns.take j).foldl (rais lv) l = l2 at ck2
              have cl := ck2.len
              refine ⟨_, _, some [.dat (encB b), .dat (encS h), .dic (bk h), .dat (.tuple ((flowsS b).map encF)), .ownD (bk (rais lv l2 y)), .dat (.str x), .dat (.int lv), .dat (encW (.names ns)), .any], evg_name, do_post (do_dputV (x := y) (i := 4) (d := .int (max (look l2 y) lv)) (u := .int (max (look l2 y) lv)) rfl (ev_var rfl rfl) (ev_max2 (ev_dg2V (x := y) (evm_own rfl) (ev_var rfl rfl)) (ev_var rfl rfl)) rfl ?_) ?_, fun Γn q => by cases q; exact ⟨trivial, Sub.refl _⟩⟩
              · unfold bk
                rw [List.length_map]
                omega
              · exact ⟨.inr rfl, .inr rfl, .inr rfl, .inr rfl, .inr (by rw [ptV_bk]; rfl), .inr rfl, .inr rfl, .inr rfl, .inl rfl, trivial⟩
          · cases e
            refine ⟨fun q hq => ?_, Sub.refl _⟩
            rcases List.mem_append.mp hq with z | z
            · exact hP q z
            · rw [List.mem_singleton.mp z]
              show isNames (wk (flowsS b) (dnH h lv) x) = true
              rw [hw]
              rfl
    · have hst := stF_at (fs := flowsS b) (h := h) (hs := h) (l := l0) (i := h.length) (fun p hp => hP p (by rw [List.length_map]; exact hp))
      rw [List.drop_length, List.take_length] at hst
      rw [hst] at hW
      have ck := lk h.length
      rw [List.length_map, List.take_length]
      rw [List.take_length] at ck
      generalize h.foldl (lvUp (flowsS b) h) l0 = l at ck hW
      have cl := ck.len
      exact do_ret (x := .dat (encSR W)) (ev_is (ev_tup (ds := [.str "house", encS (upP l)]) (evd_cons ev_cstr (evd_cons (ev_tupL (evs_dat (Fi.ev_sortIK rfl (by omega)))) evd_nil)) rfl) (by rw [← hW]; rfl)) rfl
end
/-! ### the least levels and trails by hand -/
section
variable {P : Program} {w : World} {K : PySem.W.Frag} {mg : Str → Option Value} {base : Heap}
theorem sdfs_len : ∀ {xs : List Str} {l : List (Str × Int)}, (xs.foldl sdf l).length ≤ l.length + xs.length
  | [], _ => Nat.le_refl _
  | x :: xs, l => by
    have a := sdfs_len (xs := xs) (l := sdf l x)
    have b : (sdf l x).length ≤ l.length + 1 := by
      unfold sdf
      split
      · omega
      · rw [List.length_append]
        exact Nat.le_refl _
    rw [List.foldl_cons, List.length_cons]
    omega
theorem lk_in {l : List (Str × Int)} {x : Str} (h : x ∈ l.map (·.1)) : lkV (bk l) x = some (.int (look l x)) := by rw [lkV_bk, look_in h]; rfl
def PrLeast : List Ds → List (Str × Int) → Prop := fun xs l => ∃ (h : List (Str × Int)) (mine : List Str) (fs : List Fl), xs = [.dat (encS h), .dat (.list (mine.map .str)), .dat (.list (fs.map encF))] ∧ (h.map (·.1)).Nodup ∧ LsOk2 fs h (mine.foldl sdf h) ∧ h.length + mine.length ≤ 1000 ∧ l = lsLeast fs h mine
abbrev st_l_least : Stmt := topS 26
abbrev N_l_least : List Str := ["_law_house_here", "_law_names_here", "_law_some", "_law_levels_here", "_law_name_here", "_law_turn", "_law_target"]
abbrev P_l_least : List Str := ["_law_house_here", "_law_names_here", "_law_some"]
theorem sc_l_least : FnScope N_l_least P_l_least (defScope st_l_least) := ⟨rfl, rfl, rfl, by decide +kernel, rfl, by decide +kernel, by decide +kernel⟩
theorem d_lleast (F : Fnd K mg "_law_least" st_l_least P_l_least) (hB : Blt mg) : Dfn P w K mg base "_law_least" 1 P_l_least (Fx.spD K PrLeast) := by
  refine Fx.pureD F sc_l_least (fun xs d ⟨_, _, _, h, _⟩ => by subst h; rfl) fun f cdv A outer s H E hr => ⟨_, (pss_cons (ps_set (i := 3) sc_l_least.nd rfl (by first | exact Or.inl rfl | exact Or.inr rfl) (pe_callTy (cf_dict rfl) (by rfl) hB.dict (by decide +kernel) (pa_cons (pv 0) pa_nil)))
      (pss_cons (ps_for PassesOwn.never rfl (k_pil K rfl (pv 1)) (pg_name (i := 4) sc_l_least.nd rfl (by first | exact Or.inl rfl | exact Or.inr rfl)) (pss_one (ps_expr (pe_dsetd (pv 3) (pv 4) pe_int ⟨rfl, rfl, rfl, rfl⟩))))
      (pss_cons (ps_for PassesOwn.never rfl (pi_range1 (by rfl) hB.range (pa_cons (pe_op op_add (pe_op op_mul pe_int (pe_callB Fx.cr_lenD (by rfl) hB.len (by decide +kernel) (pa_cons (pv 3) pa_nil))) pe_int) pa_nil)) (pg_name (i := 5) sc_l_least.nd rfl (by first | exact Or.inl rfl | exact Or.inr rfl)) (pss_one (ps_for PassesOwn.never rfl (k_pil K rfl (pv 2)) (k_gt K rfl rfl (pgs_cons (pg_name (i := 4) sc_l_least.nd rfl (by first | exact Or.inl rfl | exact Or.inr rfl)) (pgs_cons (pg_name (i := 6) sc_l_least.nd rfl (by first | exact Or.inl rfl | exact Or.inr rfl)) pgs_nil))) (pss_one (ps_if (PW.pt (pw_and (pt_cmpR op_eq (pe_ix (k_ixT K rfl) (pv 6) pe_int (fun _ _ => rfl)) pe_str (nomark _)) (pw_and1 (pt_cmp (pc_dnotin (hu_of hr) (pe_ix (k_ixT K rfl) (pv 6) pe_int (fun _ _ => rfl)) (pe_callTy (cf_dict rfl) (by rfl) hB.dict (by decide +kernel) (pa_cons (pv 0) pa_nil))))))) (pss_one (ps_dput (hu_of hr) (pv 3) (pe_ix (k_ixT K rfl) (pv 6) pe_int (fun _ _ => rfl)) (pe_callB (cr_max2 rfl) (by rfl) hB.max (by decide +kernel) (pa_cons (pe_dget (hu_of hr) (pv 3) (pe_ix (k_ixT K rfl) (pv 6) pe_int (fun _ _ => rfl)) (fun _ _ => rfl)) (pa_cons (pe_dget (hu_of hr) (pv 3) (pv 4) (fun _ _ => rfl)) pa_nil))) rfl)) pss_nil)))))
      (pss_one (ps_ret (pv 3)))))), ?_⟩
  rintro xs l ⟨h, mine, fs, rfl, nd, ok, hz, rfl⟩
  have hL : (mine.foldl sdf h).length ≤ 1000 := Nat.le_trans sdfs_len hz
  refine Fx.dr_seq (do_dictO (i := 3) (l := h) (ev_var rfl rfl) nd) (Fx.dr_seq (Γ1 := [.dat (encS h), .dat (.list (mine.map .str)), .dat (.list (fs.map encF)), .ownD (bk (mine.foldl sdf h)), .any, .any, .any])
    (do_for (ds := mine.map .str) (fun _ => True) (fun i => [.dat (encS h), .dat (.list (mine.map .str)), .dat (.list (fs.map encF)), .ownD (bk ((mine.take i).foldl sdf h)), .any, .any, .any]) (evi_list (ev_var rfl rfl)) (by exact Sub.refl _) trivial (fun i d hd _ => ?_) fun _ => ⟨_, rfl, by rw [List.length_map, List.take_length]; exact Sub.refl _⟩) ?_)
  · rw [List.getElem?_map] at hd
    cases hx : mine[i]? with
    | none => rw [hx] at hd; cases hd
    | some x =>
      rw [hx] at hd
      cases hd
      have e1 : (mine.take (i + 1)).foldl sdf h = sdf ((mine.take i).foldl sdf h) x := by
        rw [List.take_add_one, hx, List.foldl_append]
        rfl
      have cl : ((mine.take i).foldl sdf h).length ≤ 1000 := by
        have a := sdfs_len (xs := mine.take i) (l := h)
        have b : (mine.take i).length ≤ mine.length := by rw [List.length_take]; omega
        omega
      rw [e1]
      generalize (mine.take i).foldl sdf h = l at cl
      refine ⟨_, _, some [.dat (encS h), .dat (.list (mine.map .str)), .dat (.list (fs.map encF)), .ownD (bk (sdf l x)), .any, .any, .any], evg_name, do_post (do_setdV (x := x) (i := 3) (u := .int 0) rfl (ev_var rfl rfl) ?_) ?_, fun Γn q => by cases q; exact ⟨trivial, Sub.refl _⟩⟩
      · unfold bk
        rw [List.length_map]
        omega
      · exact ⟨.inr rfl, .inr rfl, .inr rfl, .inr (by rw [bk_sdf]), .inl rfl, .inr rfl, .inr rfl, trivial⟩
  · unfold lsLeast
    generalize mine.foldl sdf h = L at ok hL
    refine Fx.dr_seq (Γ1 := [.dat (encS h), .dat (.list (mine.map .str)), .dat (.list (fs.map encF)), .ownD (bk (lsIter fs h (2 * L.length + 1) L)), .any, .any, .any])
      (do_for (Rv := RvD) (ds := rangeD 0 (2 * L.length + 1)) (fun _ => True) (fun i => [.dat (encS h), .dat (.list (mine.map .str)), .dat (.list (fs.map encF)), .ownD (bk (lsIter fs h i L)), .any, .any, .any]) ?_ (by exact Sub.refl _) trivial (fun i d hd _ => ?_) fun _ => ⟨_, rfl, by rw [rangeD_len]; exact Sub.refl _⟩) (Fx.dr_ret rfl)
    · have r := evi_range1 (K := K) (Γ := [.dat (encS h), .dat (.list (mine.map .str)), .dat (.list (fs.map encF)), .ownD (bk L), .any, .any, .any]) (n := 2 * ((bk L).length : Int) + 1) (ev_iI0 (ev_mulL (Fx.ev_lenDO (evm_own (i := 3) rfl)) (by decide)) ev_cint) (by unfold bk; rw [List.length_map]; omega) (by omega)
      have e : (2 * ((bk L).length : Int) + 1).toNat = 2 * L.length + 1 := by
        unfold bk
        rw [List.length_map]
        omega
      rw [e] at r
      exact r
    · obtain ⟨q1, q2, _, _⟩ := iter_ok ok i
      have hl2 := congrArg List.length q2
      rw [List.length_map, List.length_map] at hl2
      show ∃ js Γ1 N1, EvG K RvD _ _ d js Γ1 ∧ Do K _ Γ1 N1 _ ∧ ∀ Γn, N1 = some Γn → True ∧ Sub Γn [.dat (encS h), .dat (.list (mine.map .str)), .dat (.list (fs.map encF)), .ownD (bk (fs.foldl (lsStep h) (lsIter fs h i L))), .any, .any, .any]
      rw [← hl2] at hL
      clear hl2 q2 hd
      generalize lsIter fs h i L = M at q1 hL
      refine ⟨_, _, some [.dat (encS h), .dat (.list (mine.map .str)), .dat (.list (fs.map encF)), .ownD (bk (fs.foldl (lsStep h) M)), .any, .any, .any], evg_name, ?_, fun Γn q => by cases q; exact ⟨trivial, Sub.refl _⟩⟩
      refine do_for (ds := fs.map encF) (fun _ => True) (fun i => [.dat (encS h), .dat (.list (mine.map .str)), .dat (.list (fs.map encF)), .ownD (bk ((fs.take i).foldl (lsStep h) M)), .any, .any, .any]) (evi_list (ev_var rfl rfl)) (by exact ⟨.inr rfl, .inr rfl, .inr rfl, .inr rfl, .inr rfl, .inl rfl, .inr rfl, trivial⟩) trivial (fun j d hd _ => ?_) fun _ => ⟨_, rfl, by rw [List.length_map, List.take_length]; exact Sub.refl _⟩
      rw [List.getElem?_map] at hd
      cases hx : fs[j]? with
      | none => rw [hx] at hd; cases hd
      | some f =>
        rw [hx] at hd
        cases hd
        have fm := List.mem_of_getElem? hx
        have e1 : (fs.take (j + 1)).foldl (lsStep h) M = lsStep h ((fs.take j).foldl (lsStep h) M) f := by
          rw [List.take_add_one, hx, List.foldl_append]
          rfl
        obtain ⟨r1, r2, _, _⟩ := fold_ok2 (gs := fs.take j) q1 fun g hg => List.mem_of_mem_take hg
        have hl2 := congrArg List.length r2
        rw [List.length_map, List.length_map] at hl2
        rw [e1]
        have hl3 : ((fs.take j).foldl (lsStep h) M).length ≤ 1000 := by omega
        clear hl2 r2 e1
        generalize (fs.take j).foldl (lsStep h) M = l at r1 hl3
        obtain ⟨x, t⟩ := f
        refine ⟨_, _, some [.dat (encS h), .dat (.list (mine.map .str)), .dat (.list (fs.map encF)), .ownD (bk (lsStep h l (x, t))), .any, .any, .any], evg_tup (ds := [.str x, encG t]) (evgs_cons evg_name (evgs_cons evg_name evgs_nil)) rfl, ?_, fun Γn q => by cases q; exact ⟨trivial, Sub.refl _⟩⟩
        cases t with
        | pg i => exact do_no (evt_is (evt_and (a := false) (b := false) (evt_is (evt_test (ev_eq (b := false) (ev_ixT (ds := [.str "page", .int i]) (ev_var rfl rfl) ev_cint rfl) ev_cstr rfl)) rfl) fun e => by cases e) rfl) (do_next ⟨.inr rfl, .inr rfl, .inr rfl, .inr rfl, .inl rfl, .inl rfl, .inl rfl, trivial⟩)
        | nm y =>
          have ht1 : ∀ Γ : List Ds, Γ[6]? = some (.dat (encG (.nm y))) → Ev K (tOp (rIxT K) (tVar 6) (tC (.int 1))) Γ (.dat (.str y)) := fun Γ q => ev_ixT (ds := [.str "name", .str y]) (ev_var q rfl) ev_cint rfl
          have es : lsStep h l (x, .nm y) = if has h y = true then l else dput l y (max (look l y) (look l x)) := rfl
          rw [es]
          refine do_if (b := !has h y) (evt_is (evt_and (a := true) (b := !has h y) (evt_is (evt_test (ev_eq (b := true) (ev_ixT (ds := [.str "name", .str y]) (ev_var rfl rfl) ev_cint rfl) ev_cstr rfl)) rfl) fun _ => evt_is (evt_test (ev_ninV (x := y) (l := bk h) (ht1 _ rfl) (evm_dic (ev_dictT (ev_var rfl rfl) nd)))) (by rw [hsV_bk])) (by rfl)) (fun hb => ?_) fun hb => ?_
          · have hb : ¬ has h y = true := by
              intro q
              rw [q] at hb
              cases hb
            rw [if_neg hb]
            refine do_post (do_dputV (x := y) (i := 3) (d := .int (max (look l y) (look l x))) (u := .int (max (look l y) (look l x))) rfl (ht1 _ rfl) (ev_max2 (ev_dgV (evm_own rfl) (ht1 _ rfl) (lk_in ((r1.fl _ fm).2 y rfl)) rfl) (ev_dgV (evm_own rfl) (ev_var rfl rfl) (lk_in (r1.fl _ fm).1) rfl)) rfl ?_) ⟨.inr rfl, .inr rfl, .inr rfl, .inr (by rw [ptV_bk]), .inl rfl, .inl rfl, .inl rfl, trivial⟩
            unfold bk
            rw [List.length_map]
            omega
          · have hb : has h y = true := by
              cases q : has h y with
              | true => rfl
              | false => rw [q] at hb; cases hb
            rw [if_pos hb]
            exact do_next ⟨.inr rfl, .inr rfl, .inr rfl, .inr rfl, .inl rfl, .inl rfl, .inl rfl, trivial⟩
end
section
variable {P : Program} {w : World} {K : PySem.W.Frag} {mg : Str → Option Value} {base : Heap}
theorem atI_get {α : Type} {xs : List α} {j : Nat} {x : α} (h : xs[j]? = some x) : atI xs (j : Int) = some x := by
  exact atI_nat h
theorem atI_last {α : Type} {xs : List α} {x : α} (h : xs.getLast? = some x) : atI xs (-1) = some x := by
  rw [List.getLast?_eq_getElem?] at h
  have hl := (List.getElem?_eq_some_iff.mp h).1
  have e : ixN xs.length (-1) = some (xs.length - 1) := by
    unfold ixN
    rw [if_neg (by decide), if_pos (by omega)]
    congr 1
    omega
  unfold atI
  rw [e]
  exact h
theorem path_at {fs : List Fl} : ∀ {as : List Str} {i : Nat} {x y : Str}, Path fs as → as[i]? = some x → as[i + 1]? = some y → (x, Tg.nm y) ∈ fs
  | [], _, _, _, _, h, _ => by cases h
  | [_], i, _, _, _, _, h => by
    rw [List.getElem?_cons_succ] at h
    cases h
  | a :: b :: r, i, x, y, p, h1, h2 => by
    cases i with
    | zero =>
      cases h1
      cases h2
      exact p.1
    | succ i => exact path_at (as := b :: r) p.2 h1 h2
theorem ev_ninF {nm : List Str} {Γ : List Ds} {ta tb : TE} {fs : List Fl} {f : Fl} (hn : ∀ x ∈ nm, PyData.strOk x = true) (hf : ∀ f ∈ fs, f ∈ allF nm) (ha : Ev K ta Γ (.dat (encF f))) (hb : Ev K tb Γ (.dat (.list (fs.map encF)))) (hm : f ∈ fs) : Ev K (tOp (rNotInD K) ta tb) Γ (.dat (.bool false)) := by
  have s1 : Shd 3 (.list (fs.map encF)) := shd_Fs hn hf
  have o := allF_ok (hf f hm)
  have s2 : Shd 2 (encF f) := shd_F (hn _ o.1) fun y hy => hn _ (o.2 y hy)
  have r := ev_ninD ha hb (s2.ok (by decide)) (s1.ok (by decide))
  have e : ((fs.map encF).any fun z => PyData.eqv z (encF f)) = true := List.any_eq_true.mpr ⟨_, List.mem_map.mpr ⟨f, hm, rfl⟩, s2.refl⟩
  rwa [e] at r
def PrIsTrail : List Ds → PyData → Prop := fun xs d => ∃ (nm : List Str) (h : List (Str × Int)) (fs : List Fl) (as : List Str) (t : Tg) (p : Str × Int) (y : Str), xs = [.dat (.tuple [.str "trail", .tuple (as.map .str), encG t]), .dat (encS h), .dat (.list (fs.map encF))] ∧ (∀ x ∈ nm, PyData.strOk x = true) ∧ (∀ f ∈ fs, f ∈ allF nm) ∧ (h.map (·.1)).Nodup ∧ as.length ≤ 1000 ∧ p ∈ h ∧ as.head? = some p.1 ∧ Path fs as ∧ as.getLast? = some y ∧ (y, t) ∈ fs ∧ dnH h p.2 t = true ∧ d = .bool true
abbrev st_l_is_trail : Stmt := topS 27
abbrev N_l_is_trail : List Str := ["_law_found", "_law_house_here", "_law_some", "_law_names_here", "_law_k"]
abbrev P_l_is_trail : List Str := ["_law_found", "_law_house_here", "_law_some"]
theorem sc_l_is_trail : FnScope N_l_is_trail P_l_is_trail (defScope st_l_is_trail) := ⟨rfl, rfl, rfl, by decide +kernel, rfl, by decide +kernel, by decide +kernel⟩
theorem d_istrail (F : Fnd K mg "_law_is_trail" st_l_is_trail P_l_is_trail) (hB : Blt mg) (D_l_goal : Dfn P w K mg base "_law_goal" 1 P_l_goal (spP K PrLvOf)) : Dfn P w K mg base "_law_is_trail" 2 P_l_is_trail (spP K PrIsTrail) := by
  refine F.pure sc_l_is_trail (fun xs d ⟨_, _, _, _, _, _, _, h, _⟩ => by subst h; rfl) fun f cdv A outer s H E hr => ⟨_, (pss_cons (ps_if (PW.pt (pw_or (pt_cmpR op_ne (pe_callB (k_len K rfl) (by rfl) hB.len (by decide +kernel) (pa_cons (pv 0) pa_nil)) pe_int (nomark _)) (pw_or (pt_not (pt_val (pe_callB (k_isi K rfl) (by rfl) hB.isinstance (by decide +kernel) (pa_cons (pe_ix (k_ixT K rfl) (pv 0) pe_int (fun _ _ => rfl)) (pa_cons (pe_bltn (v := .ty "tuple") (u := .type "tuple") (by rfl) hB.tuple (by decide +kernel) rfl) pa_nil))))) (pw_or (pt_not (k_truth K rfl (pe_ix (k_ixT K rfl) (pv 0) pe_int (fun _ _ => rfl)) (by intro _; rfl))) (pw_or1 (pt_cmp (pc_dnotin (hu_of hr) (pe_ix (k_ixT K rfl) (pe_ix (k_ixT K rfl) (pv 0) pe_int (fun _ _ => rfl)) pe_int (fun _ _ => rfl)) (pe_callTy (cf_dict rfl) (by rfl) hB.dict (by decide +kernel) (pa_cons (pv 1) pa_nil))))))))) (pss_one (ps_ret pe_bl)) pss_nil)
      (pss_cons (ps_set (i := 3) sc_l_is_trail.nd rfl (by first | exact Or.inl rfl | exact Or.inr rfl) (pe_callTy (k_list K rfl) (by rfl) hB.list (by decide +kernel) (pa_cons (pe_ix (k_ixT K rfl) (pv 0) pe_int (fun _ _ => rfl)) pa_nil)))
      (pss_cons (ps_for PassesOwn.never rfl (pi_range2 (by rfl) hB.range (pa_cons pe_int (pa_cons (pe_callB (k_len K rfl) (by rfl) hB.len (by decide +kernel) (pa_cons (pv 3) pa_nil)) pa_nil))) (pg_name (i := 4) sc_l_is_trail.nd rfl (by first | exact Or.inl rfl | exact Or.inr rfl)) (pss_one (ps_if (pt_cmpR (k_ninD K rfl (hu65 hr)) (pf_tup (pa_cons (pe_ix (k_ixL K rfl) (pv 3) (pe_op op_sub (pv 4) pe_int) (fun _ _ => rfl)) (pa_cons (pf_tup (pa_cons pe_str (pa_cons (pe_ix (k_ixL K rfl) (pv 3) (pv 4) (fun _ _ => rfl)) pa_nil))) pa_nil))) (pv 2) (by rfl)) (pss_one (ps_ret pe_bl)) pss_nil)))
      (pss_cons (ps_if (pt_cmpR (k_ninD K rfl (hu65 hr)) (pf_tup (pa_cons (pe_ix (k_ixL K rfl) (pv 3) (pe_un un_neg pe_int) (fun _ _ => rfl)) (pa_cons (pe_ix (k_ixT K rfl) (pv 0) pe_int (fun _ _ => rfl)) pa_nil))) (pv 2) (by rfl)) (pss_one (ps_ret pe_bl)) pss_nil)
      (pss_cons (ps_if (PW.pt (pw_and (pt_cmpR op_eq (pe_ix (k_ixT K rfl) (pe_ix (k_ixT K rfl) (pv 0) pe_int (fun _ _ => rfl)) pe_int (fun _ _ => rfl)) pe_str (nomark _)) (pw_and1 (pt_cmp (pc_dnotin (hu_of hr) (pe_ix (k_ixT K rfl) (pe_ix (k_ixT K rfl) (pv 0) pe_int (fun _ _ => rfl)) pe_int (fun _ _ => rfl)) (pe_callTy (cf_dict rfl) (by rfl) hB.dict (by decide +kernel) (pa_cons (pv 1) pa_nil))))))) (pss_one (ps_ret pe_bl)) pss_nil)
      (pss_one (ps_ret (pe_cmpR op_lt (pe_callD D_l_goal (hr.mono (by omega)) (by rfl) (pa_cons (pe_ix (k_ixT K rfl) (pv 0) pe_int (fun _ _ => rfl)) (pa_cons (pe_callTy (cf_dict rfl) (by rfl) hB.dict (by decide +kernel) (pa_cons (pv 1) pa_nil)) pa_nil))) (pe_dget (hu_of hr) (pe_callTy (cf_dict rfl) (by rfl) hB.dict (by decide +kernel) (pa_cons (pv 1) pa_nil)) (pe_ix (k_ixL K rfl) (pv 3) pe_int (fun _ _ => rfl)) (fun _ _ => rfl)) (nomark _))))))))), ?_⟩
  rintro xs o ⟨nm, h, fs, as, t, p, y, rfl, hn, hf, nd, hl, hp, h0, hpa, hy, hyt, hdn, rfl⟩
  have hm : p.1 ∈ h.map (·.1) := List.mem_map.mpr ⟨p, hp, rfl⟩
  have a0 : as[0]? = some p.1 := by rw [← List.head?_eq_getElem?]; exact h0
  have f1 : ∀ Γ : List Ds, Γ[0]? = some (.dat (.tuple [.str "trail", .tuple (as.map .str), encG t])) → Ev K (tOp (rIxT K) (tVar 0) (tC (.int 1))) Γ (.dat (.tuple (as.map .str))) := fun Γ q => ev_ixT (ds := [.str "trail", .tuple (as.map .str), encG t]) (ev_var q rfl) ev_cint rfl
  have f2 : ∀ Γ : List Ds, Γ[0]? = some (.dat (.tuple [.str "trail", .tuple (as.map .str), encG t])) → Ev K (tOp (rIxT K) (tVar 0) (tC (.int 2))) Γ (.dat (encG t)) := fun Γ q => ev_ixT (ds := [.str "trail", .tuple (as.map .str), encG t]) (ev_var q rfl) ev_cint rfl
  have ne : as ≠ [] := by
    rintro rfl
    cases h0
  have emp : (as.map PyData.str).isEmpty = false := by
    cases as with
    | nil => exact absurd rfl ne
    | cons a r => rfl
  refine do_ifs (b := false) (evt_is (evt_or (a := false) (b := false) (evt_is (evt_test (ev_ne (b := true) (ev_len (ev_var rfl rfl) len_tup) ev_cint rfl)) rfl) fun _ =>
    evt_is (evt_or (a := false) (b := false) (evt_is (evt_not (evt_B (ev_isi (b := true) (f1 _ rfl) rfl (.ty "tuple")))) rfl) fun _ =>
    evt_is (evt_or (a := false) (b := false) (evt_is (evt_not (evt_tuple (f1 _ rfl))) (by rw [emp]; rfl)) fun _ =>
    evt_is (evt_test (ev_ninV (x := p.1) (l := bk h) (ev_ixT (f1 _ rfl) ev_cint (atI_map _ (atI_get a0))) (evm_dic (ev_dictT (ev_var rfl rfl) nd)))) (by rw [hsV_bk, has_iff.mpr hm]; rfl)) rfl) rfl) rfl) (fun e => by cases e) fun _ => do_skip ?_
  refine do_seq (do_asg (x := .dat (.list (as.map .str))) (ev_listT (f1 _ rfl))) ?_
  refine do_weak (Γ' := [.dat (.tuple [.str "trail", .tuple (as.map .str), encG t]), .dat (encS h), .dat (.list (fs.map encF)), .dat (.list (as.map .str)), .any]) (by exact Sub.refl _) ?_
  refine do_seq (Γ1 := [.dat (.tuple [.str "trail", .tuple (as.map .str), encG t]), .dat (encS h), .dat (.list (fs.map encF)), .dat (.list (as.map .str)), .any])
    (do_for (Rv := RvD) (ds := rangeD 1 (as.length - 1)) (fun _ => True) (fun _ => [.dat (.tuple [.str "trail", .tuple (as.map .str), encG t]), .dat (encS h), .dat (.list (fs.map encF)), .dat (.list (as.map .str)), .any]) ?_ (by exact Sub.refl _) trivial (fun i d hd _ => ?_) fun _ => ⟨_, rfl, Sub.refl _⟩) ?_
  · have r := evi_range2 (K := K) (Γ := [.dat (.tuple [.str "trail", .tuple (as.map .str), encG t]), .dat (encS h), .dat (.list (fs.map encF)), .dat (.list (as.map .str)), .any]) (lo := 1) (n := (((as.map PyData.str).length : Nat) : Int)) ev_cint (ev_len (ev_var (i := 3) rfl rfl) len_list) (by rw [List.length_map]; refine ⟨by decide, by decide, ?_, ?_⟩ <;> omega)
    have e : ((((as.map PyData.str).length : Nat) : Int) - 1).toNat = as.length - 1 := by
      rw [List.length_map]
      omega
    rw [e] at r
    exact r
  · have hi : i < as.length - 1 := by
      have := (List.getElem?_eq_some_iff.mp hd).1
      rwa [rangeD_len] at this
    cases (rangeD_get (lo := 1) hi).symm.trans hd
    obtain ⟨a, ha⟩ : ∃ a, as[i]? = some a := ⟨_, List.getElem?_eq_getElem (by omega)⟩
    obtain ⟨b, hb⟩ : ∃ b, as[i + 1]? = some b := ⟨_, List.getElem?_eq_getElem (by omega)⟩
    have hab := path_at hpa ha hb
    have ib : atI as (1 + (i : Int)) = some b := by
      have := atI_get hb
      rwa [show ((i + 1 : Nat) : Int) = 1 + (i : Int) by omega] at this
    have ia : atI as (1 + (i : Int) - 1) = some a := by
      have := atI_get ha
      rwa [show (i : Int) = 1 + (i : Int) - 1 by omega] at this
    refine ⟨_, _, some [.dat (.tuple [.str "trail", .tuple (as.map .str), encG t]), .dat (encS h), .dat (.list (fs.map encF)), .dat (.list (as.map .str)), .any], evg_name, ?_, fun Γn q => by cases q; exact ⟨trivial, Sub.refl _⟩⟩
    exact do_no (evt_is (evt_test (ev_ninF hn hf (f := (a, .nm b)) (ev_tup (ds := [.str a, encG (.nm b)]) (evd_cons (ev_ixL (evs_dat (ev_var rfl rfl)) (ev_iI0 (ev_var rfl rfl) ev_cint) (atI_map _ ia)) (evd_cons (ev_tup (ds := [.str "name", .str b]) (evd_cons ev_cstr (evd_cons (ev_ixL (evs_dat (ev_var rfl rfl)) (ev_var rfl rfl) (atI_map _ ib)) evd_nil)) rfl) evd_nil)) rfl) (ev_var rfl rfl) hab)) rfl) (do_next ⟨.inr rfl, .inr rfl, .inr rfl, .inr rfl, .inl rfl, trivial⟩)
  refine do_ifs (b := false) (evt_is (evt_test (ev_ninF hn hf (f := (y, t)) (ev_tup (ds := [.str y, encG t]) (evd_cons (ev_ixL (evs_dat (ev_var rfl rfl)) (ev_neg ev_cint) (atI_map _ (atI_last hy))) (evd_cons (f2 _ rfl) evd_nil)) rfl) (ev_var rfl rfl) hyt)) rfl) (fun e => by cases e) fun _ => do_skip ?_
  have hgo : lvG (look h) t < look h p.1 := by
    rw [look_at nd hp]
    cases t with
    | pg i => exact of_decide_eq_true hdn
    | nm z => exact of_decide_eq_true (Bool.and_eq_true_iff.mp hdn).2
  have fin : Do K (tRet (tOp (rI0 fun i j => .bl (decide (i < j))) (tCall (spP K PrLvOf) [] E0 (tCons (tOp (rIxT K) (tVar 0) (tC (.int 2))) (tCons (tCB rDictT (tCons (tVar 1) tNil)) tNil))) (tDGet (tCB rDictT (tCons (tVar 1) tNil)) (tOp (rIxL K) (tVar 3) (tC (.int 0)))))) [.dat (.tuple [.str "trail", .tuple (as.map .str), encG t]), .dat (encS h), .dat (.list (fs.map encF)), .dat (.list (as.map .str)), .any] none fun x => x = .dat (.bool true) :=
    do_ret (x := .dat (.bool true)) (ev_is (ev_bI0 (ev_call (Pr := PrLvOf) (eva_cons (f2 _ rfl) (eva_cons (ev_dictT (ev_var rfl rfl) nd) eva_nil)) ⟨t, h, rfl, rfl⟩) (ev_dgV (evm_dic (ev_dictT (ev_var rfl rfl) nd)) (ev_ixL (evs_dat (ev_var rfl rfl)) ev_cint (atI_map _ (atI_get a0))) (lk_in hm) rfl)) (by rw [decide_eq_true hgo])) rfl
  cases t with
  | pg i => exact do_ifs (b := false) (evt_is (evt_and (a := false) (b := false) (evt_is (evt_test (ev_eq (b := false) (ev_ixT (ds := [.str "page", .int i]) (f2 _ rfl) ev_cint rfl) ev_cstr rfl)) rfl) fun e => by cases e) rfl) (fun e => by cases e) fun _ => do_skip fin
  | nm z => exact do_ifs (b := false) (evt_is (evt_and (a := true) (b := false) (evt_is (evt_test (ev_eq (b := true) (ev_ixT (ds := [.str "name", .str z]) (f2 _ rfl) ev_cint rfl) ev_cstr rfl)) rfl) fun _ => evt_is (evt_test (ev_ninV (x := z) (l := bk h) (ev_ixT (ds := [.str "name", .str z]) (f2 _ rfl) ev_cint rfl) (evm_dic (ev_dictT (ev_var rfl rfl) nd)))) (by rw [hsV_bk, (Bool.and_eq_true_iff.mp hdn).1]; rfl)) rfl) (fun e => by cases e) fun _ => do_skip fin
end
/-! ### the law -/
section
variable {P : Program} {w : World} {K : PySem.W.Frag} {mg : Str → Option Value} {base : Heap}
open Fs (upF)
abbrev st_law : Stmt := topS 28
abbrev N_law : List Str := ["_law_script", "_law_program_here", "_law_names_here", "_law_pairs", "_law_house_here", "_law_some", "_law_mine", "_law_levels_here", "_law_found", "_law_told", "_law_k", "_law_name_here", "_law_pair", "_law_flow"]
abbrev P_law : List Str := ["_law_script"]
theorem sc_law : FnScope N_law P_law (defScope st_law) := ⟨rfl, rfl, rfl, by decide +kernel, rfl, by decide +kernel, by decide +kernel⟩
def flowHas (x : Str) : PyData → Bool := fun d => match d with
  | .tuple [.str a, t] => decide (x = a) || PyData.eqv (.tuple [.str "name", .str x]) t
  | _ => false
theorem flow_has (x : Str) (fs : List Fl) : (fs.map encF).filter (flowHas x) = (fs.filter fun f => decide (x = f.1) || decide (Tg.nm x = f.2)).map encF := by
  rw [List.filter_map]
  refine congrArg (List.map encF) (List.filter_congr fun f _ => ?_)
  obtain ⟨a, t⟩ := f
  show (decide (x = a) || PyData.eqv (.tuple [.str "name", .str x]) (encG t)) = _
  rw [eqv_goal]
def isMine (fs : List Fl) : PyData → Bool := fun d => match d with
  | .str x => !(fs.filter fun f => decide (x = f.1) || decide (Tg.nm x = f.2)).isEmpty
  | _ => false
theorem is_mine (nm : List Str) (fs : List Fl) : ((nm.map PyData.str).filter (isMine fs)).map id = (mineS nm fs).map .str := by
  rw [List.map_id, List.filter_map]
  rfl
theorem mine_at {K : PySem.W.Frag} {Γ : List Ds} {nm : List Str} {fs : List Fl} {A B C D : Ds} (hn : ∀ x ∈ nm, PyData.strOk x = true) (hf : ∀ f ∈ fs, f ∈ allF nm) (hz : nm.length ≤ 1000) (hz2 : fs.length ≤ 1000) (h2 : Γ = [A, B, .dat (.list (nm.map .str)), C, D, .dat (.list (fs.map encF)), .any, .any, .any, .any, .any, .any, .any, .any]) :
    Ev K (tLc (iList K (tVar 2)) (gName 11) (tTruth K (tLc (iList K (tVar 5)) (gName 13) (tOr (tTest (tOp rEq (tVar 11) (tOp (rIxT K) (tVar 13) (tC (.int 0))))) (tTest (tOp (rEqD K) (tTupF (tCons (tC (.str "name")) (tCons (tVar 11) tNil))) (tOp (rIxT K) (tVar 13) (tC (.int 1)))))) (tVar 13) [13])) (tVar 11) [11]) Γ (.dat (.list ((mineS nm fs).map .str))) := by
  subst h2
  refine ev_is (ev_lc (isMine fs) id (evi_list (ev_var rfl rfl)) (by rw [List.length_map]; omega) fun i d hd => ?_) (by rw [is_mine])
  rw [List.getElem?_map] at hd
  cases hx : nm[i]? with
  | none => rw [hx] at hd; cases hd
  | some x =>
    rw [hx] at hd
    cases hd
    have xm := List.mem_of_getElem? hx
    refine ⟨_, _, evg_name, by decide, evt_is (evt_list (ds := (fs.filter fun f => decide (x = f.1) || decide (Tg.nm x = f.2)).map encF) (ev_is (ev_lc (flowHas x) id (evi_list (ev_var rfl rfl)) (by rw [List.length_map]; omega) fun j e he => ?_) (by rw [List.map_id, flow_has]))) (by show _ = !(List.isEmpty _); rw [List.isEmpty_map]), fun _ => ev_var rfl rfl⟩
    rw [List.getElem?_map] at he
    cases hj : fs[j]? with
    | none => rw [hj] at he; cases he
    | some f =>
      rw [hj] at he
      cases he
      have o := allF_ok (hf _ (List.mem_of_getElem? hj))
      obtain ⟨a, t⟩ := f
      have s1 : Shd 1 (.tuple [.str "name", .str x]) := shd_tup fun d hd => by
        simp only [List.mem_cons, List.not_mem_nil, or_false] at hd
        rcases hd with e | e <;> subst e
        · exact shd_str (by decide +kernel)
        · exact shd_str (hn x xm)
      have s2 : SeqAt.shaped (encG t) = true := by
        cases t with
        | nm y => exact Shd.ok (n := 1) (shd_tup fun d hd => by
            simp only [List.mem_cons, List.not_mem_nil, or_false] at hd
            rcases hd with e | e <;> subst e
            · exact shd_str (by decide +kernel)
            · exact shd_str (hn y (o.2 y rfl))) (by decide)
        | pg i => exact Shd.ok (n := 1) (shd_tup fun d hd => by
            simp only [List.mem_cons, List.not_mem_nil, or_false] at hd
            rcases hd with e | e <;> subst e
            · exact shd_str (by decide +kernel)
            · exact shd_int _) (by decide)
      exact ⟨_, _, evg_name, by decide, evt_is (evt_or (a := decide (x = a)) (evt_test (ev_eq (ev_var rfl rfl) (ev_ixT (ds := [.str a, encG t]) (ev_var rfl rfl) ev_cint rfl) rfl)) fun _ => evt_test (ev_eqD (d := .tuple [.str "name", .str x]) (ev_tup (ds := [.str "name", .str x]) (evd_cons ev_cstr (evd_cons (ev_var rfl rfl) evd_nil)) rfl) (ev_ixT (ds := [.str a, encG t]) (ev_var rfl rfl) ev_cint rfl) (s1.ok (by decide)) s2)) rfl, fun _ => ev_var rfl rfl⟩
/-- all flows go up, by levels that are shown -/
theorem all_at {K : PySem.W.Frag} {Γ : List Ds} {fs : List Fl} {l : List (Str × Int)} {A B C D F G : Ds} (hz : fs.length ≤ 1000) (hk : ∀ f ∈ fs, f.1 ∈ l.map (·.1)) (h2 : Γ = [A, B, C, .any, D, .dat (.list (fs.map encF)), F, .ownD (bk l), G, .any, .any, .any, .any, .any]) :
    Ev K (tCB (rAll K) (tCons (tLc (iList K (tVar 5)) (gName 13) tYes (tOp (rI0 fun i j => .bl (decide (i ≤ j))) (tDGet (tVar 7) (tOp (rIxT K) (tVar 13) (tC (.int 0)))) (tCall (spP K PrLvOf) [] E0 (tCons (tOp (rIxT K) (tVar 13) (tC (.int 1))) (tCons (tVar 7) tNil)))) [13]) tNil)) Γ (.dat (.bool (fs.all fun f => decide (look l f.1 ≤ lvG (look l) f.2)))) := by
  subst h2
  refine Fx.ev_showO (i := 7) rfl (ev_is (ev_all (bs := fs.map fun f => decide (look l f.1 ≤ lvG (look l) f.2)) (evs_dat (ev_is (ev_lcM (fun d => match d with | .tuple [.str x, .tuple [_, .str y]] => .bool (decide (look l x ≤ look l y)) | .tuple [.str x, .tuple [_, .int i]] => .bool (decide (look l x ≤ i)) | _ => .none) (evi_list (ev_var rfl rfl)) (by rw [List.length_map]; omega) fun j e he => ?_) ?_))) (by rw [List.all_map]; rfl))
  · rw [List.getElem?_map] at he
    cases hf : fs[j]? with
    | none => rw [hf] at he; cases he
    | some f =>
      rw [hf] at he
      cases he
      have km := hk _ (List.mem_of_getElem? hf)
      obtain ⟨x, t⟩ := f
      have lv : ∀ Γ : List Ds, Γ[13]? = some (.dat (encF (x, t))) → Γ[7]? = some (.dic (bk l)) → Ev K (tCall (spP K PrLvOf) [] E0 (tCons (tOp (rIxT K) (tVar 13) (tC (.int 1))) (tCons (tVar 7) tNil))) Γ (.dat (.int (lvG (look l) t))) := fun Γ q1 q2 => ev_call (Pr := PrLvOf) (eva_cons (ev_ixT (ds := [.str x, encG t]) (ev_var q1 rfl) ev_cint rfl) (eva_cons (ev_var q2 rfl) eva_nil)) ⟨t, l, rfl, rfl⟩
      cases t with
      | nm y => exact ⟨_, _, evg_name, by decide, ev_bI0 (ev_dgV (x := x) (evm_dic (ev_var rfl rfl)) (ev_ixT (ds := [.str x, encG (.nm y)]) (ev_var rfl rfl) ev_cint rfl) (lk_in km) rfl) (lv _ rfl rfl)⟩
      | pg i => exact ⟨_, _, evg_name, by decide, ev_bI0 (ev_dgV (x := x) (evm_dic (ev_var rfl rfl)) (ev_ixT (ds := [.str x, encG (.pg i)]) (ev_var rfl rfl) ev_cint rfl) (lk_in km) rfl) (lv _ rfl rfl)⟩
  · rw [List.map_map, List.map_map]
    refine congrArg PyData.list (List.map_congr_left fun f _ => ?_)
    obtain ⟨x, t⟩ := f
    cases t <;> rfl
end
section
variable {P : Program} {w : World} {K : PySem.W.Frag} {mg : Str → Option Value} {base : Heap}
open Fs (upF)
theorem d_law (F : Fnd K mg "law" st_law P_law) (hB : Blt mg) (D_l_cell : Dfn P w K mg base "_law_cell" 1 P_l_cell (spP K PrCell)) (D_l_mix : Dfn P w K mg base "_law_mix" 1 P_l_mix (spP K PrMix)) (D_l_names : Dfn P w K mg base "_law_names" 3 P_l_names (spP K PrNames)) (D_l_levels : Dfn P w K mg base "_law_levels" 2 P_l_levels (spP K PrLevels))
    (D_l_program : Dfn P w K mg base "_law_program" 11 P_l_program (spP K PrProg)) (D_l_flows : Dfn P w K mg base "_law_flows" 7 P_l_flows (spP K (PrLF 3))) (D_l_goal : Dfn P w K mg base "_law_goal" 1 P_l_goal (spP K PrLvOf)) (D_l_least : Dfn P w K mg base "_law_least" 1 P_l_least (Fx.spD K PrLeast)) (D_l_is_trail : Dfn P w K mg base "_law_is_trail" 2 P_l_is_trail (spP K PrIsTrail))
    (D_settled : Dfn P w K mg base "settled" 9 P_settled (spP K (PrSettled 3))) (D_names_of : Dfn P w K mg base "names_of" 8 P_names_of (spP K (PrNmsOf 3))) : Dfn P w K mg base "law" 12 P_law (spP K PrLaw) := by
  refine F.pure sc_law (fun xs d ⟨_, h, _⟩ => by subst h; rfl) fun f cdv A outer s H E hr => ⟨_, (pss_cons (ps_set (i := 1) sc_law.nd rfl (by first | exact Or.inl rfl | exact Or.inr rfl) (pe_callD D_l_program (hr.mono (by omega)) (by rfl) (pa_cons (pv 0) (pa_cons pe_int pa_nil))))
      (pss_cons (ps_set (i := 2) sc_law.nd rfl (by first | exact Or.inl rfl | exact Or.inr rfl) (pe_callD D_l_names (hr.mono (by omega)) (by rfl) (pa_cons (pv 0) pa_nil)))
      (pss_cons (ps_setLc (i := 3) (own := [("_law_k", 10)]) (g := (gName 10)) (tt := tYes) (by rfl) sc_law.nd rfl rfl (sw_true rfl rfl rfl (by decide +kernel)) (pi_range1 (by rfl) hB.range (pa_cons pe_int pa_nil)) (blkOk_by (own := [("_law_k", 10)]) (N := N_law) (sc := defScope st_law) (by decide +kernel)) (fun _ _ _ _ _ => (pg_name (i := 10) sc_law.nd rfl (by first | exact Or.inl rfl | exact Or.inr rfl))) (fun _ _ _ _ _ => pts_nil) (fun _ _ _ _ _ => (pf_tup (pa_cons (pe_ix (k_ixL K rfl) (pv 2) (pv 10) (fun _ _ => rfl)) (pa_cons (pe_callD D_l_mix (hr.mono (by omega)) (by rfl) (pa_cons (pe_op op_add (pe_callD D_l_cell (hr.mono (by omega)) (by rfl) (pa_cons (pv 0) (pa_cons pe_int pa_nil))) (pe_op op_mul pe_int (pv 10))) (pa_cons pe_int (pa_cons pe_int pa_nil)))) pa_nil)))))
      (pss_cons (ps_if (pt_cmpR op_eq (pe_op op_mod (pe_callD D_l_cell (hr.mono (by omega)) (by rfl) (pa_cons (pv 0) (pa_cons pe_int pa_nil))) pe_int) pe_int (nomark _)) (pss_one (ps_set (i := 3) sc_law.nd rfl (by first | exact Or.inl rfl | exact Or.inr rfl) (k_listZip K rfl rfl (by rfl) hB.list (by rfl) hB.zip (pa_cons (pv 2) (pa_cons (pe_callD D_l_levels (hr.mono (by omega)) (by rfl) (pa_cons (pv 0) pa_nil)) pa_nil))))) pss_nil)
      (pss_cons (ps_set (i := 4) sc_law.nd rfl (by first | exact Or.inl rfl | exact Or.inr rfl) (pe_callTy (k_tup K rfl) (by rfl) hB.tuple (by decide +kernel) (pa_cons (pe_callB (cr_sortD (hu100 hr)) (by rfl) hB.sorted (by decide +kernel) (pa_cons (pe_lc (own := [("_law_k", 10), ("_law_pair", 12)]) (g := (gTup K 2 (gCons (gName 10) (gCons (gName 12) gNil))))  (by rfl) sc_law.nd (k_enum K rfl (by rfl) hB.enumerate (pa_cons (pv 3) pa_nil)) (blkOk_by (own := [("_law_k", 10), ("_law_pair", 12)]) (N := N_law) (sc := defScope st_law) (by decide +kernel)) (fun _ _ _ _ _ => (k_gt K rfl rfl (pgs_cons (pg_name (i := 10) sc_law.nd rfl (by first | exact Or.inl rfl | exact Or.inr rfl)) (pgs_cons (pg_name (i := 12) sc_law.nd rfl (by first | exact Or.inl rfl | exact Or.inr rfl)) pgs_nil)))) (fun _ _ _ _ _ => pts_one (pt_cmpR op_gt (pe_callD D_l_mix (hr.mono (by omega)) (by rfl) (pa_cons (pe_op op_add (pe_callD D_l_cell (hr.mono (by omega)) (by rfl) (pa_cons (pv 0) (pa_cons pe_int pa_nil))) (pv 10)) (pa_cons pe_int (pa_cons pe_int pa_nil)))) pe_int (nomark _))) (fun _ _ _ _ _ => (pv 12))) pa_nil)) pa_nil)))
      (pss_cons (ps_set (i := 5) sc_law.nd rfl (by first | exact Or.inl rfl | exact Or.inr rfl) (pe_callD D_l_flows (hr.mono (by omega)) (by rfl) (pa_cons (pv 1) (pa_cons (pe_lst pa_nil) pa_nil))))
      (pss_cons (ps_setLc (i := 6) (own := [("_law_name_here", 11)]) (g := (gName 11))  (by rfl) sc_law.nd rfl rfl (sw_true rfl rfl rfl (by decide +kernel)) (k_pil K rfl (pv 2)) (blkOk_by (own := [("_law_name_here", 11)]) (N := N_law) (sc := defScope st_law) (by decide +kernel)) (fun _ _ _ _ _ => (pg_name (i := 11) sc_law.nd rfl (by first | exact Or.inl rfl | exact Or.inr rfl))) (fun _ _ _ _ _ => pts_one (k_truth K rfl (pe_lc (own := [("_law_flow", 13)]) (g := (gName 13))  (by rfl) sc_law.nd (k_pil K rfl (pv 5)) (blkOk_by (own := [("_law_flow", 13)]) (N := N_law) (sc := { kind := PySem.ScopeKind.function, names := [(Str.ofString ".0", PySem.NameKind.local), (Str.ofString "_law_name_here", PySem.NameKind.cell), (Str.ofString "_law_some", PySem.NameKind.cell)], isGenerator := false, isCoroutine := false }) (by decide +kernel)) (fun _ _ _ _ _ => (pg_name (i := 13) sc_law.nd rfl (by first | exact Or.inl rfl | exact Or.inr rfl))) (fun _ _ _ _ _ => pts_one (PW.pt (pw_or (pt_cmpR op_eq (pv 11) (pe_ix (k_ixT K rfl) (pv 13) pe_int (fun _ _ => rfl)) (nomark _)) (pw_or1 (pt_cmpR (k_eqD K rfl hr.units) (pf_tup (pa_cons pe_str (pa_cons (pv 11) pa_nil))) (pe_ix (k_ixT K rfl) (pv 13) pe_int (fun _ _ => rfl)) (nomark _)))))) (fun _ _ _ _ _ => (pv 13))) (by intro _; rfl))) (fun _ _ _ _ _ => (pv 11)))
      (pss_cons (ps_set (i := 7) sc_law.nd rfl (by first | exact Or.inl rfl | exact Or.inr rfl) (pe_callD D_l_least (hr.mono (by omega)) (by rfl) (pa_cons (pv 4) (pa_cons (pv 6) (pa_cons (pv 5) pa_nil)))))
      (pss_cons (ps_set (i := 8) sc_law.nd rfl (by first | exact Or.inl rfl | exact Or.inr rfl) (pe_callD D_settled (hr.mono (by omega)) (by rfl) (pa_cons (pv 1) (pa_cons (pv 4) pa_nil))))
      (pss_cons (ps_if (PW.pt (pw_or (pt_not (pt_val (pe_callB (k_isi K rfl) (by rfl) hB.isinstance (by decide +kernel) (pa_cons (pv 8) (pa_cons (pe_bltn (v := .ty "tuple") (u := .type "tuple") (by rfl) hB.tuple (by decide +kernel) rfl) pa_nil))))) (pw_or1 (pt_cmpR op_lt (pe_callB (k_len K rfl) (by rfl) hB.len (by decide +kernel) (pa_cons (pv 8) pa_nil)) pe_int (nomark _))))) (pss_one (ps_ret pe_bl)) pss_nil)
      (pss_cons (ps_if (pt_not (pt_val (pe_callB (k_all K rfl rfl) (by rfl) hB.all (by decide +kernel) (pa_cons (pe_lc (own := [("_law_flow", 13)]) (g := (gName 13)) (tt := tYes) (by rfl) sc_law.nd (k_pil K rfl (pv 5)) (blkOk_by (own := [("_law_flow", 13)]) (N := N_law) (sc := defScope st_law) (by decide +kernel)) (fun _ _ _ _ _ => (pg_name (i := 13) sc_law.nd rfl (by first | exact Or.inl rfl | exact Or.inr rfl))) (fun _ _ _ _ _ => pts_nil) (fun _ _ _ _ _ => (pe_cmpR op_le (pe_dget (hu_of hr) (pv 7) (pe_ix (k_ixT K rfl) (pv 13) pe_int (fun _ _ => rfl)) (fun _ _ => rfl)) (pe_callD D_l_goal (hr.mono (by omega)) (by rfl) (pa_cons (pe_ix (k_ixT K rfl) (pv 13) pe_int (fun _ _ => rfl)) (pa_cons (pv 7) pa_nil))) (nomark _)))) pa_nil)))) (pss_one (ps_ret (pe_and (pe_cmpR op_eq (pe_ix (k_ixT K rfl) (pv 8) pe_int (fun _ _ => rfl)) pe_str (nomark _)) (pe_one (pe_callD D_l_is_trail (hr.mono (by omega)) (by rfl) (pa_cons (pv 8) (pa_cons (pv 4) (pa_cons (pv 5) pa_nil)))))))) pss_nil)
      (pss_cons (ps_if (PW.pt (pw_or (pt_cmpR op_ne (pe_ix (k_ixT K rfl) (pv 8) pe_int (fun _ _ => rfl)) pe_str (nomark _)) (pw_or (pt_not (pt_val (pe_callB (k_isi K rfl) (by rfl) hB.isinstance (by decide +kernel) (pa_cons (pe_ix (k_ixT K rfl) (pv 8) pe_int (fun _ _ => rfl)) (pa_cons (pe_bltn (v := .ty "tuple") (u := .type "tuple") (by rfl) hB.tuple (by decide +kernel) rfl) pa_nil))))) (pw_or1 (pt_cmpR (k_neD K rfl hr.units) (pe_callTy (k_list K rfl) (by rfl) hB.list (by decide +kernel) (pa_cons (pe_ix (k_ixT K rfl) (pv 8) pe_int (fun _ _ => rfl)) pa_nil)) (pe_callB (Fp.cr_sortSP rfl (hu100 hr)) (by rfl) hB.sorted (by decide +kernel) (pa_cons (pe_callTy (Fp.cr_setP rfl (Nat.lt_of_succ_lt (hu65 hr))) (by rfl) hB.set (by decide +kernel) (pa_cons (pe_ix (k_ixT K rfl) (pv 8) pe_int (fun _ _ => rfl)) pa_nil)) pa_nil)) (nomark _)))))) (pss_one (ps_ret pe_bl)) pss_nil)
      (pss_cons (ps_set (i := 9) sc_law.nd rfl (by first | exact Or.inl rfl | exact Or.inr rfl) (pe_callTy (cf_dict rfl) (by rfl) hB.dict (by decide +kernel) (pa_cons (pe_ix (k_ixT K rfl) (pv 8) pe_int (fun _ _ => rfl)) pa_nil)))
      (pss_cons (ps_if (pt_cmpR (k_neD K rfl hr.units) (pe_callB (cr_sortK rfl) (by rfl) hB.sorted (by decide +kernel) (pa_cons (pv 9) pa_nil)) (pe_callB (Ft.cr_sortX rfl (hu100 hr)) (by rfl) hB.sorted (by decide +kernel) (pa_cons (pe_callTy (Ft.cr_setS rfl) (by rfl) hB.set (by decide +kernel) (pa_cons (pe_op op_cat (pe_callTy (k_list K rfl) (by rfl) hB.list (by decide +kernel) (pa_cons (pe_callD D_names_of (hr.mono (by omega)) (by rfl) (pa_cons (pv 1) pa_nil)) pa_nil)) (pe_callTy (Fx.cr_listDk rfl) (by rfl) hB.list (by decide +kernel) (pa_cons (pe_callTy (cf_dict rfl) (by rfl) hB.dict (by decide +kernel) (pa_cons (pv 4) pa_nil)) pa_nil))) pa_nil)) pa_nil)) (nomark _)) (pss_one (ps_ret pe_bl)) pss_nil)
      (pss_cons (ps_if (k_truth K rfl (pe_lock (pe_lc (own := [("_law_name_here", 11)]) (g := (gName 11))  (by rfl) sc_law.nd (pi_keys (pv 7)) (blkOk_by (own := [("_law_name_here", 11)]) (N := N_law) (sc := defScope st_law) (by decide +kernel)) (fun _ _ _ _ _ => (pg_name (i := 11) sc_law.nd rfl (by first | exact Or.inl rfl | exact Or.inr rfl))) (fun _ _ _ _ _ => pts_one (pt_cmpR op_ne (pe_dget2 (hu_of hr) (pv 9) (pv 11) pe_int ⟨rfl, rfl, rfl, rfl⟩) (pe_dget (hu_of hr) (pv 7) (pv 11) (fun _ _ => rfl)) (nomark _))) (fun _ _ _ _ _ => (pv 11)))) (by intro _; rfl)) (pss_one (ps_ret pe_bl)) pss_nil)
      (pss_one (ps_ret (Fx.k_notT K rfl (pe_lock (pe_lc (own := [("_law_name_here", 11)]) (g := (gName 11))  (by rfl) sc_law.nd (pi_keys (pv 9)) (blkOk_by (own := [("_law_name_here", 11)]) (N := N_law) (sc := defScope st_law) (by decide +kernel)) (fun _ _ _ _ _ => (pg_name (i := 11) sc_law.nd rfl (by first | exact Or.inl rfl | exact Or.inr rfl))) (fun _ _ _ _ _ => pts_one (PW.pt (pw_or (pt_cmpR (k_ninD K rfl (hu65 hr)) (pv 11) (pv 2) (by rfl)) (pw_or1 (PW.pt (pw_and (pt_cmp (pc_dnotin (hu_of hr) (pv 11) (pv 7))) (pw_and1 (pt_cmpR op_ne (pe_dget (hu_of hr) (pv 9) (pv 11) (fun _ _ => rfl)) pe_int (nomark _))))))))) (fun _ _ _ _ _ => (pv 11)))))))))))))))))))))), ?_⟩
  rintro xs d ⟨ns, rfl, h63, rfl⟩
  have n4 := nmS_len ns
  have pl := pairs_len ns
  have ok := (prog_ok ns 2 h63).ok
  have ga := prog_ga (k := 2) h63
  have many := prog_many (k := 2) h63
  have o := whole_ok ns
  have ol := whole_len ns
  have ps := pr_settled (k := 2) (h := wholeS ns) h63 o.ri o.nm (by omega)
  refine do_seq (do_asg (x := .dat (encB (progS ns 2))) (by repeat' walk_at "ev")) (do_seq (do_asg (x := .dat (.list ((nmS ns).map .str))) (by repeat' walk_at "ev")) (do_seq (do_asg (x := .dat (.list (((List.range 4).map fun (k : Nat) => (nameAt (nmS ns) (k : Int), mix (cell ns 6 + 7 * (k : Int)) 9803 3)).map encP))) (ev_is (ev_lcM (fun d => match d with | .int k => encP (nameAt (nmS ns) k, mix (cell ns 6 + 7 * k) 9803 3) | _ => .none) (evi_range1 ev_cint (by decide) (by decide)) (by rw [rangeD_len]; decide) fun n d hd => ?_) ?_))
    (do_seq (Γ1 := [.scr ns, .dat (encB (progS ns 2)), .dat (.list ((nmS ns).map .str)), .dat (.list ((pairsS ns).map encP)), .any, .any, .any, .any, .any, .any, .any, .any, .any, .any]) (do_if (b := decide (cell ns 6 % 2 = 0)) (by repeat' walk_at "ev") (fun hb => ?_) fun hb => ?_) (do_seq (do_asg (x := .dat (encS (wholeS ns))) ?_) ?_))))
  · have hn : n < 4 := by
      have := (List.getElem?_eq_some_iff.mp hd).1
      rw [rangeD_len] at this
      exact this
    cases (rangeD_get (lo := 0) hn).symm.trans hd
    refine ⟨_, _, evg_name, by decide, ?_⟩
    exact ev_tup (ds := [.str (nameAt (nmS ns) (0 + (n : Int))), .int (mix (cell ns 6 + 7 * (0 + (n : Int))) 9803 3)]) (evd_cons (ev_ixL (evs_dat (ev_var rfl rfl)) (ev_var rfl rfl) (atI_map _ (nameAt_get (by omega) (by omega)))) (evd_cons (by repeat' walk_at "ev") evd_nil)) rfl
  · show PyData.list ((rangeD 0 4).map _) = _
    unfold rangeD
    rw [List.map_map, List.map_map]
    refine congrArg PyData.list (List.map_congr_left fun k _ => ?_)
    show encP (nameAt (nmS ns) (0 + (k : Int)), mix (cell ns 6 + 7 * (0 + (k : Int))) 9803 3) = encP (nameAt (nmS ns) (k : Int), mix (cell ns 6 + 7 * (k : Int)) 9803 3)
    rw [Int.zero_add]
  · have e : pairsS ns = (nmS ns).zip (lvS ns) := by
      unfold pairsS
      rw [if_pos (of_decide_eq_true hb)]
    rw [e]
    refine do_post (do_asg (x := .dat (.list (((nmS ns).zip (lvS ns)).map encP))) ?_) (by exact Sub.refl _)
    refine ev_is (ev_listZip (xs := (nmS ns).map .str) (ys := (lvS ns).map .int) (by repeat' walk_at "ev") (by repeat' walk_at "ev") ?_) (by rw [zip_enc])
    rw [List.length_map, nmS_len]
    decide
  · have e : pairsS ns = (List.range 4).map fun (k : Nat) => (nameAt (nmS ns) (k : Int), mix (cell ns 6 + 7 * (k : Int)) 9803 3) := by
      unfold pairsS
      rw [if_neg (of_decide_eq_false hb)]
    rw [e]
    exact do_next (by exact Sub.refl _)
  · have pk := pick_len (fun k => decide (mix (cell ns 7 + k) 9787 3 > 0)) ns
    refine ev_tupL (evs_dat (ev_is (ev_sortD (ds := (pick (fun k => decide (mix (cell ns 7 + k) 9787 3 > 0)) (pairsS ns)).map encP) (evs_dat (ev_is (ev_lc (pickF fun k => decide (mix (cell ns 7 + k) 9787 3 > 0)) pickV (evi_enum (ev_var rfl rfl)) (by rw [enumD_len, List.length_map]; omega) fun i d hd => ?_) (by rw [pick_enum]))) (alikes_P _) (sortable_P _) (by rw [List.length_map]; omega) (depth_P _)) (by rw [upD_P]; rfl)))
    have hi : i < (pairsS ns).length := by
      have := (List.getElem?_eq_some_iff.mp hd).1
      rwa [enumD_len, List.length_map] at this
    obtain ⟨p, hp⟩ : ∃ p, (pairsS ns)[i]? = some p := ⟨_, List.getElem?_eq_getElem hi⟩
    cases (enumD_get (ds := (pairsS ns).map encP) (d := encP p) (by rw [List.getElem?_map, hp]; rfl)).symm.trans hd
    refine ⟨_, _, evg_tupP (ds := [.int (i : Nat), encP p]) (evgs_cons evg_name (evgs_cons evg_name evgs_nil)) rfl, by decide, ?_, fun _ => ev_var rfl rfl⟩
    show EvT K _ _ (decide (mix (cell ns 7 + (i : Int)) 9787 3 > 0))
    repeat' walk_at "ev"
  refine do_weak (Γ' := [.scr ns, .dat (encB (progS ns 2)), .dat (.list ((nmS ns).map .str)), .any, .dat (encS (wholeS ns)), .any, .any, .any, .any, .any, .any, .any, .any, .any]) ⟨.inr rfl, .inr rfl, .inr rfl, .inl rfl, .inr rfl, .inr rfl, .inr rfl, .inr rfl, .inr rfl, .inr rfl, .inr rfl, .inr rfl, .inr rfl, .inr rfl, trivial⟩ ?_
  generalize wholeS ns = h at o ol ps
  generalize progS ns 2 = b at ok ga many ps
  have fa : ∀ f ∈ flowsS b, f ∈ allF (nmS ns) := fun f hf => ga_in ok f (mem_flows.mp hf)
  have few := flows_few ok n4
  have st := ls_start ok o
  have nd := rising_nodup o.ri
  have ml : (mineS (nmS ns) (flowsS b)).length ≤ 4 := by
    rw [← n4]
    exact List.length_filter_le _ _
  refine do_seq (do_asg (x := .dat (.list ((flowsS b).map encF))) (ev_is (ev_call (Pr := PrLF 3) (eva_cons (ev_var rfl rfl) (eva_cons (ev_lst evd_nil rfl) eva_nil)) ⟨b, [], _, rfl, ga.dp, ga.td, by decide, ga.z, ga_in ok, allF_len n4, rfl⟩) (by rw [flows_up]))) ?_
  refine do_seq (do_asg (x := .dat (.list ((mineS (nmS ns) (flowsS b)).map .str))) (mine_at nmS_ok fa (by omega) (by omega) rfl)) ?_
  refine do_seq (Fx.do_callO (Pr := PrLeast) (l := lsLeast (flowsS b) h (mineS (nmS ns) (flowsS b))) (i := 7) (eva_cons (ev_var rfl rfl) (eva_cons (ev_var rfl rfl) (eva_cons (ev_var rfl rfl) eva_nil))) ⟨h, _, flowsS b, rfl, nd, st, by omega, rfl⟩) ?_
  refine do_seq (do_asg (x := .dat (encSR (stl (flowsS b) h (Ft.upX (allL b))))) (ev_call (Pr := PrSettled 3) (eva_cons (ev_var rfl rfl) (eva_cons (ev_var rfl rfl) eva_nil)) ps)) ?_
  obtain ⟨l1, l2, l3⟩ := least_ok st
  have lfl : ∀ f ∈ flowsS b, f.1 ∈ (lsLeast (flowsS b) h (mineS (nmS ns) (flowsS b))).map (·.1) := fun f hf => (l1.fl f hf).1
  rcases stl_prog ok n4 o.ri o.nm with ⟨p, hp, as, t, e1, e2⟩ | ⟨L, e1, lk, q1, q2, q3, q4, q5⟩
  · obtain ⟨pa, hd0, y, hl, hyt, hdn⟩ := wk_trail e2
    have al := wk_len (S := nmS ns) (o.nm p hp) (fun f hf => (allF_ok (fa f hf)).2) e2
    have bad : ((flowsS b).all fun f => decide (look (lsLeast (flowsS b) h (mineS (nmS ns) (flowsS b))) f.1 ≤ lvG (look (lsLeast (flowsS b) h (mineS (nmS ns) (flowsS b)))) f.2)) = false := by
      cases c : ((flowsS b).all fun f => decide (look (lsLeast (flowsS b) h (mineS (nmS ns) (flowsS b))) f.1 ≤ lvG (look (lsLeast (flowsS b) h (mineS (nmS ns) (flowsS b)))) f.2)) with
      | false => rfl
      | true => exact absurd (fun g hg => of_decide_eq_true (List.all_eq_true.mp c g hg)) (least_bad st nd hp hyt (path_rc pa .refl hd0 hl) hdn)
    rw [e1]
    refine do_weak (Γ' := [.scr ns, .dat (encB b), .dat (.list ((nmS ns).map .str)), .any, .dat (encS h), .dat (.list ((flowsS b).map encF)), .dat (.list ((mineS (nmS ns) (flowsS b)).map .str)), .ownD (bk (lsLeast (flowsS b) h (mineS (nmS ns) (flowsS b)))), .dat (.tuple [.str "trail", .tuple (as.map .str), encG t]), .any, .any, .any, .any, .any]) (by exact Sub.refl _) ?_
    refine do_ifs (b := false) (evt_is (evt_or (a := false) (b := false) (evt_is (evt_not (evt_B (ev_isi (b := true) (ev_var rfl rfl) rfl (.ty "tuple")))) rfl) fun _ => evt_is (evt_test (ev_bI0 (ev_len (ev_var rfl rfl) len_tup) ev_cint)) rfl) rfl) (fun e => by cases e) fun _ => do_skip ?_
    exact do_ifs (b := true) (evt_is (evt_not (evt_B (all_at (by omega) lfl rfl))) (by rw [bad]; rfl)) (fun _ => do_stop (do_ret (x := .dat (.bool true)) (ev_is (ev_andV (a := true) (b := true) (ev_eq (b := true) (ev_ixT (ds := [.str "trail", .tuple (as.map .str), encG t]) (ev_var rfl rfl) ev_cint rfl) ev_cstr rfl) fun _ => ev_call (Pr := PrIsTrail) (eva_cons (ev_var rfl rfl) (eva_cons (ev_var rfl rfl) (eva_cons (ev_var rfl rfl) eva_nil))) ⟨nmS ns, h, flowsS b, as, t, p, y, rfl, nmS_ok, fa, nd, by omega, hp, hd0, pa, hl, hyt, hdn, rfl⟩) rfl) rfl)) fun e => by cases e
  · have h0 : ∀ y, 0 ≤ look h y := fun y => (house_look o y).1
    have same : look (lsLeast (flowsS b) h (mineS (nmS ns) (flowsS b))) = look (upP L) := funext fun y => by rw [least_same st nd q1 q2 q3 q4 y, upP_look lk.nd]
    have good : ((flowsS b).all fun f => decide (look (lsLeast (flowsS b) h (mineS (nmS ns) (flowsS b))) f.1 ≤ lvG (look (lsLeast (flowsS b) h (mineS (nmS ns) (flowsS b)))) f.2)) = true := by
      rw [same, all_lets (b := b) fun f => mem_flows]
      exact stl_lets ok h0 nd lk.nd q1 q2 q3 q4
    have tk := told_keys lk.nd q5
    have ti := fun x hx => told_in (x := x) st q5 hx
    have ts := told_same lk.nd
    obtain ⟨tl, tl2⟩ := told_few lk
    have mnd : ((upP L).map (·.1)).Nodup := ((upP_perm L).map (·.1)).nodup_iff.mpr lk.nd
    have msub : ∀ x ∈ (upP L).map (·.1), x ∈ nmS ns := fun x hx => lk.sub x (upP_keys x |>.mp hx)
    have xl : (Ft.ddp (Ft.upX (allL b) ++ h.map (·.1))).length ≤ 4 := by
      rw [← n4]
      refine Ft.nodup_len (Ft.ddp_nodup _) fun x hx => ?_
      rcases List.mem_append.mp (Ft.mem_ddp.mp hx) with z | z
      · exact allL_ok b ok x (Ft.mem_upX.mp z)
      · obtain ⟨p, hp, rfl⟩ := List.mem_map.mp z
        exact o.nm p hp
    have ul : (Ft.upX (allL b)).length ≤ 4 := by
      rw [← n4]
      exact Ft.nodup_len (risS_nodup (Ft.upX_ris _)) fun x hx => allL_ok b ok x (Ft.mem_upX.mp hx)
    rw [e1]
    refine do_weak (Γ' := [.scr ns, .dat (encB b), .dat (.list ((nmS ns).map .str)), .any, .dat (encS h), .dat (.list ((flowsS b).map encF)), .dat (.list ((mineS (nmS ns) (flowsS b)).map .str)), .ownD (bk (lsLeast (flowsS b) h (mineS (nmS ns) (flowsS b)))), .dat (.tuple [.str "house", encS (upP L)]), .any, .any, .any, .any, .any]) (by exact Sub.refl _) ?_
    have lnd := l1.nd
    have llen : (lsLeast (flowsS b) h (mineS (nmS ns) (flowsS b))).length ≤ 8 := by
      have a := congrArg List.length l2
      rw [List.length_map, List.length_map] at a
      have c := sdfs_len (xs := mineS (nmS ns) (flowsS b)) (l := h)
      omega
    clear l1 l2 l3 e1 ps st q5 q4 q3 q2 q1
    generalize lsLeast (flowsS b) h (mineS (nmS ns) (flowsS b)) = l0 at lfl same good ti lnd llen
    generalize upP L = M at tk ts tl tl2 mnd msub ti same
    refine do_ifs (b := false) (evt_is (evt_or (a := false) (b := false) (evt_is (evt_not (evt_B (ev_isi (b := true) (ev_var rfl rfl) rfl (.ty "tuple")))) rfl) fun _ => evt_is (evt_test (ev_bI0 (ev_len (ev_var rfl rfl) len_tup) ev_cint)) rfl) rfl) (fun e => by cases e) fun _ => do_skip ?_
    refine do_ifs (b := false) (evt_is (evt_not (evt_B (all_at (by omega) lfl rfl))) (by rw [good]; rfl)) (fun e => by cases e) fun _ => do_skip ?_
    have f1 : ∀ Γ : List Ds, Γ[8]? = some (.dat (.tuple [.str "house", encS M])) → Ev K (tOp (rIxT K) (tVar 8) (tC (.int 1))) Γ (.dat (encS M)) := fun Γ q => ev_ixT (ds := [.str "house", encS M]) (ev_var q rfl) ev_cint rfl
    refine do_ifs (b := false) (evt_is (evt_or (a := false) (b := false) (evt_is (evt_test (ev_ne (b := true) (ev_ixT (ds := [.str "house", encS M]) (ev_var rfl rfl) ev_cint rfl) ev_cstr rfl)) rfl) fun _ =>
      evt_is (evt_or (a := false) (b := false) (evt_is (evt_not (evt_B (ev_isi (b := true) (f1 _ rfl) rfl (.ty "tuple")))) rfl) fun _ =>
      evt_test (ev_neS (d := .list (M.map encP)) (ev_listT (f1 _ rfl)) (ev_is (Fp.ev_sortSPt (f1 _ rfl) (by omega)) (by rw [ts])) (shd_lst (n := 1) fun d hd => ?_) (by decide))) rfl) rfl) (fun e => by cases e) fun _ => do_skip ?_
    · obtain ⟨p, hp, rfl⟩ := List.mem_map.mp hd
      exact shd_P (nmS_ok _ (msub _ (List.mem_map.mpr ⟨p, hp, rfl⟩)))
    refine do_seq (do_dictO (i := 9) (l := M) (f1 _ rfl) mnd) ?_
    refine do_weak (Γ' := [.scr ns, .dat (encB b), .dat (.list ((nmS ns).map .str)), .any, .dat (encS h), .dat (.list ((flowsS b).map encF)), .dat (.list ((mineS (nmS ns) (flowsS b)).map .str)), .ownD (bk l0), .dat (.tuple [.str "house", encS M]), .ownD (bk M), .any, .any, .any, .any]) (by exact Sub.refl _) ?_
    refine do_ifs (b := false) (evt_is (evt_test (ev_neS (d := .list ((upS (M.map (·.1))).map .str)) (Fx.ev_showO (i := 9) rfl (ev_sortK (ev_var rfl rfl) mnd (by omega))) (ev_is (Ft.ev_sortSet (xs := Ft.upX (allL b) ++ h.map (·.1)) (evs_dat (ev_is (ev_cat (xs := (Ft.upX (allL b)).map .str) (ys := (bk h).map fun p => .str p.1) (evs_dat (ev_listT (ev_call (Pr := PrNmsOf 3) (eva_cons (ev_var rfl rfl) eva_nil) ⟨nmS ns, b, rfl, ok, by omega, ga.td, ga.dp, many, rfl⟩))) (evs_dat (Fx.ev_listD (evm_dic (ev_dictT (ev_var rfl rfl) nd)))) ?_) ?_)) (by omega)) (by rw [tk])) (shd_lst (n := 0) fun d hd => ?_) (by decide))) rfl) (fun e => by cases e) fun _ => do_skip ?_
    · unfold bk
      rw [List.length_map, List.length_map, List.length_map]
      have h16 : sizeLine = 16777216 := by first | exact PyProof.Rows.sizeLine_eq | rfl
      omega
    · unfold bk
      rw [List.map_map, List.map_append, List.map_map]
      rfl
    · obtain ⟨x, hx, rfl⟩ := List.mem_map.mp hd
      exact shd_str (nmS_ok _ (msub x ((upS_perm _).mem_iff.mp hx)))
    refine do_ifs (b := false) (evt_is (evt_list (ds := []) (Fx.ev_lockO (i := 7) rfl fun a od Gl hG => ev_is (ev_lc (fun _ => false) id (Fx.evi_keys rfl hG) (by unfold bk; rw [List.length_map, List.length_map]; omega) fun i d hd => ?_) (by simp))) rfl) (fun e => by cases e) fun _ => do_skip ?_
    · unfold bk at hd
      rw [List.map_map, List.getElem?_map] at hd
      cases hx : l0[i]? with
      | none => rw [hx] at hd; cases hd
      | some p =>
        rw [hx] at hd
        cases hd
        have km : p.1 ∈ l0.map (·.1) := List.mem_map.mpr ⟨p, List.mem_of_getElem? hx, rfl⟩
        have e : (look? M p.1).getD 3 = look l0 p.1 := by
          rw [look_in (ti _ km), same]
          rfl
        exact ⟨_, _, evg_name, by decide, evt_is (evt_test (ev_ne (b := true) (Fx.ev_dgN (y := p.1) (evm_own (i := 9) rfl) (ev_var rfl rfl)) (Fx.ev_dgF (y := p.1) (x := .int (look l0 p.1)) rfl hG (ev_var rfl rfl) (lk_in km) rfl) (by rw [e]; exact congrArg some (decide_eq_true rfl)))) rfl, fun e => by cases e⟩
    · refine do_ret (x := .dat (.bool true)) (ev_is (Fx.ev_notT (ds := []) (Fx.ev_lockO (i := 9) rfl fun a od Gl hG => ev_is (ev_lc (fun _ => false) id (Fx.evi_keys rfl hG) (by unfold bk; rw [List.length_map, List.length_map]; omega) fun i d hd => ?_) (by simp))) rfl) rfl
      unfold bk at hd
      rw [List.map_map, List.getElem?_map] at hd
      cases hx : M[i]? with
      | none => rw [hx] at hd; cases hd
      | some p =>
        rw [hx] at hd
        cases hd
        have km : p.1 ∈ M.map (·.1) := List.mem_map.mpr ⟨p, List.mem_of_getElem? hx, rfl⟩
        have s1 : Shd 1 (.list ((nmS ns).map PyData.str)) := shd_lst fun d hd => by
          obtain ⟨x, hx, rfl⟩ := List.mem_map.mp hd
          exact shd_str (nmS_ok x hx)
        have s2 : Shd 0 (.str p.1) := shd_str (nmS_ok _ (msub _ km))
        have an : (((nmS ns).map PyData.str).any fun z => PyData.eqv z (.str p.1)) = true := List.any_eq_true.mpr ⟨_, List.mem_map.mpr ⟨p.1, msub _ km, rfl⟩, s2.refl⟩
        refine ⟨_, _, evg_name, by decide, evt_is (evt_or (a := false) (b := false) (evt_is (evt_test (ev_ninD (d := .str p.1) (ev_var rfl rfl) (ev_var rfl rfl) (s2.ok (by decide)) (s1.ok (by decide)))) (by rw [an]; rfl)) fun _ =>
          evt_is (evt_and (a := !has l0 p.1) (b := false) (evt_is (evt_test (ev_ninV (x := p.1) (ev_var rfl rfl) (evm_own (i := 7) rfl))) (by rw [hsV_bk])) fun hb => evt_is (evt_test (ev_ne (b := true) (Fx.ev_dgF (y := p.1) (x := .int (look M p.1)) rfl hG (ev_var rfl rfl) (lk_in km) rfl) ev_cint ?_)) rfl) (by rw [Bool.and_false])) rfl, fun e => by cases e⟩
        have hn : has l0 p.1 = false := by
          cases c : has l0 p.1 with
          | false => rfl
          | true => rw [c] at hb; cases hb
        rw [← same, not_has hn]
        rfl
end
section
variable {P : Program} {w : World} {K : PySem.W.Frag} {mg : Str → Option Value} {base : Heap}
theorem law_all (hB : Blt mg) (F_nin : Fnd K mg "names_in" st_names_in P_names_in) (F_alln : Fnd K mg "all_names" st_all_names P_all_names) (F_nmsof : Fnd K mg "names_of" st_names_of P_names_of) (F_gather : Fnd K mg "gather" st_gather P_gather) (F_flows : Fnd K mg "flows" st_flows P_flows)
    (F_trail : Fnd K mg "trail_of" st_trail_of P_trail_of) (F_down : Fnd K mg "is_down" st_is_down P_is_down) (F_walked : Fnd K mg "walked" st_walked P_walked) (F_settled : Fnd K mg "settled" st_settled P_settled)
    (F_cell : Fnd K mg "_law_cell" st_l_cell P_l_cell) (F_mix : Fnd K mg "_law_mix" st_l_mix P_l_mix) (F_name : Fnd K mg "_law_name" st_l_name P_l_name) (F_names : Fnd K mg "_law_names" st_l_names P_l_names) (F_levels : Fnd K mg "_law_levels" st_l_levels P_l_levels)
    (F_term : Fnd K mg "_law_term" st_l_term P_l_term) (F_names_in : Fnd K mg "_law_names_in" st_l_names_in P_l_names_in) (F_deed : Fnd K mg "_law_deed" st_l_deed P_l_deed) (F_block : Fnd K mg "_law_block" st_l_block P_l_block) (F_program : Fnd K mg "_law_program" st_l_program P_l_program)
    (F_lflows : Fnd K mg "_law_flows" st_l_flows P_l_flows) (F_goal : Fnd K mg "_law_goal" st_l_goal P_l_goal) (F_least : Fnd K mg "_law_least" st_l_least P_l_least) (F_istrail : Fnd K mg "_law_is_trail" st_l_is_trail P_l_is_trail)
    (F : Fnd K mg "law" st_law P_law) : Dfn P w K mg base "law" 12 P_law (spLaw K) := by
  have D_cell := d_cell (P := P) (w := w) (base := base) F_cell hB
  have D_mix := d_mix (P := P) (w := w) (base := base) F_mix
  have D_name := d_name F_name hB D_cell D_mix
  have D_names := d_names F_names hB D_name
  have D_levels := d_levels F_levels D_cell D_mix
  have D_lnin := d_lnin (P := P) (w := w) (base := base) F_names_in 3
  have D_deed := d_deed F_deed F_block hB D_mix (d_term F_term D_mix 3) D_lnin 3
  have D_program := d_program F_program hB D_cell D_mix D_names D_levels D_deed
  have D_nin := d_nin (P := P) (w := w) (base := base) F_nin 3
  have D_flows := d_flows F_flows hB 3 (d_gather F_gather D_nin 3)
  have D_nmsof := d_nmsof F_nmsof hB 3 (d_alln F_alln D_nin 3)
  have D_settled := d_settled F_settled hB 3 D_nmsof D_flows (d_walked F_walked hB (d_trail F_trail hB) (d_down F_down))
  have D_goal := d_lgoal (P := P) (w := w) (base := base) F_goal
  exact law_of (d_law F hB D_cell D_mix D_names D_levels D_program (d_lflows F_lflows hB D_lnin 3) D_goal (d_lleast F_least hB) (d_istrail F_istrail hB D_goal) D_settled D_nmsof)
end
/-! ### what the top has written; the end -/
theorem all_mk {l : PySem.W.OpenLaw} {w : World} {K : PySem.W.Frag} {h : Heap} {mg : Str → Option Value} {fa f0 f1 f2 f3 f4 f5 f6 f7 f8 f9 f10 f11 f12 f13 f14 f15 f16 f17 f18 f19 f20 f21 f22 f23 : Addr} (X : K.In h) (G : h.Ns mainGlobals mg) (hfa : mg "law" = some (.ref fa))
    {od0 an0 : Option Addr} {sl0 : Array (Option Value)} {oc0 kV0 dc0 pm0 cd0 ct0 : Value}
    {od1 an1 : Option Addr} {sl1 : Array (Option Value)} {oc1 kV1 dc1 pm1 cd1 ct1 : Value}
    {od2 an2 : Option Addr} {sl2 : Array (Option Value)} {oc2 kV2 dc2 pm2 cd2 ct2 : Value}
    {od3 an3 : Option Addr} {sl3 : Array (Option Value)} {oc3 kV3 dc3 pm3 cd3 ct3 : Value}
    {od4 an4 : Option Addr} {sl4 : Array (Option Value)} {oc4 kV4 dc4 pm4 cd4 ct4 : Value}
    {od5 an5 : Option Addr} {sl5 : Array (Option Value)} {oc5 kV5 dc5 pm5 cd5 ct5 : Value}
    {od6 an6 : Option Addr} {sl6 : Array (Option Value)} {oc6 kV6 dc6 pm6 cd6 ct6 : Value}
    {od7 an7 : Option Addr} {sl7 : Array (Option Value)} {oc7 kV7 dc7 pm7 cd7 ct7 : Value}
    {od8 an8 : Option Addr} {sl8 : Array (Option Value)} {oc8 kV8 dc8 pm8 cd8 ct8 : Value}
    {od9 an9 : Option Addr} {sl9 : Array (Option Value)} {oc9 kV9 dc9 pm9 cd9 ct9 : Value}
    {od10 an10 : Option Addr} {sl10 : Array (Option Value)} {oc10 kV10 dc10 pm10 cd10 ct10 : Value}
    {od11 an11 : Option Addr} {sl11 : Array (Option Value)} {oc11 kV11 dc11 pm11 cd11 ct11 : Value}
    {od12 an12 : Option Addr} {sl12 : Array (Option Value)} {oc12 kV12 dc12 pm12 cd12 ct12 : Value}
    {od13 an13 : Option Addr} {sl13 : Array (Option Value)} {oc13 kV13 dc13 pm13 cd13 ct13 : Value}
    {od14 an14 : Option Addr} {sl14 : Array (Option Value)} {oc14 kV14 dc14 pm14 cd14 ct14 : Value}
    {od15 an15 : Option Addr} {sl15 : Array (Option Value)} {oc15 kV15 dc15 pm15 cd15 ct15 : Value}
    {od16 an16 : Option Addr} {sl16 : Array (Option Value)} {oc16 kV16 dc16 pm16 cd16 ct16 : Value}
    {od17 an17 : Option Addr} {sl17 : Array (Option Value)} {oc17 kV17 dc17 pm17 cd17 ct17 : Value}
    {od18 an18 : Option Addr} {sl18 : Array (Option Value)} {oc18 kV18 dc18 pm18 cd18 ct18 : Value}
    {od19 an19 : Option Addr} {sl19 : Array (Option Value)} {oc19 kV19 dc19 pm19 cd19 ct19 : Value}
    {od20 an20 : Option Addr} {sl20 : Array (Option Value)} {oc20 kV20 dc20 pm20 cd20 ct20 : Value}
    {od21 an21 : Option Addr} {sl21 : Array (Option Value)} {oc21 kV21 dc21 pm21 cd21 ct21 : Value}
    {od22 an22 : Option Addr} {sl22 : Array (Option Value)} {oc22 kV22 dc22 pm22 cd22 ct22 : Value}
    {od23 an23 : Option Addr} {sl23 : Array (Option Value)} {oc23 kV23 dc23 pm23 cd23 ct23 : Value}
    (a0 : PySem.W.nsIn K mainGlobals "names_in" = some (some (.ref f0)))
    (l0 : K.lookup f0 = some ⟨oc0, od0, .func (PySem.W.fnOf "names_in" "names_in" (defArgs st_names_in) (defBody st_names_in) (defScope st_names_in) .none kV0 dc0 pm0 an0 cd0 ct0), sl0⟩) (c0 : PySem.W.codeIn K cd0 "names_in" = true) (k0 : PySem.W.keepIn K (.ref f0) = true)
    (a1 : PySem.W.nsIn K mainGlobals "all_names" = some (some (.ref f1)))
    (l1 : K.lookup f1 = some ⟨oc1, od1, .func (PySem.W.fnOf "all_names" "all_names" (defArgs st_all_names) (defBody st_all_names) (defScope st_all_names) .none kV1 dc1 pm1 an1 cd1 ct1), sl1⟩) (c1 : PySem.W.codeIn K cd1 "all_names" = true) (k1 : PySem.W.keepIn K (.ref f1) = true)
    (a2 : PySem.W.nsIn K mainGlobals "names_of" = some (some (.ref f2)))
    (l2 : K.lookup f2 = some ⟨oc2, od2, .func (PySem.W.fnOf "names_of" "names_of" (defArgs st_names_of) (defBody st_names_of) (defScope st_names_of) .none kV2 dc2 pm2 an2 cd2 ct2), sl2⟩) (c2 : PySem.W.codeIn K cd2 "names_of" = true) (k2 : PySem.W.keepIn K (.ref f2) = true)
    (a3 : PySem.W.nsIn K mainGlobals "gather" = some (some (.ref f3)))
    (l3 : K.lookup f3 = some ⟨oc3, od3, .func (PySem.W.fnOf "gather" "gather" (defArgs st_gather) (defBody st_gather) (defScope st_gather) .none kV3 dc3 pm3 an3 cd3 ct3), sl3⟩) (c3 : PySem.W.codeIn K cd3 "gather" = true) (k3 : PySem.W.keepIn K (.ref f3) = true)
    (a4 : PySem.W.nsIn K mainGlobals "flows" = some (some (.ref f4)))
    (l4 : K.lookup f4 = some ⟨oc4, od4, .func (PySem.W.fnOf "flows" "flows" (defArgs st_flows) (defBody st_flows) (defScope st_flows) .none kV4 dc4 pm4 an4 cd4 ct4), sl4⟩) (c4 : PySem.W.codeIn K cd4 "flows" = true) (k4 : PySem.W.keepIn K (.ref f4) = true)
    (a5 : PySem.W.nsIn K mainGlobals "trail_of" = some (some (.ref f5)))
    (l5 : K.lookup f5 = some ⟨oc5, od5, .func (PySem.W.fnOf "trail_of" "trail_of" (defArgs st_trail_of) (defBody st_trail_of) (defScope st_trail_of) .none kV5 dc5 pm5 an5 cd5 ct5), sl5⟩) (c5 : PySem.W.codeIn K cd5 "trail_of" = true) (k5 : PySem.W.keepIn K (.ref f5) = true)
    (a6 : PySem.W.nsIn K mainGlobals "is_down" = some (some (.ref f6)))
    (l6 : K.lookup f6 = some ⟨oc6, od6, .func (PySem.W.fnOf "is_down" "is_down" (defArgs st_is_down) (defBody st_is_down) (defScope st_is_down) .none kV6 dc6 pm6 an6 cd6 ct6), sl6⟩) (c6 : PySem.W.codeIn K cd6 "is_down" = true) (k6 : PySem.W.keepIn K (.ref f6) = true)
    (a7 : PySem.W.nsIn K mainGlobals "walked" = some (some (.ref f7)))
    (l7 : K.lookup f7 = some ⟨oc7, od7, .func (PySem.W.fnOf "walked" "walked" (defArgs st_walked) (defBody st_walked) (defScope st_walked) .none kV7 dc7 pm7 an7 cd7 ct7), sl7⟩) (c7 : PySem.W.codeIn K cd7 "walked" = true) (k7 : PySem.W.keepIn K (.ref f7) = true)
    (a8 : PySem.W.nsIn K mainGlobals "settled" = some (some (.ref f8)))
    (l8 : K.lookup f8 = some ⟨oc8, od8, .func (PySem.W.fnOf "settled" "settled" (defArgs st_settled) (defBody st_settled) (defScope st_settled) .none kV8 dc8 pm8 an8 cd8 ct8), sl8⟩) (c8 : PySem.W.codeIn K cd8 "settled" = true) (k8 : PySem.W.keepIn K (.ref f8) = true)
    (a9 : PySem.W.nsIn K mainGlobals "_law_cell" = some (some (.ref f9)))
    (l9 : K.lookup f9 = some ⟨oc9, od9, .func (PySem.W.fnOf "_law_cell" "_law_cell" (defArgs st_l_cell) (defBody st_l_cell) (defScope st_l_cell) .none kV9 dc9 pm9 an9 cd9 ct9), sl9⟩) (c9 : PySem.W.codeIn K cd9 "_law_cell" = true) (k9 : PySem.W.keepIn K (.ref f9) = true)
    (a10 : PySem.W.nsIn K mainGlobals "_law_mix" = some (some (.ref f10)))
    (l10 : K.lookup f10 = some ⟨oc10, od10, .func (PySem.W.fnOf "_law_mix" "_law_mix" (defArgs st_l_mix) (defBody st_l_mix) (defScope st_l_mix) .none kV10 dc10 pm10 an10 cd10 ct10), sl10⟩) (c10 : PySem.W.codeIn K cd10 "_law_mix" = true) (k10 : PySem.W.keepIn K (.ref f10) = true)
    (a11 : PySem.W.nsIn K mainGlobals "_law_name" = some (some (.ref f11)))
    (l11 : K.lookup f11 = some ⟨oc11, od11, .func (PySem.W.fnOf "_law_name" "_law_name" (defArgs st_l_name) (defBody st_l_name) (defScope st_l_name) .none kV11 dc11 pm11 an11 cd11 ct11), sl11⟩) (c11 : PySem.W.codeIn K cd11 "_law_name" = true) (k11 : PySem.W.keepIn K (.ref f11) = true)
    (a12 : PySem.W.nsIn K mainGlobals "_law_names" = some (some (.ref f12)))
    (l12 : K.lookup f12 = some ⟨oc12, od12, .func (PySem.W.fnOf "_law_names" "_law_names" (defArgs st_l_names) (defBody st_l_names) (defScope st_l_names) .none kV12 dc12 pm12 an12 cd12 ct12), sl12⟩) (c12 : PySem.W.codeIn K cd12 "_law_names" = true) (k12 : PySem.W.keepIn K (.ref f12) = true)
    (a13 : PySem.W.nsIn K mainGlobals "_law_levels" = some (some (.ref f13)))
    (l13 : K.lookup f13 = some ⟨oc13, od13, .func (PySem.W.fnOf "_law_levels" "_law_levels" (defArgs st_l_levels) (defBody st_l_levels) (defScope st_l_levels) .none kV13 dc13 pm13 an13 cd13 ct13), sl13⟩) (c13 : PySem.W.codeIn K cd13 "_law_levels" = true) (k13 : PySem.W.keepIn K (.ref f13) = true)
    (a14 : PySem.W.nsIn K mainGlobals "_law_term" = some (some (.ref f14)))
    (l14 : K.lookup f14 = some ⟨oc14, od14, .func (PySem.W.fnOf "_law_term" "_law_term" (defArgs st_l_term) (defBody st_l_term) (defScope st_l_term) .none kV14 dc14 pm14 an14 cd14 ct14), sl14⟩) (c14 : PySem.W.codeIn K cd14 "_law_term" = true) (k14 : PySem.W.keepIn K (.ref f14) = true)
    (a15 : PySem.W.nsIn K mainGlobals "_law_names_in" = some (some (.ref f15)))
    (l15 : K.lookup f15 = some ⟨oc15, od15, .func (PySem.W.fnOf "_law_names_in" "_law_names_in" (defArgs st_l_names_in) (defBody st_l_names_in) (defScope st_l_names_in) .none kV15 dc15 pm15 an15 cd15 ct15), sl15⟩) (c15 : PySem.W.codeIn K cd15 "_law_names_in" = true) (k15 : PySem.W.keepIn K (.ref f15) = true)
    (a16 : PySem.W.nsIn K mainGlobals "_law_deed" = some (some (.ref f16)))
    (l16 : K.lookup f16 = some ⟨oc16, od16, .func (PySem.W.fnOf "_law_deed" "_law_deed" (defArgs st_l_deed) (defBody st_l_deed) (defScope st_l_deed) .none kV16 dc16 pm16 an16 cd16 ct16), sl16⟩) (c16 : PySem.W.codeIn K cd16 "_law_deed" = true) (k16 : PySem.W.keepIn K (.ref f16) = true)
    (a17 : PySem.W.nsIn K mainGlobals "_law_block" = some (some (.ref f17)))
    (l17 : K.lookup f17 = some ⟨oc17, od17, .func (PySem.W.fnOf "_law_block" "_law_block" (defArgs st_l_block) (defBody st_l_block) (defScope st_l_block) .none kV17 dc17 pm17 an17 cd17 ct17), sl17⟩) (c17 : PySem.W.codeIn K cd17 "_law_block" = true) (k17 : PySem.W.keepIn K (.ref f17) = true)
    (a18 : PySem.W.nsIn K mainGlobals "_law_program" = some (some (.ref f18)))
    (l18 : K.lookup f18 = some ⟨oc18, od18, .func (PySem.W.fnOf "_law_program" "_law_program" (defArgs st_l_program) (defBody st_l_program) (defScope st_l_program) .none kV18 dc18 pm18 an18 cd18 ct18), sl18⟩) (c18 : PySem.W.codeIn K cd18 "_law_program" = true) (k18 : PySem.W.keepIn K (.ref f18) = true)
    (a19 : PySem.W.nsIn K mainGlobals "_law_flows" = some (some (.ref f19)))
    (l19 : K.lookup f19 = some ⟨oc19, od19, .func (PySem.W.fnOf "_law_flows" "_law_flows" (defArgs st_l_flows) (defBody st_l_flows) (defScope st_l_flows) .none kV19 dc19 pm19 an19 cd19 ct19), sl19⟩) (c19 : PySem.W.codeIn K cd19 "_law_flows" = true) (k19 : PySem.W.keepIn K (.ref f19) = true)
    (a20 : PySem.W.nsIn K mainGlobals "_law_goal" = some (some (.ref f20)))
    (l20 : K.lookup f20 = some ⟨oc20, od20, .func (PySem.W.fnOf "_law_goal" "_law_goal" (defArgs st_l_goal) (defBody st_l_goal) (defScope st_l_goal) .none kV20 dc20 pm20 an20 cd20 ct20), sl20⟩) (c20 : PySem.W.codeIn K cd20 "_law_goal" = true) (k20 : PySem.W.keepIn K (.ref f20) = true)
    (a21 : PySem.W.nsIn K mainGlobals "_law_least" = some (some (.ref f21)))
    (l21 : K.lookup f21 = some ⟨oc21, od21, .func (PySem.W.fnOf "_law_least" "_law_least" (defArgs st_l_least) (defBody st_l_least) (defScope st_l_least) .none kV21 dc21 pm21 an21 cd21 ct21), sl21⟩) (c21 : PySem.W.codeIn K cd21 "_law_least" = true) (k21 : PySem.W.keepIn K (.ref f21) = true)
    (a22 : PySem.W.nsIn K mainGlobals "_law_is_trail" = some (some (.ref f22)))
    (l22 : K.lookup f22 = some ⟨oc22, od22, .func (PySem.W.fnOf "_law_is_trail" "_law_is_trail" (defArgs st_l_is_trail) (defBody st_l_is_trail) (defScope st_l_is_trail) .none kV22 dc22 pm22 an22 cd22 ct22), sl22⟩) (c22 : PySem.W.codeIn K cd22 "_law_is_trail" = true) (k22 : PySem.W.keepIn K (.ref f22) = true)
    (a23 : PySem.W.nsIn K mainGlobals "law" = some (some (.ref f23)))
    (l23 : K.lookup f23 = some ⟨oc23, od23, .func (PySem.W.fnOf "law" "law" (defArgs st_law) (defBody st_law) (defScope st_law) .none kV23 dc23 pm23 an23 cd23 ct23), sl23⟩) (c23 : PySem.W.codeIn K cd23 "law" = true) (k23 : PySem.W.keepIn K (.ref f23) = true)
    (z0 : PySem.W.nsIn K mainGlobals "len" = some none)
    (z1 : PySem.W.nsIn K mainGlobals "all" = some none)
    (z2 : PySem.W.nsIn K mainGlobals "any" = some none)
    (z3 : PySem.W.nsIn K mainGlobals "max" = some none)
    (z4 : PySem.W.nsIn K mainGlobals "tuple" = some none)
    (z5 : PySem.W.nsIn K mainGlobals "list" = some none)
    (z6 : PySem.W.nsIn K mainGlobals "dict" = some none)
    (z7 : PySem.W.nsIn K mainGlobals "set" = some none)
    (z8 : PySem.W.nsIn K mainGlobals "sorted" = some none)
    (z9 : PySem.W.nsIn K mainGlobals "range" = some none)
    (z10 : PySem.W.nsIn K mainGlobals "zip" = some none)
    (z11 : PySem.W.nsIn K mainGlobals "enumerate" = some none)
    (z12 : PySem.W.nsIn K mainGlobals "int" = some none)
    (z13 : PySem.W.nsIn K mainGlobals "bool" = some none)
    (z14 : PySem.W.nsIn K mainGlobals "str" = some none)
    (z15 : PySem.W.nsIn K mainGlobals "isinstance" = some none) :
    ∃ fd : FuncData, (∀ (s : Shared) (v : Value), BindsTo s fd ⟨[v], []⟩ [("_law_script", v)]) ∧ ∀ base : Heap, K.In base → base.Ns mainGlobals mg → FnOk l.prog w K mg base CX0 12 fa fd ["_law_script"] (spLaw K) := by
  have F_names_in : Fnd K mg "names_in" st_names_in P_names_in := ⟨_, _, fun_mk (st := st_names_in) l0 c0 k0, PySem.W.mg_of X G a0, (fun_mk (st := st_names_in) l0 c0 k0).binds (ps := P_names_in) fun _ _ _ _ _ _ us hl => match us, hl with | [_], _ => rfl⟩
  have F_all_names : Fnd K mg "all_names" st_all_names P_all_names := ⟨_, _, fun_mk (st := st_all_names) l1 c1 k1, PySem.W.mg_of X G a1, (fun_mk (st := st_all_names) l1 c1 k1).binds (ps := P_all_names) fun _ _ _ _ _ _ us hl => match us, hl with | [_], _ => rfl⟩
  have F_names_of : Fnd K mg "names_of" st_names_of P_names_of := ⟨_, _, fun_mk (st := st_names_of) l2 c2 k2, PySem.W.mg_of X G a2, (fun_mk (st := st_names_of) l2 c2 k2).binds (ps := P_names_of) fun _ _ _ _ _ _ us hl => match us, hl with | [_], _ => rfl⟩
  have F_gather : Fnd K mg "gather" st_gather P_gather := ⟨_, _, fun_mk (st := st_gather) l3 c3 k3, PySem.W.mg_of X G a3, (fun_mk (st := st_gather) l3 c3 k3).binds (ps := P_gather) fun _ _ _ _ _ _ us hl => match us, hl with | [_, _, _], _ => rfl⟩
  have F_flows : Fnd K mg "flows" st_flows P_flows := ⟨_, _, fun_mk (st := st_flows) l4 c4 k4, PySem.W.mg_of X G a4, (fun_mk (st := st_flows) l4 c4 k4).binds (ps := P_flows) fun _ _ _ _ _ _ us hl => match us, hl with | [_], _ => rfl⟩
  have F_trail_of : Fnd K mg "trail_of" st_trail_of P_trail_of := ⟨_, _, fun_mk (st := st_trail_of) l5 c5 k5, PySem.W.mg_of X G a5, (fun_mk (st := st_trail_of) l5 c5 k5).binds (ps := P_trail_of) fun _ _ _ _ _ _ us hl => match us, hl with | [_, _], _ => rfl⟩
  have F_is_down : Fnd K mg "is_down" st_is_down P_is_down := ⟨_, _, fun_mk (st := st_is_down) l6 c6 k6, PySem.W.mg_of X G a6, (fun_mk (st := st_is_down) l6 c6 k6).binds (ps := P_is_down) fun _ _ _ _ _ _ us hl => match us, hl with | [_, _, _], _ => rfl⟩
  have F_walked : Fnd K mg "walked" st_walked P_walked := ⟨_, _, fun_mk (st := st_walked) l7 c7 k7, PySem.W.mg_of X G a7, (fun_mk (st := st_walked) l7 c7 k7).binds (ps := P_walked) fun _ _ _ _ _ _ us hl => match us, hl with | [_, _, _, _], _ => rfl⟩
  have F_settled : Fnd K mg "settled" st_settled P_settled := ⟨_, _, fun_mk (st := st_settled) l8 c8 k8, PySem.W.mg_of X G a8, (fun_mk (st := st_settled) l8 c8 k8).binds (ps := P_settled) fun _ _ _ _ _ _ us hl => match us, hl with | [_, _], _ => rfl⟩
  have F_l_cell : Fnd K mg "_law_cell" st_l_cell P_l_cell := ⟨_, _, fun_mk (st := st_l_cell) l9 c9 k9, PySem.W.mg_of X G a9, (fun_mk (st := st_l_cell) l9 c9 k9).binds (ps := P_l_cell) fun _ _ _ _ _ _ us hl => match us, hl with | [_, _], _ => rfl⟩
  have F_l_mix : Fnd K mg "_law_mix" st_l_mix P_l_mix := ⟨_, _, fun_mk (st := st_l_mix) l10 c10 k10, PySem.W.mg_of X G a10, (fun_mk (st := st_l_mix) l10 c10 k10).binds (ps := P_l_mix) fun _ _ _ _ _ _ us hl => match us, hl with | [_, _, _], _ => rfl⟩
  have F_l_name : Fnd K mg "_law_name" st_l_name P_l_name := ⟨_, _, fun_mk (st := st_l_name) l11 c11 k11, PySem.W.mg_of X G a11, (fun_mk (st := st_l_name) l11 c11 k11).binds (ps := P_l_name) fun _ _ _ _ _ _ us hl => match us, hl with | [_, _], _ => rfl⟩
  have F_l_names : Fnd K mg "_law_names" st_l_names P_l_names := ⟨_, _, fun_mk (st := st_l_names) l12 c12 k12, PySem.W.mg_of X G a12, (fun_mk (st := st_l_names) l12 c12 k12).binds (ps := P_l_names) fun _ _ _ _ _ _ us hl => match us, hl with | [_], _ => rfl⟩
  have F_l_levels : Fnd K mg "_law_levels" st_l_levels P_l_levels := ⟨_, _, fun_mk (st := st_l_levels) l13 c13 k13, PySem.W.mg_of X G a13, (fun_mk (st := st_l_levels) l13 c13 k13).binds (ps := P_l_levels) fun _ _ _ _ _ _ us hl => match us, hl with | [_], _ => rfl⟩
  have F_l_term : Fnd K mg "_law_term" st_l_term P_l_term := ⟨_, _, fun_mk (st := st_l_term) l14 c14 k14, PySem.W.mg_of X G a14, (fun_mk (st := st_l_term) l14 c14 k14).binds (ps := P_l_term) fun _ _ _ _ _ _ us hl => match us, hl with | [_, _, _], _ => rfl⟩
  have F_l_names_in : Fnd K mg "_law_names_in" st_l_names_in P_l_names_in := ⟨_, _, fun_mk (st := st_l_names_in) l15 c15 k15, PySem.W.mg_of X G a15, (fun_mk (st := st_l_names_in) l15 c15 k15).binds (ps := P_l_names_in) fun _ _ _ _ _ _ us hl => match us, hl with | [_], _ => rfl⟩
  have F_l_deed : Fnd K mg "_law_deed" st_l_deed P_l_deed := ⟨_, _, fun_mk (st := st_l_deed) l16 c16 k16, PySem.W.mg_of X G a16, (fun_mk (st := st_l_deed) l16 c16 k16).binds (ps := P_l_deed) fun _ _ _ _ _ _ us hl => match us, hl with | [_, _, _, _], _ => rfl⟩
  have F_l_block : Fnd K mg "_law_block" st_l_block P_l_block := ⟨_, _, fun_mk (st := st_l_block) l17 c17 k17, PySem.W.mg_of X G a17, (fun_mk (st := st_l_block) l17 c17 k17).binds (ps := P_l_block) fun _ _ _ _ _ _ us hl => match us, hl with | [_, _, _, _], _ => rfl⟩
  have F_l_program : Fnd K mg "_law_program" st_l_program P_l_program := ⟨_, _, fun_mk (st := st_l_program) l18 c18 k18, PySem.W.mg_of X G a18, (fun_mk (st := st_l_program) l18 c18 k18).binds (ps := P_l_program) fun _ _ _ _ _ _ us hl => match us, hl with | [_, _], _ => rfl⟩
  have F_l_flows : Fnd K mg "_law_flows" st_l_flows P_l_flows := ⟨_, _, fun_mk (st := st_l_flows) l19 c19 k19, PySem.W.mg_of X G a19, (fun_mk (st := st_l_flows) l19 c19 k19).binds (ps := P_l_flows) fun _ _ _ _ _ _ us hl => match us, hl with | [_, _], _ => rfl⟩
  have F_l_goal : Fnd K mg "_law_goal" st_l_goal P_l_goal := ⟨_, _, fun_mk (st := st_l_goal) l20 c20 k20, PySem.W.mg_of X G a20, (fun_mk (st := st_l_goal) l20 c20 k20).binds (ps := P_l_goal) fun _ _ _ _ _ _ us hl => match us, hl with | [_, _], _ => rfl⟩
  have F_l_least : Fnd K mg "_law_least" st_l_least P_l_least := ⟨_, _, fun_mk (st := st_l_least) l21 c21 k21, PySem.W.mg_of X G a21, (fun_mk (st := st_l_least) l21 c21 k21).binds (ps := P_l_least) fun _ _ _ _ _ _ us hl => match us, hl with | [_, _, _], _ => rfl⟩
  have F_l_is_trail : Fnd K mg "_law_is_trail" st_l_is_trail P_l_is_trail := ⟨_, _, fun_mk (st := st_l_is_trail) l22 c22 k22, PySem.W.mg_of X G a22, (fun_mk (st := st_l_is_trail) l22 c22 k22).binds (ps := P_l_is_trail) fun _ _ _ _ _ _ us hl => match us, hl with | [_, _, _], _ => rfl⟩
  have F_law : Fnd K mg "law" st_law P_law := ⟨_, _, fun_mk (st := st_law) l23 c23 k23, PySem.W.mg_of X G a23, (fun_mk (st := st_law) l23 c23 k23).binds (ps := P_law) fun _ _ _ _ _ _ us hl => match us, hl with | [_], _ => rfl⟩
  have hB : Blt mg := ⟨PySem.W.mg_none_of X G z0, PySem.W.mg_none_of X G z1, PySem.W.mg_none_of X G z2, PySem.W.mg_none_of X G z3, PySem.W.mg_none_of X G z4, PySem.W.mg_none_of X G z5, PySem.W.mg_none_of X G z6, PySem.W.mg_none_of X G z7, PySem.W.mg_none_of X G z8, PySem.W.mg_none_of X G z9, PySem.W.mg_none_of X G z10, PySem.W.mg_none_of X G z11, PySem.W.mg_none_of X G z12, PySem.W.mg_none_of X G z13, PySem.W.mg_none_of X G z14, PySem.W.mg_none_of X G z15⟩
  refine ⟨PySem.W.fnOf "law" "law" (defArgs st_law) (defBody st_law) (defScope st_law) .none kV23 dc23 pm23 an23 cd23 ct23, fun s v => .of_eq rfl, fun base _ _ => ?_⟩
  have D := law_all (P := l.prog) (w := w) (base := base) hB F_names_in F_all_names F_names_of F_gather F_flows F_trail_of F_is_down F_walked F_settled F_l_cell F_l_mix F_l_name F_l_names F_l_levels F_l_term F_l_names_in F_l_deed F_l_block F_l_program F_l_flows F_l_goal F_l_least F_l_is_trail F_law
  obtain ⟨f, fd, D1, D2, _, _, D3⟩ := D
  have e := hfa.symm.trans D2
  cases e
  have e := D2.symm.trans (PySem.W.mg_of X G a23)
  cases e
  exact fn_same D1 D3 ⟨_, _, _, l23⟩
end Wk
open PySem PySem.W PyProof.Rows
set_option maxRecDepth 100000 in
set_option maxHeartbeats 0 in
theorem PySem.Challenge.cw_whisperwall_k07_whole_levels_or_a_trail_holds : PySem.Challenge.rw_whisperwall_k07_whole_levels_or_a_trail.Holds := by
  w_on; o_law; k_head; (case hw => w_witness2)
  k_fill
  refine L2.walk_of (l := PySem.Challenge.rw_whisperwall_k07_whole_levels_or_a_trail) (n := 63) (k := 12) (x := "_law_script") (CX := fun _ => L2.CX0) (sp := fun w => Wk.spLaw _) rfl (by decide) rfl ⟨rfl, by decide, by decide⟩ (fun w h Y => PySem.W.kIn_of Y) ?F (fun _ _ a ns hl _ hS => ⟨a, ns, rfl, hS, hl, fun _ => rfl⟩) (fun _ _ _ _ _ h => h)
  case F =>
    intro w mg fa h KX G hmg
    refine' Wk.all_mk KX G hmg ?a0 ?l0 ?c0 ?k0 ?a1 ?l1 ?c1 ?k1 ?a2 ?l2 ?c2 ?k2 ?a3 ?l3 ?c3 ?k3 ?a4 ?l4 ?c4 ?k4 ?a5 ?l5 ?c5 ?k5 ?a6 ?l6 ?c6 ?k6 ?a7 ?l7 ?c7 ?k7 ?a8 ?l8 ?c8 ?k8 ?a9 ?l9 ?c9 ?k9 ?a10 ?l10 ?c10 ?k10 ?a11 ?l11 ?c11 ?k11 ?a12 ?l12 ?c12 ?k12 ?a13 ?l13 ?c13 ?k13 ?a14 ?l14 ?c14 ?k14 ?a15 ?l15 ?c15 ?k15 ?a16 ?l16 ?c16 ?k16 ?a17 ?l17 ?c17 ?k17 ?a18 ?l18 ?c18 ?k18 ?a19 ?l19 ?c19 ?k19 ?a20 ?l20 ?c20 ?k20 ?a21 ?l21 ?c21 ?k21 ?a22 ?l22 ?c22 ?k22 ?a23 ?l23 ?c23 ?k23 ?z0 ?z1 ?z2 ?z3 ?z4 ?z5 ?z6 ?z7 ?z8 ?z9 ?z10 ?z11 ?z12 ?z13 ?z14 ?z15
    (case a0 => k_is)
    (case l0 => k_is)
    (case c0 => k_is)
    (case k0 => k_is)
    (case a1 => k_is)
    (case l1 => k_is)
    (case c1 => k_is)
    (case k1 => k_is)
    (case a2 => k_is)
    (case l2 => k_is)
    (case c2 => k_is)
    (case k2 => k_is)
    (case a3 => k_is)
    (case l3 => k_is)
    (case c3 => k_is)
    (case k3 => k_is)
    (case a4 => k_is)
    (case l4 => k_is)
    (case c4 => k_is)
    (case k4 => k_is)
    (case a5 => k_is)
    (case l5 => k_is)
    (case c5 => k_is)
    (case k5 => k_is)
    (case a6 => k_is)
    (case l6 => k_is)
    (case c6 => k_is)
    (case k6 => k_is)
    (case a7 => k_is)
    (case l7 => k_is)
    (case c7 => k_is)
    (case k7 => k_is)
    (case a8 => k_is)
    (case l8 => k_is)
    (case c8 => k_is)
    (case k8 => k_is)
    (case a9 => k_is)
    (case l9 => k_is)
    (case c9 => k_is)
    (case k9 => k_is)
    (case a10 => k_is)
    (case l10 => k_is)
    (case c10 => k_is)
    (case k10 => k_is)
    (case a11 => k_is)
    (case l11 => k_is)
    (case c11 => k_is)
    (case k11 => k_is)
    (case a12 => k_is)
    (case l12 => k_is)
    (case c12 => k_is)
    (case k12 => k_is)
    (case a13 => k_is)
    (case l13 => k_is)
    (case c13 => k_is)
    (case k13 => k_is)
    (case a14 => k_is)
    (case l14 => k_is)
    (case c14 => k_is)
    (case k14 => k_is)
    (case a15 => k_is)
    (case l15 => k_is)
    (case c15 => k_is)
    (case k15 => k_is)
    (case a16 => k_is)
    (case l16 => k_is)
    (case c16 => k_is)
    (case k16 => k_is)
    (case a17 => k_is)
    (case l17 => k_is)
    (case c17 => k_is)
    (case k17 => k_is)
    (case a18 => k_is)
    (case l18 => k_is)
    (case c18 => k_is)
    (case k18 => k_is)
    (case a19 => k_is)
    (case l19 => k_is)
    (case c19 => k_is)
    (case k19 => k_is)
    (case a20 => k_is)
    (case l20 => k_is)
    (case c20 => k_is)
    (case k20 => k_is)
    (case a21 => k_is)
    (case l21 => k_is)
    (case c21 => k_is)
    (case k21 => k_is)
    (case a22 => k_is)
    (case l22 => k_is)
    (case c22 => k_is)
    (case k22 => k_is)
    (case a23 => k_is)
    (case l23 => k_is)
    (case c23 => k_is)
    (case k23 => k_is)
    (case z0 => k_is)
    (case z1 => k_is)
    (case z2 => k_is)
    (case z3 => k_is)
    (case z4 => k_is)
    (case z5 => k_is)
    (case z6 => k_is)
    (case z7 => k_is)
    (case z8 => k_is)
    (case z9 => k_is)
    (case z10 => k_is)
    (case z11 => k_is)
    (case z12 => k_is)
    (case z13 => k_is)
    (case z14 => k_is)
    (case z15 => k_is)
