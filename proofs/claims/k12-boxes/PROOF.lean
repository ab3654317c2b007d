import PyProof.Rows.All
import HandS.Zip
import HandS.TupAny
import HandS.Style
import HandS.NoneIn
import HandS.HeadHook4
import KE.GoesMore
import KE.GoesEnum
import KE.KDictKeyed
import KE.KRevSl
import HandS.TupLen
import HandS.Dict
import Wide.All
import OpenK.AllK
import Wide.FinOn
import KE.KStateDown
import HandS.ForMost
import HandS.Wide
import HandS.WideBits
import HandS.IsInst
import HandS.TupLe
import HandS.Defaults
import HandS.More
import HandS.WordsExc
import HandS.Head0
import HandS.Head1
import HandS.Head2
import HandS.HeadEnd
import HandS.HeadHook1
import HandS.HeadHook2
import HandS.TupMul
import HandS.Deep
import HandS.Iter
import HandS.SortRule
import HandS.SortInts
import PySem.Challenge.RW_firstmet_k12_boxes_of_mirrors
set_option Elab.async false
set_option linter.all false
set_option maxRecDepth 100000
set_option maxHeartbeats 2000000
/-! KA: what the hand layer lacks: tuples from behind, zip of three tuples, a list lengthened by a tuple, len(dict(list of pairs)), constants of the module. -/
namespace FA
open PySem PySem.Spec PyProof.Rows L2
/-! ### t[::-1] -/
section
variable {prog : Program} {w : World} {A : Around} {E : Value → Shared → Prop} {s : Shared}
theorem adj_rev (n : Nat) : Builtin.Slice.sliceAdjust none none (-1) (n : Int) = ((n : Int) - 1, -1) := rfl
theorem plc_rev (n : Nat) : Builtin.Slice.slicePlaces ((n : Int) - 1) (-1) (-1) = n := by
  unfold Builtin.Slice.slicePlaces
  have h1 : ¬ ((-1 : Int) > 0) := by omega
  simp only [h1, if_false]
  by_cases h : n = 0
  · subst h; rfl
  · have h2 : (n : Int) - 1 > -1 := by omega
    simp only [h2, if_true]
    have : ((n : Int) - 1 - -1 - 1) / (- -1) = (n : Int) - 1 := by
      rw [show (- -1 : Int) = 1 by decide, Int.ediv_one]; omega
    rw [this]; omega
theorem pick_rev (xs : Array Value) : ((List.range xs.size).filterMap fun (k : Nat) => xs[(((xs.size : Int) - 1) + (k : Int) * -1).toNat]?).toArray = xs.toList.reverse.toArray := by
  have e : ((List.range xs.size).filterMap fun (k : Nat) => xs[(((xs.size : Int) - 1) + (k : Int) * -1).toNat]?) = ((List.range xs.size).map fun k => xs.size - 1 - k).filterMap (xs[·]?) := by
    rw [List.filterMap_map]
    have : ∀ l : List Nat, (∀ k ∈ l, k < xs.size) → l.filterMap (fun (k : Nat) => xs[(((xs.size : Int) - 1) + (k : Int) * -1).toNat]?) = l.filterMap ((xs[·]?) ∘ fun k => xs.size - 1 - k) := by
      intro l
      induction l with
      | nil => intro _; rfl
      | cons k l ih =>
        intro h
        have hk := h k List.mem_cons_self
        have e1 : (((xs.size : Int) - 1) + (k : Int) * -1).toNat = xs.size - 1 - k := by omega
        rw [List.filterMap_cons, List.filterMap_cons, ih fun j hj => h j (List.mem_cons_of_mem _ hj)]
        simp only [Function.comp, e1]
    exact this _ fun k hk => List.mem_range.mp hk
  rw [e, PySem.W.krv_range, List.filterMap_reverse, PySem.W.krv_all]
theorem getItem_tuple_rev {t sl : Addr} {items : Array Value} {vl vu vs : Value} {Q : Value → Shared → Prop} (ht : IsTup s.heap t items) (hs : s.heap.IsSliceOf sl vl vu vs) (pl : IsPart vl none) (pu : IsPart vu none) (ps : IsPart vs (some (-1)))
    (h : Q (.ref s.heap.objs.size) { s with heap := s.heap.push { cls := .type "tuple", data := .seq items.toList.reverse.toArray } })
    (hsz : items.size ≤ sizeLine) : wpAny (model prog w) A (getItem (.ref t) (.ref sl)) Q E s := by
  have htake : sizeOk (.seq items.toList.reverse.toArray) := by
    show items.toList.reverse.toArray.size ≤ sizeLine
    rw [List.size_toArray, List.length_reverse, Array.length_toList]
    exact hsz
  obtain ⟨os, hos, hcs, hds⟩ := id hs
  have hTs : s.TypeIs (.ref sl) "slice" := ⟨os, hos, hcs⟩
  unfold getItem
  try with_reducible refine wpAny_holding ?_
  first | refine wpAny_bind (wpAny_pure ?_) | skip
  refine wpAny_bind (wpAny_sequenceKey ht.typeIs (by decide) ?_)
  refine wpAny_bind (wpAny_callSpecial?_slot (name := Str.ofString "__getitem__") ht.typeIs PyProof.Rows.slot_tuple_getitem
    (wpAny_call_entry PyProof.Rows.slot_tuple_getitem ht.typeIs entry_tuple_getitem ?_ (args_tuple_getitem _ _)))
  show wpAny _ _ (Builtin.Tuple.tupleItemsOf (.ref t) >>= _) _ _ s
  refine wpAny_bind (PyProof.Rows.tupleItemsOf_ ht ?_)
  refine wpAny_bind (wpAny_typeOf hTs ?_)
  rw [if_pos (by decide)]
  refine wpAny_bind ?_
  · unfold Builtin.Slice.sliceApplied Builtin.Slice.sliceFields
    refine wpAny_bind (wpAny_bind (wpAny_field hos hds (x := vl) rfl (wpAny_bind (wpAny_field hos hds (x := vu) rfl (wpAny_bind (wpAny_field hos hds (x := vs) rfl (wpAny_pure ?_)))))))
    refine wpAny_bind (HT.slicePart_ ps ?_)
    show wpAny _ _ (if ((-1 : Int) == 0) = true then _ else _) _ _ s
    rw [if_neg (by decide)]
    refine wpAny_bind (HT.slicePart_ pl (wpAny_bind (HT.slicePart_ pu (wpAny_bind (wpAny_pure ?_)))))
    show wpAny _ _ (match Builtin.Slice.sliceAdjust none none (-1) (items.size : Int) with | (lo, hi) => pure (lo, (-1 : Int), Builtin.Slice.slicePlaces lo hi (-1))) _ _ s
    rw [adj_rev items.size]
    show wpAny _ _ (pure ((items.size : Int) - 1, (-1 : Int), Builtin.Slice.slicePlaces ((items.size : Int) - 1) (-1) (-1))) _ _ s
    rw [plc_rev]
    refine wpAny_pure ?_
    show wpAny _ _ (if (((items.size : Int) - 1 == 0) && (-1 : Int) == 1 && items.size == items.size) = true then _ else _) _ _ s
    rw [if_neg (by rw [show ((-1 : Int) == 1) = false from rfl, Bool.and_false, Bool.false_and]; exact Bool.false_ne_true), pick_rev]
    first
      | exact wpAny_bind (m := Builtin.Tuple.tupleExact _) (wpAny_newObj_type (wpAny_pure ⟨_, rfl, wpAny_pure h⟩) htake)
      | exact wpAny_bind (m := Builtin.Tuple.tupleExact _) (wpAny_newObj_type (wpAny_bind (wpAny_pure (wpAny_pure ⟨_, rfl, wpAny_pure h⟩))) htake)
      | exact wpAny_bind (wpAny_bind (m := Builtin.Tuple.tupleExact _) (wpAny_newObj_type (wpAny_pure (wpAny_pure ⟨_, rfl, wpAny_pure h⟩)) htake))
      | exact wpAny_bind (wpAny_bind (m := Builtin.Tuple.tupleExact _) (wpAny_newObj_type (wpAny_pure ⟨_, rfl, wpAny_pure h⟩) htake))
end
section
variable {X : Cx}
def tRevT (K : PySem.W.Frag) (te : TE) : TE := fun σ H Q => te σ H fun x H1 => ∃ a xs, x = .ref a ∧ SqT K H1 a xs ∧ ∀ p, H1 p = none → Q (.ref p) (upd H1 p (.tup xs.reverse))
theorem pe_revT {e : Expr} {te : TE} {k : Nat} {p1 p2 p3 pos : Pos} (he : PE X e te) : PE X (.Subscript e (.Slice none none (some (.UnaryOp .USub (.Constant (.int 1) k p1) p2)) p3) pos) (tRevT X.K te) := by
  refine ⟨fun pins s σ H Q I h => ?_⟩
  refine Subscript_ (thn (he.run pins s σ H _ I h) fun v s1 ⟨x, H1, I1, r1, q1⟩ => ?_)
  obtain ⟨a, xs, ex, hx, q⟩ := q1
  subst ex
  cases r1
  have hst : PO X (some (.UnaryOp .USub (.Constant (.int 1) k p1) p2)) (tPart (tUn (rU fun i => .int (-i)) (tC (.int 1)))) := po_some (pe_un un_neg pe_int)
  refine wpAny_Slice (thn (po_none.run pins s1 σ H1 (fun o H2 => o = none ∧ H2 = H1) I1 ⟨rfl, rfl⟩) fun vl s2 ⟨l, H2, I2, pl, el, e2⟩ => ?_)
  subst el e2
  refine thn (po_none.run pins s2 σ H2 (fun o H3 => o = none ∧ H3 = H2) I2 ⟨rfl, rfl⟩) fun vu s3 ⟨u, H3, I3, pu, eu, e3⟩ => ?_
  subst eu e3
  refine thn (hst.run pins s3 σ H3 (fun o H4 => o = some (-1) ∧ H4 = H3) I3 ⟨1, rfl, -1, rfl, rfl, rfl⟩) fun vs s4 ⟨o, H4, I4, ps, eo, e4⟩ => ?_
  subst eo e4
  have I5 : Inv X pins σ H4 { s4 with heap := s4.heap.push { cls := .type "slice", data := .fields #[vl, vu, vs] } } := I4.kept (t' := s4.toks) fun b ob q => Heap.get?_push_of_some _ q
  obtain ⟨its, r, ht, hz⟩ := I5.tuple hx
  have hlen := r.length
  show wpAny (model X.prog X.w) X.A (subscriptTail e (.Slice none none (some (.UnaryOp .USub (.Constant (.int 1) k p1) p2)) p3) (.ref a) (.ref s4.heap.objs.size)) (EP X pins σ Q) X.xe { s4 with heap := s4.heap.push { cls := .type "slice", data := .fields #[vl, vu, vs] } }
  refine tail_any (ops := [.ref a, .ref s4.heap.objs.size]) ht.typeIs (PyProof.Rows.slot_tuple_getitem.lookup) ?_ (by with_unfolding_all rfl)
  refine getItem_tuple_rev ht (Heap.IsSliceOf.new _ vl vu vs) pl pu ps ?_ (by rw [List.size_toArray]; omega)
  refine ⟨.ref _, _, I5.laid (t' := s4.toks) (o := .tup xs.reverse) (fun b ob q => Heap.get?_push_of_some _ q) (Nat.le_refl _) ?_, rfl, q _ (I5.hok.fresh (Nat.le_refl _))⟩
  exact ⟨by rw [List.length_reverse]; exact hz, _, r.reverse, IsTup.new _ _⟩
/-! ### a constant of the module -/
theorem pe_con {x : Str} {a : Addr} {pos : Pos} (hg : Gl X x) (hm : X.mg x = some (.ref a)) (hd : (x == ("__debug__" : Str)) = false) : PE X (.Name x pos) (fun _ H Q => Q (.ref a) H) :=
  ⟨fun pins s σ H Q I h => ld_glob I hg hm ⟨.ref a, H, I, rfl, h⟩ hd⟩
/-! ### l.extend(t) -/
theorem meets_extT (l : Addr) (items : Array Value) (n : Nat) (b : Addr) (items2 : Array Value) (n2 : Nat) (dct : Option Addr) (sl : Array (Option Value)) (hs0 : ¬(!items.isEmpty && Builtin.List.listTooLong (items.size + items2.size)) = true) (hs1 : items.size ≤ sizeLine) (hs2 : items.size + items2.size ≤ sizeLine + 1) :
    Meets (Builtin.«list.extend» ⟨[.ref l, .ref b], []⟩) (fun _ R s => s.heap.get? l = some { cls := .type "list", dict := none, data := .seq items n, slots := #[] } ∧ s.heap.get? b = some { cls := .type "tuple", dict := dct, data := .seq items2 n2, slots := sl } ∧ R (.ok (.ret Value.none)) { s with heap := s.heap.update l (Obj.mapSeq fun x => x ++ items2), toks := s.toks }) :=
  .of_wp fun prog w A R s h => by
    obtain ⟨hp, g, d, tk, os⟩ := s; obtain ⟨hl, hb, h⟩ := h; have f1 := AutoSeq1.idx_int; have f2 := AutoSeq1.sub_tuple_tuple; have f3 := AutoSeq1.sub_list_list; have f4 := AutoSeq1.sub_tuple_list; have f5 := AutoSeq1.sub_list_tuple;
    have hz' : (items ++ items2).size ≤ sizeLine + 1 := by rw [Array.size_append]; exact hs2
    wp_walk using (wpAny_updateSeq hl rfl (hz := hs1) (_hz' := hz')), AutoSeq1.wpAny_loadPart' hl, AutoSeq1.wpAny_loadPart' hb; exact ⟨_, rfl, h⟩
def rExtT (K : PySem.W.Frag) : V → List V → Hp → VK → Prop := fun x vs H Q => ∃ l b xs zs, x = .ref l ∧ vs = [.ref b] ∧ H l = some (.lst xs) ∧ SqT K H b zs ∧ xs.length + zs.length ≤ sizeLine ∧ Q .non (upd H l (.lst (xs ++ zs)))
theorem mt_extT : MtM X "list.extend" (rExtT X.K) := by
  intro pins s σ H x vs v us Q I rx rv h
  obtain ⟨l, b, xs, zs, rfl, rfl, hH, hB, hz, q⟩ := h
  cases rx
  obtain ⟨u, rfl, ru⟩ := rv.one
  cases ru
  obtain ⟨z, its, n, r, hl, e⟩ := I.lstM hH
  obtain ⟨its2, r2, ⟨⟨oc, od, dt, osl⟩, ht, hc, n2, hd⟩, z2⟩ := I.tuple hB
  simp only at hc hd
  subst hc hd
  have hsz : its.toArray.size + its2.toArray.size ≤ sizeLine := by
    have := r.length
    have := r2.length
    rw [List.size_toArray, List.size_toArray]; omega
  have hlong : ¬ (!its.toArray.isEmpty && Builtin.List.listTooLong (its.toArray.size + its2.toArray.size)) = true := by
    rw [notLongL hsz, Bool.and_false]
    exact Bool.false_ne_true
  refine call_meets PySem.F.slot_list_extend ⟨_, e, rfl⟩ PySem.F.entry_list_extend (PySem.F.args_list_extend_2 _ _)
    (meets_extT l its.toArray n b its2.toArray n2 od osl hlong (by rw [List.size_toArray]; omega) (by omega)) ⟨e, ht, ?_⟩
  refine ⟨.non, _, I.lset (its' := its ++ its2) hH e (by simp) (r.append r2) ?_, rfl, q⟩
  rw [List.length_append]
  omega
end

/-! ### zip of three tuples -/
open PySem
def ItzT3 (K : PySem.W.Frag) (a b c : Addr) : It :=
  ⟨fun i H => ∃ (xs ys zs : List V) (x y z : V), SqT K H a xs ∧ SqT K H b ys ∧ SqT K H c zs ∧ xs[i]? = some x ∧ ys[i]? = some y ∧ zs[i]? = some z,
    fun i H v H' => ∃ T x y z, v = .ref T ∧ H T = none ∧ H' = upd H T (.tup [x, y, z]) ∧ (∀ xs, SqT K H a xs → xs[i]? = some x) ∧ (∀ ys, SqT K H b ys → ys[i]? = some y) ∧ ∀ zs, SqT K H c zs → zs[i]? = some z,
    fun i H => ∃ xs ys zs : List V, SqT K H a xs ∧ SqT K H b ys ∧ SqT K H c zs ∧ xs.length = i ∧ ys.length = i ∧ zs.length = i⟩
theorem turn_zipT3 {P : Program} {w : World} {K : PySem.W.Frag} {elts : List Expr} {kk : Nat} {tpos : Pos} {a b c z TI TO i1 i2 i3 : Addr} (S : ZipSep3 z TI TO i1 i2 i3 [i1, a] [i2, b] [i3, c]) (n1 : a ≠ i1) (n2 : b ≠ i2) (n3 : c ≠ i3) :
    Turn P w K (.Tuple elts kk tpos) (ItzT3 K a b c) [z, TI, TO, i1, i2, i3] z (fun i h => IsZip h z TI TO .none ∧ IsTupOf3 h TI (.ref i1) (.ref i2) (.ref i3) ∧ (∃ x y u, IsTupOf3 h TO x y u) ∧ h.IsTupleIter i1 a i ∧ h.IsTupleIter i2 b i ∧ h.IsTupleIter i3 c i) where
  mem := by simp
  obj := fun i h st c hc => by
    obtain ⟨hz, hTI, ⟨x, y, u, hTO⟩, ⟨o1, e1, _, d1⟩, ⟨o2, e2, _, d2⟩, ⟨o3, e3, _, d3⟩⟩ := st
    have e' : c = z ∨ c = TI ∨ c = TO ∨ c = i1 ∨ c = i2 ∨ c = i3 := by simpa using hc
    rcases e' with q | q | q | q | q | q
    · rw [q]; exact ⟨_, hz, fun v q => nomatch q⟩
    · rw [q]; exact ⟨_, hTI, fun v q => nomatch q⟩
    · rw [q]; exact ⟨_, hTO, fun v q => nomatch q⟩
    · rw [q]; exact ⟨o1, e1, fun v q => by rw [d1] at q; cases q⟩
    · rw [q]; exact ⟨o2, e2, fun v q => by rw [d2] at q; cases q⟩
    · rw [q]; exact ⟨o3, e3, fun v q => by rw [d3] at q; cases q⟩
  keep := fun i h h' st k => by
    obtain ⟨hz, hTI, ⟨x, y, u, hTO⟩, h1, h2, h3⟩ := st
    exact ⟨k z (by simp) _ hz, k TI (by simp) _ hTI, ⟨x, y, u, k TO (by simp) _ hTO⟩, h1.at fun o q => k i1 (by simp) o q, h2.at fun o q => k i2 (by simp) o q, h3.at fun o q => k i3 (by simp) o q⟩
  item := by
    intro X hP hw hK hc i pins s σ H E I hf st hg
    subst hP hw hK
    obtain ⟨hz, hTI, ⟨x0, y0, z0, hTO⟩, h1, h2, h3⟩ := st
    obtain ⟨xs, ys, zs, x, y, zz, hqx, hqy, hqz, hx, hy, hzz⟩ := hg
    obtain ⟨its, rv, p, _⟩ := I.tuple hqx
    obtain ⟨its2, rv2, p2, _⟩ := I.tuple hqy
    obtain ⟨its3, rv3, p3, _⟩ := I.tuple hqz
    obtain ⟨u, hu, ru⟩ := rv.get hx
    obtain ⟨u2, hu2, ru2⟩ := rv2.get hy
    obtain ⟨u3, hu3, ru3⟩ := rv3.get hzz
    have hzl : z < s.heap.objs.size := Heap.lt_size hz
    have hh : X.A.in1.handled = none := I.ok.hd hc
    have lt : ∀ {l : List Value} {v : Value}, l[i]? = some v → i < l.toArray.size := fun q => by
      have := (List.getElem?_eq_some_iff.mp q).1
      simpa using this
    refine wpAny_pyNext_zipD3_item S (Draws.tuple hh i1 a n1 its.toArray) (Draws.tuple hh i2 b n2 its2.toArray) (Draws.tuple hh i3 c n3 its3.toArray) hz hTI hTO ⟨h1, p⟩ ⟨h2, p2⟩ ⟨h3, p3⟩ (lt hu) (lt hu2) (lt hu3) fun x1 x2 x3 h' tk y1 y2 y3 z' TO' s1' s2' s3' hT hsz hk => ?_
    have e1 : x1 = u := by have : its.toArray[i]? = some u := by simpa using hu
                           rw [this] at y1; cases y1; rfl
    have e2 : x2 = u2 := by have : its2.toArray[i]? = some u2 := by simpa using hu2
                            rw [this] at y2; cases y2; rfl
    have e3 : x3 = u3 := by have : its3.toArray[i]? = some u3 := by simpa using hu3
                            rw [this] at y3; cases y3; rfl
    subst e1 e2 e3
    refine ⟨_, rfl, wpAny_letOwnedTupleGo_zip (s := { s with heap := h', toks := tk }) z' fun h'' z'' sb => ?_⟩
    have hT2 : h''.get? s.heap.objs.size = some { cls := .type "tuple", data := .seq #[x1, x2, x3] } := (sb.2 _ (Nat.ne_of_gt hzl)).trans hT
    have new : ObjOk X.prog X.w (upd H s.heap.objs.size (.tup [x, y, zz])) h'' s.heap.objs.size (.tup [x, y, zz]) :=
      ⟨by show 3 ≤ sizeLine; decide, [x1, x2, x3], .cons ru (.cons ru2 (.cons ru3 .nil)), ⟨_, hT2, rfl, _, rfl⟩⟩
    have I1 : Inv X pins σ (upd H s.heap.objs.size (.tup [x, y, zz])) { s with heap := h'', toks := tk } :=
      I.turnedNew (t' := tk) (ch := [z, TI, TO, i1, i2, i3]) (fun c o hb q => (sb.2 c (fun q' => hb (by simp [q']))).trans (hk c o (fun q' => hb (by simp [q'])) (fun q' => hb (by simp [q'])) (fun q' => hb (by simp [q'])) (fun q' => hb (by simp [q'])) (fun q' => hb (by simp [q'])) q)) hf (Nat.le_refl _) new
    refine ⟨.ref s.heap.objs.size, _, I1, rfl, ⟨_, x, y, zz, rfl, I.hok.fresh (Nat.le_refl _), rfl, fun l hl => by rw [I.tuple_inj hl hqx]; exact hx, fun l hl => by rw [I.tuple_inj hl hqy]; exact hy, fun l hl => by rw [I.tuple_inj hl hqz]; exact hzz⟩, ⟨z'', ?_, ⟨x1, x2, x3, ?_⟩, ?_, ?_, ?_⟩, fun c hcm => ?_⟩
    · exact (sb.2 _ S.TIz).trans (hk _ _ S.TIz S.TITO S.TIi1 S.TIi2 S.TIi3 hTI)
    · exact (sb.2 _ S.TOz).trans TO'
    · exact s1'.1.at fun o q => (sb.2 _ S.zi1.symm).trans q
    · exact s2'.1.at fun o q => (sb.2 _ S.zi2.symm).trans q
    · exact s3'.1.at fun o q => (sb.2 _ S.zi3.symm).trans q
    · have hlt : c < s.heap.objs.size := by
        have e' : c = z ∨ c = TI ∨ c = TO ∨ c = i1 ∨ c = i2 ∨ c = i3 := by simpa using hcm
        rcases e' with q | q | q | q | q | q
        · rw [q]; exact hzl
        · rw [q]; exact Heap.lt_size hTI
        · rw [q]; exact Heap.lt_size hTO
        · rw [q]; obtain ⟨_, e1, _⟩ := h1; exact Heap.lt_size e1
        · rw [q]; obtain ⟨_, e2, _⟩ := h2; exact Heap.lt_size e2
        · rw [q]; obtain ⟨_, e3, _⟩ := h3; exact Heap.lt_size e3
      rw [upd_ne (Nat.ne_of_lt hlt)]
      exact (hf c hcm).1
  done := by
    intro X hP hw hK hc i pins s σ H E I hf st hg
    subst hP hw hK
    obtain ⟨hz, hTI, ⟨x0, y0, z0, hTO⟩, h1, h2, h3⟩ := st
    obtain ⟨xs, ys, zs, hqx, hqy, hqz, l1, l2, l3⟩ := hg
    obtain ⟨its, rv, p, _⟩ := I.tuple hqx
    obtain ⟨its2, rv2, p2, _⟩ := I.tuple hqy
    obtain ⟨its3, rv3, p3, _⟩ := I.tuple hqz
    have hh : X.A.in1.handled = none := I.ok.hd hc
    have e1 : its.toArray.size = i := by rw [List.size_toArray, ← rv.length, l1]
    have e2 : its2.toArray.size = i := by rw [List.size_toArray, ← rv2.length, l2]
    have e3 : its3.toArray.size = i := by rw [List.size_toArray, ← rv3.length, l3]
    refine wpAny_pyNext_zipD3_end S (Draws.tuple hh i1 a n1 its.toArray) (Draws.tuple hh i2 b n2 its2.toArray) (Draws.tuple hh i3 c n3 its3.toArray) hz hTI hTO ⟨h1, p⟩ ⟨h2, p2⟩ ⟨h3, p3⟩ (Nat.le_of_eq e1.symm) (Nat.le_of_eq e2.symm) (Nat.le_of_eq e3.symm) (.inl e1.symm) fun h' tk hk => ⟨rfl, I.turnedL (t' := tk) (ch := [z, TI, TO, i1, i2, i3]) (fun c o hb q =>
      hk c o (fun q' => hb (by simp [q'])) (fun q' => hb (by simp [q'])) (fun q' => hb (by simp [q'])) (fun q' => hb (by simp [q'])) (fun q' => hb (by simp [q'])) q) hf⟩
  self := fun A i s Q E st h => wpAny_pyIter_zip st.1 h
def iZip3 (K : PySem.W.Frag) (ta : TA) : TI := fun σ H R => ta σ H fun vs H1 => ∃ a b c xs ys zs, vs = [.ref a, .ref b, .ref c] ∧ SqT K H1 a xs ∧ SqT K H1 b ys ∧ SqT K H1 c zs ∧ R (ItzT3 K a b c) H1
theorem pi_zip3 {X : Cx} {e e2 e3 : Expr} {ta : TA} {p pos tpos : Pos} {elts : List Expr} {kk : Nat} (hg : Gl X "zip") (hm : X.mg "zip" = none) (ha : PA X [e, e2, e3] ta)
    (hs : starEach [e, e2, e3] X.env = (false, eval e X.env) :: starEach [e2, e3] X.env) (hpl : (backTo pos (starEach [e2, e3] X.env)).any (·.1) = false) :
    PI X (.Tuple elts kk tpos) (.Call (.Name "zip" p) [e, e2, e3] [] pos) (iZip3 X.K ta) := by
  refine ⟨fun pins s σ H R I h => ?_⟩
  refine Call_ (ld_blt I hg hm PyProof.Rows.boot_zip (PyProof.Rows.callWith_type1 (thn (ha.run pos pins s σ H _ I h) fun us s1 ⟨vs, H1, I1, r1, q1⟩ => ?_) hs hpl))
  obtain ⟨a, b, c, xs, ys, zs, ex, hqx, hqy, hqz, q⟩ := q1
  subst ex
  cases r1 with
  | cons r rr =>
    cases rr with
    | cons r' rr =>
      cases rr with
      | cons r'' rr =>
      cases rr
      cases r
      cases r'
      cases r''
      have fresh6 : ∀ c, c ∈ [s1.heap.objs.size + 5, s1.heap.objs.size + 3, s1.heap.objs.size + 4, s1.heap.objs.size, s1.heap.objs.size + 1, s1.heap.objs.size + 2] → FpOk X pins H1 c := fun c hcm => by
        have hle : s1.heap.objs.size ≤ c := by
          simp only [List.mem_cons, List.not_mem_nil, or_false] at hcm
          omega
        exact I1.fpOk hle (I1.hok.fresh hle)
      obtain ⟨its, rv, p1, _⟩ := I1.tuple hqx
      obtain ⟨its2, rv2, p2, _⟩ := I1.tuple hqy
      obtain ⟨its3, rv3, p3, _⟩ := I1.tuple hqz
      refine zip_begins3 (begins_tuple a its.toArray) (begins_tuple b its2.toArray) (begins_tuple c its3.toArray) p1 p2 p3 fun h' hz hTI hTO g1 g2 g3 hsz hk => wpAny_pyIter_zip hz ?_
      have I2 : Inv X pins σ H1 { s1 with heap := h' } := I1.kept (t' := s1.toks) hk
      have lt1 : a < s1.heap.objs.size := by obtain ⟨o, ho, _⟩ := p1; exact Heap.lt_size ho
      have lt2 : b < s1.heap.objs.size := by obtain ⟨o, ho, _⟩ := p2; exact Heap.lt_size ho
      have lt3 : c < s1.heap.objs.size := by obtain ⟨o, ho, _⟩ := p3; exact Heap.lt_size ho
      exact ⟨s1.heap.objs.size + 5, [s1.heap.objs.size + 5, s1.heap.objs.size + 3, s1.heap.objs.size + 4, s1.heap.objs.size, s1.heap.objs.size + 1, s1.heap.objs.size + 2], _, _, H1, rfl, I2,
        turn_zipT3 (zip_sep3 (N := s1.heap.objs.size) (fp1 := [a]) (fp2 := [b]) (fp3 := [c]) (fun q hq => by rw [List.mem_singleton.mp hq]; exact lt1) (fun q hq => by rw [List.mem_singleton.mp hq]; exact lt2) (fun q hq => by rw [List.mem_singleton.mp hq]; exact lt3)) (Nat.ne_of_lt lt1) (Nat.ne_of_lt (Nat.lt_succ_of_lt lt2)) (Nat.ne_of_lt (Nat.lt_succ_of_lt (Nat.lt_succ_of_lt lt3))),
        ⟨hz, hTI, ⟨_, _, _, hTO⟩, ⟨_, g1, rfl, rfl⟩, ⟨_, g2, rfl, rfl⟩, ⟨_, g3, rfl, rfl⟩⟩, fresh6, q⟩
end FA

set_option Elab.async false
set_option linter.all false
set_option maxRecDepth 100000
set_option maxHeartbeats 2000000
/-! KB: len(dict(list of pairs)), the keys tuples of whole numbers. -/
namespace FA
open PySem PySem.Spec PyProof.Rows L2
/-- keys, each once -/
def dkL : List (List Int) → List (List Int) → List (List Int)
  | acc, [] => acc
  | acc, k :: ks => dkL (if k ∈ acc then acc else acc ++ [k]) ks
theorem atKey_mem {xs : List (List Int × Addr × Value)} {k : List Int} : (atKey xs k).isSome = true ↔ k ∈ xs.map (·.1) := by
  unfold atKey
  rw [Option.isSome_map, List.find?_isSome]
  constructor
  · rintro ⟨x, hx, e⟩
    exact List.mem_map.mpr ⟨x, hx, of_decide_eq_true e⟩
  · intro h
    obtain ⟨x, hx, e⟩ := List.mem_map.mp h
    exact ⟨x, hx, decide_eq_true e⟩
theorem storedH_keys (xs : List (List Int × Addr × Value)) (k : List Int) (a : Addr) (v : Value) : (storedH xs k a v).map (·.1) = if k ∈ xs.map (·.1) then xs.map (·.1) else xs.map (·.1) ++ [k] := by
  unfold storedH
  by_cases h : (atKey xs k).isSome = true
  · rw [if_pos h, if_pos (atKey_mem.mp h), List.map_map]
    apply List.map_congr_left
    intro x _
    show (putAt k v x).1 = x.1
    unfold putAt
    split <;> rfl
  · rw [if_neg h, if_neg (fun q => h (atKey_mem.mpr q)), List.map_append]
    rfl
theorem storedAll_keys : ∀ (ps acc : List (List Int × Addr × Value)), (storedAllH acc ps).map (·.1) = dkL (acc.map (·.1)) (ps.map (·.1))
  | [], acc => rfl
  | p :: ps, acc => by
    show (storedAllH (storedH acc p.1 p.2.1 p.2.2) ps).map (·.1) = _
    rw [storedAll_keys ps, storedH_keys]
    rfl
theorem dkL_len : ∀ (ks acc : List (List Int)), (dkL acc ks).length ≤ acc.length + ks.length
  | [], acc => Nat.le_refl _
  | k :: ks, acc => by
    unfold dkL
    have := dkL_len ks (if k ∈ acc then acc else acc ++ [k])
    have h2 : (if k ∈ acc then acc else acc ++ [k]).length ≤ acc.length + 1 := by
      split
      · omega
      · rw [List.length_append, List.length_singleton]; omega
    rw [List.length_cons]
    omega
/-- a pair: where it stands, its key, where that stands, its value -/
abbrev KP : Type := Addr × List Int × Addr × V
def KPok (K : PySem.W.Frag) (H : Hp) (p : KP) : Prop := SqT K H p.1 [.ref p.2.2.1, p.2.2.2] ∧ SqT K H p.2.2.1 (p.2.1.map V.int)
def tLenD (K : PySem.W.Frag) (ta : TE) : TE := fun σ H Q => ta σ H fun x H1 => ∃ (l : Addr) (ps : List KP), x = .ref l ∧ SqL K H1 l (ps.map fun p => V.ref p.1) ∧ (∀ p ∈ ps, KPok K H1 p) ∧ Q (.int (dkL [] (ps.map (·.2.1))).length) H1
section
variable {X : Cx}
theorem intsItems {prog : Program} {w : World} : ∀ {ns : List Int} {us : List Value}, Vals (ns.map V.int) us → ItemsAre (PySem.intKind prog w) ns us
  | [], _, r => by cases r; exact .nil
  | n :: ns, _, r => by
    cases r with
    | cons h t =>
      obtain ⟨k, rfl⟩ := h
      exact .cons (intKind_is _ _ _ _) (intsItems t)
theorem keyAt {pins : List (Addr × Obj)} {σ : L2.St} {H : Hp} {s : Shared} (I : Inv X pins σ H s) {T : Addr} {ns : List Int} (h : SqT X.K H T (ns.map V.int)) : IsTupleKey (PySem.intKind X.prog X.w) s.heap ns T := by
  obtain ⟨its, rv, ⟨o, ho, hc, n, hd⟩, _⟩ := I.tuple h
  exact ⟨o, _, n, ho, hc, hd, intsItems rv⟩
theorem kps_of {pins : List (Addr × Obj)} {σ : L2.St} {H : Hp} {s : Shared} (I : Inv X pins σ H s) : ∀ (ps : List KP), (∀ p ∈ ps, KPok X.K H p) →
    ∃ vs : List Value, vs.length = ps.length ∧ ∀ (j : Nat) (p : KP) (v : Value), ps[j]? = some p → vs[j]? = some v → IsTup s.heap p.1 #[.ref p.2.2.1, v]
  | [], _ => ⟨[], rfl, fun j p v e => by simp at e⟩
  | p :: ps, h => by
    obtain ⟨vs, hl, hv⟩ := kps_of I ps fun q hq => h q (List.mem_cons_of_mem _ hq)
    obtain ⟨h1, h2⟩ := h p List.mem_cons_self
    obtain ⟨its, rv, ht, _⟩ := I.tuple h1
    obtain ⟨u, y, ei, ru, ry⟩ := vals2 rv
    subst ei
    cases ru
    refine ⟨y :: vs, by rw [List.length_cons, List.length_cons, hl], fun j q v e1 e2 => ?_⟩
    cases j with
    | zero =>
      cases e1
      cases e2
      exact ht
    | succ j => exact hv j q v (by simpa using e1) (by simpa using e2)
theorem pe_lenD {a : Expr} {ta : TE} {p p2 q pos : Pos} (hg : Gl X "len") (hm : X.mg "len" = none) (hg2 : Gl X "dict") (hm2 : X.mg "dict" = none) (ha : PE X a ta) (hu : X.A.units + 100 < cLine) (hc : X.calm = true)
    (na : starEach [a] X.env = (false, eval a X.env) :: starEach [] X.env) : PE X (.Call (.Name "len" p) [.Call (.Name "dict" p2) [a] [] q] [] pos) (tLenD X.K ta) := by
  refine ⟨fun pins s σ H Q I h => ?_⟩
  refine Call_ (ld_blt I hg hm boot_len ?_)
  refine PyProof.Rows.callWith_builtin1 (PyProof.Rows.args_cons ?_ rfl) rfl rfl
  refine Call_ (ld_blt I hg2 hm2 PyProof.Rows.boot_dict ?_)
  refine PyProof.Rows.callWith_type1 (PyProof.Rows.args_cons (thn (ha.run pins s σ H _ I h) fun v s1 ⟨x, H1, I1, r1, q1⟩ => PyProof.Rows.args_nil ?_) na) na rfl
  obtain ⟨l, ps, rfl, hq, hps, q1⟩ := q1
  cases r1
  obtain ⟨its, r, pl, hz⟩ := I1.list hq
  obtain ⟨vs, hl, hvs⟩ := kps_of I1 ps hps
  have ei : its = (ps.map (·.1)).map Value.ref := refs_at (by rw [List.map_map]; exact r)
  have hlen : ps.length ≤ sizeLine := by rw [List.length_map] at hz; exact hz
  obtain ⟨o, n, ho, hcls, hdic, hdat⟩ := pl
  let prs : List (Value × Value) := (ps.map fun p => Value.ref p.2.2.1).zip vs
  have hpl : prs.length = ps.length := by
    show (List.zip _ _).length = _
    rw [List.length_zip, List.length_map, hl, Nat.min_self]
  let kps : List (List Int × Addr × Value) := (ps.zip vs).map fun pv => (pv.1.2.1, pv.1.2.2.1, pv.2)
  have hkl : kps.length = ps.length := by
    show (List.map _ _).length = _
    rw [List.length_map, List.length_zip, hl, Nat.min_self]
  let Ts : Nat → Addr := fun j => (ps[j]?.map (·.1)).getD 0
  have get : ∀ (j : Nat) (k v : Value), prs[j]? = some (k, v) → ∃ p, ps[j]? = some p ∧ vs[j]? = some v ∧ k = .ref p.2.2.1 := fun j k v e => by
    obtain ⟨e1, e2⟩ := List.getElem?_zip_eq_some.mp e
    rw [List.getElem?_map] at e1
    cases hp : ps[j]? with
    | none => rw [hp] at e1; cases e1
    | some p => rw [hp] at e1; cases e1; exact ⟨p, rfl, e2, rfl⟩
  have ok : PlainSeq "list" s1.heap l its.toArray ∧ PairItems s1.heap its.toArray Ts prs := by
    refine ⟨⟨o, n, ho, hcls, hdic, hdat⟩, by rw [ei, hpl, List.size_toArray, List.length_map, List.length_map], fun j k v e => ?_⟩
    obtain ⟨p, e1, e2, e3⟩ := get j k v e
    have eT : Ts j = p.1 := by
      show (ps[j]?.map (·.1)).getD 0 = p.1
      rw [e1]; rfl
    refine ⟨by rw [eT, ei]; simp [e1], .inl ?_⟩
    rw [eT, e3]
    exact hvs j p v e1 e2
  have hkeys : kps.map (·.1) = ps.map (·.2.1) := by
    have : ∀ (ps : List KP) (vs : List Value), vs.length = ps.length → (ps.zip vs).map ((fun x : List Int × Addr × Value => x.1) ∘ fun pv : KP × Value => (pv.1.2.1, pv.1.2.2.1, pv.2)) = ps.map (·.2.1) := by
      intro ps
      induction ps with
      | nil => intro vs _; simp
      | cons p ps ih =>
        intro vs h
        cases vs with
        | nil => cases h
        | cons v vs =>
          exact congrArg (p.2.1 :: ·) (ih vs (by simpa using h))
    exact (List.map_map ..).trans (this ps vs hl)
  have kat : ∀ x ∈ kps, IsTupleKey (PySem.intKind X.prog X.w) s1.heap x.1 x.2.1 := fun x hx => by
    obtain ⟨pv, hpv, e⟩ := List.mem_map.mp hx
    have hp : pv.1 ∈ ps := (List.of_mem_zip (a := pv.1) (b := pv.2) hpv).1
    rw [← e]
    exact keyAt I1 (hps pv.1 hp).2
  have hcH : PairsHaveH (tupleKind (PySem.intKind X.prog X.w)) prs.length (PairRel prs) kps := by
    refine ⟨by rw [hkl, hpl], fun i key v e => ?_⟩
    obtain ⟨p, e1, e2, e3⟩ := get i key v e
    refine ⟨p.2.1, p.2.2.1, ?_, e3⟩
    show (List.map _ (ps.zip vs))[i]? = _
    rw [List.getElem?_map, (List.getElem?_zip_eq_some (z := (p, v))).mpr ⟨e1, e2⟩]
    rfl
  refine call_dict_pairsH (knd := tupleKind (PySem.intKind X.prog X.w)) (ps := kps) (PairArg.list l its.toArray Ts prs) (I1.ok.hd hc) ?_ ok hcH ?_ (by rw [hpl]; exact hlen) fun h' tk hD hk => ?_
  · show X.A.in1.in1.units < cLine
    show X.A.units + 1 + 1 < cLine
    omega
  · intro h' hk x hx
    obtain ⟨o', its', n', e1, e2, e3, e4⟩ := kat x hx
    exact ⟨o', its', n', hk _ _ (Nat.ne_of_lt (Heap.lt_size e1)) (by simp) e1, e2, e3, e4⟩
  · refine PyProof.Rows.args_nil ?_
    have I2 : Inv X pins σ H1 { s1 with heap := h', toks := tk } := I1.kept fun b o e => hk b o (by simp) e
    have hm : (s1.heap.objs.size == sysModules) = false := beq_eq_false_iff_ne.mpr (Nat.ne_of_gt I1.big)
    have hlen2 : (storedAllH [] kps).length = (dkL [] (ps.map (·.2.1))).length := by
      have := congrArg List.length (storedAll_keys kps [])
      rw [List.length_map, hkeys] at this
      exact this
    have hle : (dkL [] (ps.map (·.2.1))).length ≤ sizeLine := by
      have := dkL_len (ps.map (·.2.1)) []
      rw [List.length_map, List.length_nil] at this
      omega
    refine call_len_dictH (s := { s1 with heap := h', toks := tk }) hm hD (by rw [hlen2]; rw [sizeLine_eq] at hle; omega) ?_
    rw [hlen2]
    exact ⟨.int _, H1, I2.tok _, ⟨_, rfl⟩, q1⟩
end
end FA

set_option Elab.async false
set_option linter.all false
set_option maxRecDepth 100000
set_option maxHeartbeats 4000000
/-! Ev1: plain data, what stands for it in the abstract heap. -/
namespace FM
open PySem PySem.Spec PyProof.Rows L2

/-- plain data; cell k: the k-th mutable dict -/
inductive D where
  | non | bl (b : Bool) | int (i : Int) | str (s : Str) | tup (ds : List D) | lst (ds : List D) | cell (k : Nat)
  deriving Inhabited

abbrev Cell := List (Key × D)
abbrev Cells := List Cell

/-! ### what represents data -/
def TupAt (K : PySem.W.Frag) (Z : Addr → Prop) (H : Hp) (a : Addr) (xs : List V) : Prop :=
  (Rd H a (.tup xs) ∧ ¬ Z a) ∨
    ∃ (o : Obj) (its : Array Value) (n : Nat), K.lookup a = some o ∧ o.cls = .type "tuple" ∧ o.data = .seq its n ∧ its.size ≤ sizeLine ∧ Vals xs its.toList
def LstAt (K : PySem.W.Frag) (Z : Addr → Prop) (H : Hp) (a : Addr) (xs : List V) : Prop :=
  (Rd H a (.lst xs) ∧ ¬ Z a) ∨
    ∃ (o : Obj) (its : Array Value) (n : Nat), K.lookup a = some o ∧ o.cls = .type "list" ∧ o.dict = none ∧ o.data = .seq its n ∧ its.size ≤ sizeLine ∧ Vals xs its.toList
theorem TupAt.sq {K : PySem.W.Frag} {Z : Addr → Prop} {H : Hp} {a : Addr} {xs : List V} (h : TupAt K Z H a xs) : SqT K H a xs := by
  rcases h with ⟨h, _⟩ | h
  · exact .inl h
  · exact .inr h
theorem LstAt.sq {K : PySem.W.Frag} {Z : Addr → Prop} {H : Hp} {a : Addr} {xs : List V} (h : LstAt K Z H a xs) : SqL K H a xs := by
  rcases h with ⟨h, _⟩ | h
  · exact .inl h
  · exact .inr h

mutual
inductive Rep (K : PySem.W.Frag) (Z : Addr → Prop) (ads : List Addr) (H : Hp) : V → D → Prop
  | non : Rep K Z ads H .non .non
  | bl (b : Bool) : Rep K Z ads H (.bl b) (.bl b)
  | int (i : Int) : Rep K Z ads H (.int i) (.int i)
  | str (x : Str) : Rep K Z ads H (.str x) (.str x)
  | tup {a : Addr} {xs : List V} {ds : List D} : TupAt K Z H a xs → RepL K Z ads H xs ds → Rep K Z ads H (.ref a) (.tup ds)
  | lst {a : Addr} {xs : List V} {ds : List D} : LstAt K Z H a xs → RepL K Z ads H xs ds → Rep K Z ads H (.ref a) (.lst ds)
  | cell {a : Addr} {k : Nat} : ads[k]? = some a → Rep K Z ads H (.ref a) (.cell k)
inductive RepL (K : PySem.W.Frag) (Z : Addr → Prop) (ads : List Addr) (H : Hp) : List V → List D → Prop
  | nil : RepL K Z ads H [] []
  | cons {v : V} {d : D} {vs : List V} {ds : List D} : Rep K Z ads H v d → RepL K Z ads H vs ds → RepL K Z ads H (v :: vs) (d :: ds)
end

section
variable {K : PySem.W.Frag} {Z Z' : Addr → Prop} {ads ads' : List Addr} {H H' : Hp}

/-- what lets a representation stand -/
structure Stay (Z Z' : Addr → Prop) (ads ads' : List Addr) (H H' : Hp) : Prop where
  keep : ∀ b o, H b = some o → ¬ Z b → H' b = some o
  free : ∀ b o, H b = some o → ¬ Z b → ¬ Z' b
  pre : ∀ (k : Nat) (a : Addr), ads[k]? = some a → ads'[k]? = some a

theorem Rd.keep {a : Addr} {u : HO} (s : Stay Z Z' ads ads' H H') (h : Rd H a u ∧ ¬ Z a) : Rd H' a u ∧ ¬ Z' a := by
  obtain ⟨h, z⟩ := h
  rcases h with h | ⟨o, h⟩
  · exact ⟨.inl (s.keep _ _ h z), s.free _ _ h z⟩
  · exact ⟨.inr ⟨o, s.keep _ _ h z⟩, s.free _ _ h z⟩
theorem TupAt.stay {a : Addr} {xs : List V} (s : Stay Z Z' ads ads' H H') (h : TupAt K Z H a xs) : TupAt K Z' H' a xs := by
  rcases h with h | h
  · exact .inl (Rd.keep s h)
  · exact .inr h
theorem LstAt.stay {a : Addr} {xs : List V} (s : Stay Z Z' ads ads' H H') (h : LstAt K Z H a xs) : LstAt K Z' H' a xs := by
  rcases h with h | h
  · exact .inl (Rd.keep s h)
  · exact .inr h
mutual
theorem Rep.stay (s : Stay Z Z' ads ads' H H') : ∀ (d : D) (v : V), Rep K Z ads H v d → Rep K Z' ads' H' v d
  | .non, _, h => by cases h; exact .non
  | .bl b, _, h => by cases h; exact .bl b
  | .int i, _, h => by cases h; exact .int i
  | .str x, _, h => by cases h; exact .str x
  | .tup ds, _, h => by
    cases h with
    | tup h1 h2 => exact .tup (h1.stay s) (RepL.stay s ds _ h2)
  | .lst ds, _, h => by
    cases h with
    | lst h1 h2 => exact .lst (h1.stay s) (RepL.stay s ds _ h2)
  | .cell k, _, h => by
    cases h with
    | cell h1 => exact .cell (s.pre _ _ h1)
theorem RepL.stay (s : Stay Z Z' ads ads' H H') : ∀ (ds : List D) (vs : List V), RepL K Z ads H vs ds → RepL K Z' ads' H' vs ds
  | [], _, h => by cases h; exact .nil
  | d :: ds, _, h => by
    cases h with
    | cons h1 h2 => exact .cons (Rep.stay s d _ h1) (RepL.stay s ds _ h2)
end
theorem RepL.length : ∀ {vs : List V} {ds : List D}, RepL K Z ads H vs ds → vs.length = ds.length
  | _, [], h => by cases h; rfl
  | _, d :: ds, h => by
    cases h with
    | cons h1 h2 => rw [List.length_cons, List.length_cons, h2.length]
theorem RepL.get : ∀ {vs : List V} {ds : List D} {i : Nat} {d : D}, RepL K Z ads H vs ds → ds[i]? = some d → ∃ v, vs[i]? = some v ∧ Rep K Z ads H v d
  | _, [], _, _, _, e => by simp at e
  | _, x :: ds, 0, d, h, e => by
    cases h with
    | cons h1 h2 => simp at e; subst e; exact ⟨_, rfl, h1⟩
  | _, x :: ds, i + 1, d, h, e => by
    cases h with
    | cons h1 h2 =>
      obtain ⟨v, e1, r⟩ := h2.get (i := i) (d := d) (by simpa using e)
      exact ⟨v, by simpa using e1, r⟩
theorem RepL.getV : ∀ {vs : List V} {ds : List D} {i : Nat} {v : V}, RepL K Z ads H vs ds → vs[i]? = some v → ∃ d, ds[i]? = some d ∧ Rep K Z ads H v d := fun {vs ds i v} h e => by
  have hl := h.length
  have hi : i < ds.length := by
    have := (List.getElem?_eq_some_iff.mp e).1
    omega
  obtain ⟨w, e2, r⟩ := h.get (i := i) (d := ds[i]) (by simp [hi])
  rw [e] at e2; cases e2
  exact ⟨_, by simp [hi], r⟩
theorem RepL.append : ∀ {vs ws : List V} {ds es : List D}, RepL K Z ads H vs ds → RepL K Z ads H ws es → RepL K Z ads H (vs ++ ws) (ds ++ es)
  | _, _, [], _, h, k => by cases h; exact k
  | _, _, d :: ds, _, h, k => by
    cases h with
    | cons h1 h2 => exact .cons h1 (h2.append k)
theorem RepL.take : ∀ {vs : List V} {ds : List D} (n : Nat), RepL K Z ads H vs ds → RepL K Z ads H (vs.take n) (ds.take n)
  | _, _, 0, _ => .nil
  | _, [], n + 1, h => by cases h; exact .nil
  | _, d :: ds, n + 1, h => by
    cases h with
    | cons h1 h2 => exact .cons h1 (h2.take n)
theorem RepL.drop : ∀ {vs : List V} {ds : List D} (n : Nat), RepL K Z ads H vs ds → RepL K Z ads H (vs.drop n) (ds.drop n)
  | _, _, 0, h => h
  | _, [], n + 1, h => by cases h; exact .nil
  | _, d :: ds, n + 1, h => by
    cases h with
    | cons h1 h2 => exact h2.drop n
theorem RepL.ofInts : ∀ (ns : List Int), RepL K Z ads H (ns.map V.int) (ns.map D.int)
  | [] => .nil
  | n :: ns => .cons (.int n) (RepL.ofInts ns)
theorem RepL.ints : ∀ {vs : List V} {ns : List Int}, RepL K Z ads H vs (ns.map D.int) → vs = ns.map V.int
  | _, [], h => by cases h; rfl
  | _, n :: ns, h => by
    cases h with
    | cons h1 h2 => cases h1; rw [List.map_cons, h2.ints]
theorem RepL.bls : ∀ {vs : List V} {ns : List Bool}, RepL K Z ads H vs (ns.map D.bl) → vs = ns.map V.bl
  | _, [], h => by cases h; rfl
  | _, n :: ns, h => by
    cases h with
    | cons h1 h2 => cases h1; rw [List.map_cons, h2.bls]
theorem RepL.strs : ∀ {vs : List V} {ns : List Str}, RepL K Z ads H vs (ns.map D.str) → vs = ns.map V.str
  | _, [], h => by cases h; rfl
  | _, n :: ns, h => by
    cases h with
    | cons h1 h2 => cases h1; rw [List.map_cons, h2.strs]
theorem RepL.one {d : D} {vs : List V} (h : RepL K Z ads H vs [d]) : ∃ v, vs = [v] ∧ Rep K Z ads H v d := by
  cases h with
  | cons h1 h2 => cases h2; exact ⟨_, rfl, h1⟩
theorem RepL.two {d e : D} {vs : List V} (h : RepL K Z ads H vs [d, e]) : ∃ v w, vs = [v, w] ∧ Rep K Z ads H v d ∧ Rep K Z ads H w e := by
  cases h with
  | cons h1 h2 => obtain ⟨w, rfl, h3⟩ := h2.one; exact ⟨_, _, rfl, h1, h3⟩
end

/-! ### the cells -/
/-- keys alike, values represented -/
def RepKV (K : PySem.W.Frag) (Z : Addr → Prop) (ads : List Addr) (H : Hp) (kvs : List (Key × V)) (kds : Cell) : Prop :=
  kvs.map (·.1) = kds.map (·.1) ∧ RepL K Z ads H (kvs.map (·.2)) (kds.map (·.2))
/-- own: lists that no plain datum may hold; ads: the cells' addresses -/
abbrev Zo (own : Addr → Prop) (ads : List Addr) : Addr → Prop := fun b => own b ∨ b ∈ ads
structure CellsR (K : PySem.W.Frag) (own : Addr → Prop) (ads : List Addr) (H : Hp) (μ : Cells) : Prop where
  len : ads.length = μ.length
  nd : ads.Nodup
  «at» : ∀ (k : Nat) (a : Addr), ads[k]? = some a → ∃ (kvs : List (Key × V)) (kds : Cell), μ[k]? = some kds ∧ H a = some (.dK kvs) ∧ RepKV K (Zo own ads) ads H kvs kds
  dis : ∀ a ∈ ads, ¬ own a
  ownT : ∀ b, own b → ∃ o, H b = some o ∧ Mut (some o)

/-- behind an expression: all that was tracked but the cells stands; new cells are new -/
structure Ext (ads : List Addr) (H : Hp) (ads' : List Addr) (H' : Hp) : Prop where
  keep : ∀ b o, H b = some o → b ∉ ads → H' b = some o
  there : ∀ b o, H b = some o → ∃ o', H' b = some o'
  new : ∀ b ∈ ads', b ∈ ads ∨ H b = none
  pre : ∀ (k : Nat) (a : Addr), ads[k]? = some a → ads'[k]? = some a
section
variable {K : PySem.W.Frag} {own : Addr → Prop} {ads ads' ads2 : List Addr} {H H' H2 : Hp} {μ : Cells}
theorem Ext.refl : Ext ads H ads H := ⟨fun _ _ h _ => h, fun _ o h => ⟨o, h⟩, fun _ h => .inl h, fun _ _ h => h⟩
theorem Ext.mem (e : Ext ads H ads' H') {b : Addr} (h : b ∈ ads) : b ∈ ads' := by
  obtain ⟨k, hk⟩ := List.mem_iff_getElem?.mp h
  exact List.mem_iff_getElem?.mpr ⟨k, e.pre _ _ hk⟩
theorem Ext.trans (e : Ext ads H ads' H') (f : Ext ads' H' ads2 H2) : Ext ads H ads2 H2 where
  keep := fun b o h hn => f.keep b o (e.keep b o h hn) fun hm => (e.new b hm).elim hn fun z => by rw [z] at h; cases h
  there := fun b o h => let ⟨o', h'⟩ := e.there b o h; f.there b o' h'
  new := fun b hb => (f.new b hb).elim (e.new b) fun z => .inr <| by
    cases q : H b with
    | none => rfl
    | some o => obtain ⟨o', h'⟩ := e.there b o q; rw [z] at h'; cases h'
  pre := fun k a h => f.pre k a (e.pre k a h)
theorem Ext.stay (e : Ext ads H ads' H') : Stay (Zo own ads) (Zo own ads') ads ads' H H' where
  keep := fun b o h z => e.keep b o h fun m => z (.inr m)
  free := fun b o h z q => q.elim (fun q => z (.inl q)) fun q => (e.new b q).elim (fun m => z (.inr m)) fun n => by rw [n] at h; cases h
  pre := e.pre
theorem Rep.ext {v : V} {d : D} (e : Ext ads H ads' H') (h : Rep K (Zo own ads) ads H v d) : Rep K (Zo own ads') ads' H' v d := h.stay e.stay
theorem RepL.ext {v : List V} {d : List D} (e : Ext ads H ads' H') (h : RepL K (Zo own ads) ads H v d) : RepL K (Zo own ads') ads' H' v d := h.stay e.stay
/-- a new object that is no cell -/
theorem Ext.fresh {p : Addr} {o : HO} (hp : H p = none) : Ext ads H ads (upd H p o) where
  keep := fun b u h _ => by rw [upd_ne (ne_of_none h hp)]; exact h
  there := fun b u h => ⟨u, by rw [upd_ne (ne_of_none h hp)]; exact h⟩
  new := fun _ h => .inl h
  pre := fun _ _ h => h
theorem RepKV.stay {Z Z' : Addr → Prop} {kvs : List (Key × V)} {kds : Cell} (s : Stay Z Z' ads ads' H H') (h : RepKV K Z ads H kvs kds) : RepKV K Z' ads' H' kvs kds := ⟨h.1, h.2.stay s⟩
/-- the cells where none of them is changed, none is new -/
theorem CellsR.same (c : CellsR K own ads H μ) (e : Ext ads H ads H') (k : ∀ a ∈ ads, H' a = H a) : CellsR K own ads H' μ where
  len := c.len
  nd := c.nd
  «at» := fun i a h => by
    obtain ⟨kvs, kds, h1, h2, h3⟩ := c.at i a h
    exact ⟨kvs, kds, h1, by rw [k a (List.mem_of_getElem? h)]; exact h2, h3.stay e.stay⟩
  dis := c.dis
  ownT := fun b h => let ⟨o, q, m⟩ := c.ownT b h; ⟨o, e.keep b o q fun z => c.dis b z h, m⟩
theorem CellsR.tracked (c : CellsR K own ads H μ) {b : Addr} (h : Zo own ads b) : ∃ o, H b = some o := by
  rcases h with h | h
  · obtain ⟨o, q, _⟩ := c.ownT b h
    exact ⟨o, q⟩
  · obtain ⟨k, hk⟩ := List.mem_iff_getElem?.mp h
    obtain ⟨kvs, _, _, h2, _⟩ := c.at k b hk
    exact ⟨_, h2⟩
theorem CellsR.freshZ (c : CellsR K own ads H μ) {p : Addr} (hp : H p = none) : ¬ Zo own ads p := fun z => by
  obtain ⟨o, h⟩ := c.tracked z
  rw [hp] at h; cases h
theorem CellsR.fresh (c : CellsR K own ads H μ) {p : Addr} {o : HO} (hp : H p = none) : CellsR K own ads (upd H p o) μ :=
  c.same (Ext.fresh hp) fun a ha => by
    have : a ≠ p := fun z => c.freshZ hp (z ▸ .inr ha)
    rw [upd_ne this]
/-- a new tuple stands for its items -/
theorem Rep.newTup (c : CellsR K own ads H μ) {p : Addr} {xs : List V} {ds : List D} (hp : H p = none) (h : RepL K (Zo own ads) ads H xs ds) : Rep K (Zo own ads) ads (upd H p (.tup xs)) (.ref p) (.tup ds) :=
  .tup (.inl ⟨.inl upd_same, c.freshZ hp⟩) (h.ext (Ext.fresh hp))
theorem Rep.newLst (c : CellsR K own ads H μ) {p : Addr} {xs : List V} {ds : List D} (hp : H p = none) (h : RepL K (Zo own ads) ads H xs ds) : Rep K (Zo own ads) ads (upd H p (.lst xs)) (.ref p) (.lst ds) :=
  .lst (.inl ⟨.inl upd_same, c.freshZ hp⟩) (h.ext (Ext.fresh hp))
end
end FM

set_option Elab.async false
set_option linter.all false
set_option maxRecDepth 100000
set_option maxHeartbeats 4000000
/-! Ev2: the little language (slots in place of names), its evaluator, the look at the real tree. -/
namespace FM
open PySem PySem.Spec PyProof.Rows L2

/-! ### syntax -/
/-- built-ins called by name on plain values -/
inductive Bi where
  | len | tuple | list | all | any | abs | int | str | max2 | min2 | sum | sorted
  deriving DecidableEq
inductive Ty where
  | int | bool | str | tuple | list
  deriving DecidableEq
/-- methods -/
inductive Me where
  | bits | partition | join
  deriving DecidableEq
inductive Tg where
  | nm (i : Nat) | tp (is : List Nat)
  deriving DecidableEq
mutual
inductive E where
  | var (i : Nat) | int (i : Int) | bl (b : Bool) | non | str (s : Str)
  | op (o : Operator) (a b : E)
  | neg (a : E)
  | cmp (o : CmpOp) (a b : E)
  | chn (o o' : CmpOp) (a b c : E)
  | and (a b : E) | or (a b : E) | not (a : E)
  | ife (c a b : E)
  | tup (es : Es) | lst (es : Es)
  | ix (a b : E)
  | sl (a : E) (lo hi : EO)
  | call (f : Nat) (es : Es)
  | callB (f : Nat) (es : Es)
  | bi (b : Bi) (es : Es)
  | isi (a : E) (t : Ty)
  | me (m : Me) (o : E) (es : Es)
  | lc (elt : E) (tg : Tg) (it : It) (cond : EO)
  | dict (ks : List Str) (es : Es)
  | rev (a : E) | con (x : Str) (vs : List Str) | ldict (a : E)
  | bad
inductive Es where
  | nil | cons (e : E) (es : Es)
inductive EO where
  | none | some (e : E)
inductive It where
  | zip2 (a b : E) | zip3 (a b c : E)
  | seq (e : E) | rng1 (a : E) | rng2 (a b : E) | rng3 (a b c : E)
end
mutual
inductive S where
  | asg (i : Nat) (e : E)
  | own (i : Nat)
  | asgT (is : List Nat) (e : E)
  | par (i j : Nat) (a b : E)
  | par3 (i j k : Nat) (a b c : E) | par3L (i j k : Nat) (a b : E) | par3M (i j k : Nat) (a : E) (n : Int)
  | par4L (i j k l : Nat) (a b c : E)
  | aug (i : Nat) (o : Operator) (e : E)
  | app (i : Nat) (e : E)
  | ins (i : Nat) (k e : E)
  | ext (i : Nat) (e : E)
  | daug (o k : E) (op : Operator) (e : E)
  | ret (e : E)
  | ifs (c : E) (a b : Ss)
  | whl (c : E) (b : Ss)
  | for_ (tg : Tg) (it : It) (b : Ss)
  | expr (e : E)
  | pass | brk | cont
  | frz (i : Nat)
  | bad
inductive Ss where
  | nil | cons (s : S) (ss : Ss)
end

/-! ### the environment -/
inductive Sl where
  | pl (d : D) | ow (ds : List D)
abbrev Env := List (Option Sl)
def Sl.d : Sl → D
  | .pl d => d
  | .ow ds => .lst ds
def Sl.isOw : Sl → Bool
  | .pl _ => false
  | .ow _ => true
def isOw (ρ : Env) (i : Nat) : Bool := match ρ[i]? with
  | some (some s) => s.isOw
  | _ => false
/-- whether an expression may hand out a list that its slot owns -/
def lk (ρ : Env) : E → Bool
  | .var i => isOw ρ i
  | .ife _ a b => lk ρ a || lk ρ b
  | _ => false
def lks (ρ : Env) : Es → Bool
  | .nil => false
  | .cons e es => lk ρ e || lks ρ es

def It.lk (ρ : Env) : It → Bool
  | .seq e => FM.lk ρ e
  | _ => false

/-! ### values -/
mutual
def D.py : D → PyData
  | .non => .none
  | .bl b => .bool b
  | .int i => .int i
  | .str s => .str s
  | .tup ds => .tuple (pyAll ds)
  | .lst ds => .list (pyAll ds)
  | .cell _ => .none
def pyAll : List D → List PyData
  | [] => []
  | d :: ds => d.py :: pyAll ds
end
mutual
def D.noCell : D → Bool
  | .tup ds => noCells ds
  | .lst ds => noCells ds
  | .cell _ => false
  | _ => true
def noCells : List D → Bool
  | [] => true
  | d :: ds => d.noCell && noCells ds
end
mutual
def D.noLst : D → Bool
  | .tup ds => noLsts ds
  | .lst _ => false
  | _ => true
def noLsts : List D → Bool
  | [] => true
  | d :: ds => d.noLst && noLsts ds
end
def D.scal : D → Bool
  | .non => true
  | .bl _ => true
  | .int _ => true
  | .str _ => true
  | _ => false
def D.flat : D → Bool
  | .int _ => true
  | .str _ => true
  | .bl _ => true
  | .non => true
  | _ => false
def eqS : D → D → Bool
  | .non, .non => true
  | .bl a, .bl b => a == b
  | .int a, .int b => a == b
  | .str a, .str b => a == b
  | _, _ => false
def scalOk : D → D → Bool
  | .bl _, .int _ => false
  | .int _, .bl _ => false
  | a, b => a.scal && b.scal
def shOk (d : D) : Bool := d.noCell && SeqAt.shaped d.py
def eqD (a b : D) : Option Bool :=
  if scalOk a b then some (eqS a b) else if shOk a && shOk b then some (PyData.eqv a.py b.py) else none
def mulOk (i j : Int) : Bool := decide (i.natAbs.log2 + j.natAbs.log2 < 1000000)
def divOk (_ j : Int) : Bool := decide (j ≠ 0 ∧ j.natAbs < 1073741824) || decide (0 < j ∧ j.natAbs.log2 < 9000)
def powOk (i j : Int) : Bool := decide (0 ≤ j ∧ j ≤ 1000000 ∧ i.natAbs < 2 ^ 64)
def opA : Operator → D → D → Option D
  | .Add, .int i, .int j => some (.int (i + j))
  | .Add, .str a, .str b => if a.length + b.length ≤ sizeLine then some (.str (a ++ b)) else none
  | .Add, .tup a, .tup b => if a.length + b.length ≤ sizeLine then some (.tup (a ++ b)) else none
  | .Sub, .int i, .int j => some (.int (i - j))
  | .Sub, .bl a, .bl b => some (.int (b2i a - b2i b))
  | .Mult, .int i, .int j => if mulOk i j then some (.int (i * j)) else none
  | .FloorDiv, .int i, .int j => if divOk i j then some (.int (i.fdiv j)) else none
  | .Mod, .int i, .int j => if j = 0 then none else some (.int (i.fmod j))
  | .Pow, .int i, .int j => if powOk i j then some (.int (i ^ j.toNat)) else none
  | .LShift, .int i, .int j => if powOk i j then some (.int (i * 2 ^ j.toNat)) else none
  | _, _, _ => none
def negD : D → Option D
  | .int i => some (.int (-i))
  | _ => none
def isNon : D → Bool
  | .non => true
  | _ => false
/-- x in xs -/
def inD (x : D) : List D → Option Bool
  | [] => if x.flat then some false else none
  | y :: ys => if scalOk y x then (if eqS y x then (if (y :: ys).all (fun z => scalOk z x) then some true else none) else inD x ys) else none
/-- x in a list, deep -/
def inX (x : D) (b : List D) : Option Bool := match inD x b with
  | some r => some r
  | none => if shOk x && shOk (.lst b) then some ((pyAll b).any fun z => PyData.eqv z x.py) else none
def cmpD : CmpOp → D → D → Option Bool
  | .Eq, a, b => eqD a b
  | .NotEq, a, b => (eqD a b).map not
  | .Lt, .int i, .int j => some (decide (i < j))
  | .LtE, .int i, .int j => some (decide (i ≤ j))
  | .Gt, .int i, .int j => some (decide (j < i))
  | .GtE, .int i, .int j => some (decide (j ≤ i))
  | .Is, a, .non => some (isNon a)
  | .IsNot, a, .non => some (!isNon a)
  | .Is, .bl a, .bl b => some (decide (a = b))
  | .IsNot, .bl a, .bl b => some (!decide (a = b))
  | .In, .str a, .str b => some (!(Builtin.Str.occurrences b a 0 b.length 1).isEmpty)
  | .In, a, .tup b => inD a b
  | .In, a, .lst b => inX a b
  | .NotIn, a, .tup b => (inD a b).map not
  | .NotIn, a, .lst b => (inX a b).map not
  | _, _, _ => none
def valC (c : Cell) (k : Key) : Option D := (c.find? fun kv => decide (kv.1 = k)).map (·.2)
def putC (c : Cell) (k : Key) (d : D) : Cell := if (c.any fun kv => decide (kv.1 = k)) = true then c.map (fun kv => if kv.1 = k then (kv.1, d) else kv) else c ++ [(k, d)]
def keyD : D → Option Key
  | .int i => some (.inl i)
  | .str s => some (.inr s)
  | _ => none
def ixD (μ : Cells) : D → D → Option D
  | .lst ds, .int i => atI ds i
  | .tup ds, .int i => atI ds i
  | .str s, .int i => if s.length ≤ sizeLine then (atI s.cps.toList i).map fun c => .str ⟨#[c]⟩ else none
  | .cell k, d => match μ[k]?, keyD d with
    | some c, some q => valC c q
    | _, _ => none
  | _, _ => none
def cutD {α : Type} (xs : List α) (lo hi : Option Int) : List α := (xs.drop (HT.sIx xs.length 0 lo)).take (HT.sIx xs.length xs.length hi - HT.sIx xs.length 0 lo)
def slD : D → Option Int → Option Int → Option D
  | .tup ds, lo, hi => some (.tup (cutD ds lo hi))
  | .lst ds, lo, hi => some (.lst (cutD ds lo hi))
  | .str s, lo, hi => if s.length ≤ sizeLine then some (.str ⟨(cutD s.cps.toList lo hi).toArray⟩) else none
  | _, _, _ => none
def asBls : List D → Option (List Bool)
  | [] => some []
  | .bl b :: ds => (asBls ds).map (b :: ·)
  | _ => none
def asInts : List D → Option (List Int)
  | [] => some []
  | .int b :: ds => (asInts ds).map (b :: ·)
  | _ => none
def asStrs : List D → Option (List Str)
  | [] => some []
  | .str b :: ds => (asStrs ds).map (b :: ·)
  | _ => none
def insI (i : Int) : List Int → List Int
  | [] => [i]
  | x :: xs => if i ≤ x then i :: x :: xs else x :: insI i xs
def srtI (l : List Int) : List Int := l.foldr insI []
def leP (p q : Int × Int) : Bool := decide (p.1 < q.1) || (decide (p.1 = q.1) && decide (p.2 ≤ q.2))
def insP (p : Int × Int) : List (Int × Int) → List (Int × Int)
  | [] => [p]
  | x :: xs => if leP p x then p :: x :: xs else x :: insP p xs
def srtP (l : List (Int × Int)) : List (Int × Int) := l.foldr insP []
def pD (p : Int × Int) : D := .tup [.int p.1, .int p.2]
def asPairs : List D → Option (List (Int × Int))
  | [] => some []
  | .tup [.int a, .int b] :: ds => (asPairs ds).map ((a, b) :: ·)
  | _ => none
/-- sorted: ints, or pairs of ints -/
def sortD (ds : List D) : Option D := match asInts ds with
  | some ns => some (.lst ((srtI ns).map D.int))
  | none => (asPairs ds).map fun ps => .lst ((srtP ps).map pD)
def biD (μ : Cells) : Bi → List D → Option D
  | .len, [.lst ds] => some (.int ds.length)
  | .len, [.tup ds] => some (.int ds.length)
  | .len, [.str s] => if s.length ≤ sizeLine then some (.int s.length) else none
  | .tuple, [.lst ds] => some (.tup ds)
  | .tuple, [.tup ds] => some (.tup ds)
  | .list, [.lst ds] => some (.lst ds)
  | .list, [.tup ds] => some (.lst ds)
  | .all, [.lst ds] => (asBls ds).map fun bs => .bl (bs.all id)
  | .any, [.lst ds] => (asBls ds).map fun bs => .bl (bs.any id)
  | .sum, [.lst ds] => (asInts ds).map fun bs => .int bs.sum
  | .abs, [.int i] => some (.int (if i < 0 then -i else i))
  | .int, [.int i] => some (.int i)
  | .int, [.str s] => match PySem.intText? s with
    | some n => if s.length ≤ 640 then some (.int n) else none
    | none => none
  | .str, [.int i] => if i.natAbs.log2 < 1920 then some (.str (toString i)) else none
  | .max2, [.int i, .int j] => some (.int (if j > i then j else i))
  | .min2, [.int i, .int j] => some (.int (if j < i then j else i))
  | .sorted, [.lst ds] => sortD ds
  | _, _ => none
def isiD : D → Ty → Option Bool
  | .int _, .int => some true
  | .bl _, .int => some true
  | .bl _, .bool => some true
  | .str _, .str => some true
  | .tup _, .tuple => some true
  | .lst _, .list => some true
  | .cell _, _ => none
  | _, _ => some false
def meD : Me → D → List D → Option D
  | .bits, .int i, [] => some (.int (Builtin.Int.intBits i : Nat))
  | .partition, .str a, [.str b] => if (b.length == 0) = false ∧ a.length ≤ sizeLine then some (.tup [.str (Txt.partition a b).1, .str (Txt.partition a b).2.1, .str (Txt.partition a b).2.2]) else none
  | .join, .str a, [.lst ds] => match asStrs ds with
    | some ys => if (ys.map (·.length)).sum + ys.length * a.length ≤ 16777216 then some (.str (Txt.join a ys)) else none
    | none => none
  | _, _, _ => none

/-- a text so many times -/
def repS (a : Str) (k : Int) : Str := if k < 1 then Str.empty else if (k == 1 || a.length == 0) = true then a else ⟨(List.replicate k.toNat a.cps).foldl (· ++ ·) #[]⟩
def opL : Operator → D → D → Option D
  | .Add, .lst a, .lst b => if a.length + b.length ≤ sizeLine then some (.lst (a ++ b)) else none
  | .Mult, .str a, .int k => if 0 ≤ k ∧ k ≤ 1000 ∧ a.length ≤ 1000 then some (.str (repS a k)) else none
  | .Mult, .tup a, .int k => if ¬ a.isEmpty = true ∧ 2 ≤ k ∧ k ≤ 1000 ∧ a.length ≤ 1000 then some (.tup (List.replicate k.toNat a).flatten) else none
  | _, _, _ => none
def opD (o : Operator) (x y : D) : Option D := match opA o x y with
  | some z => some z
  | none => opL o x y
/-! ### binding -/
def setAll : List Nat → List D → Env → Env
  | i :: is, d :: ds, ρ => setAll is ds (ρ.set i (some (.pl d)))
  | _, _, ρ => ρ
def itemsOf : D → Option (List D)
  | .tup ds => some ds
  | _ => none
def bindT (tg : Tg) (d : D) (ρ : Env) : Option Env := match tg with
  | .nm i => some (ρ.set i (some (.pl d)))
  | .tp is => match d with
    | .tup ds => if ds.length = is.length then some (setAll is ds ρ) else none
    | _ => none
def lcGo (tg : Tg) (c : Env → Cells → Option (Bool × Cells)) (f : Env → Cells → Option (D × Cells)) (ρ : Env) : List D → Cells → Option (List D × Cells)
  | [], μ => some ([], μ)
  | x :: xs, μ =>
    match bindT tg x ρ with
    | none => none
    | some ρ1 => match c ρ1 μ with
      | none => none
      | some (false, μ1) => lcGo tg c f ρ xs μ1
      | some (true, μ1) => match f ρ1 μ1 with
        | none => none
        | some (y, μ2) => match lcGo tg c f ρ xs μ2 with
          | none => none
          | some (ys, μ3) => some (y :: ys, μ3)
def rngOk (i : Int) : Bool := decide (-(2 ^ 62) ≤ i) && decide (i < 2 ^ 62)
def rngD (lo : Int) (n : Nat) : List D := (List.range n).map fun (k : Nat) => D.int (lo + k)

def signs (s : Str) : List D := s.cps.toList.map fun c => D.str ⟨#[c]⟩
/-- a range with a step -/
def rngS (lo c : Int) (n : Nat) : List D := (List.range n).map fun (k : Nat) => D.int (lo + (k : Nat) * c)
def rgOk (i j c : Int) : Bool := decide (c ≠ 0) && decide (c.natAbs < 1073741824) && PySem.Builtin.Range.small i j c && decide (0 ≤ PySem.Builtin.Range.rangeSize i j c)
/-- an item put in at a place -/
def insAt {α : Type} (xs : List α) (i : Nat) (y : α) : List α := xs.take i ++ [y] ++ xs.drop i
/-- pairs, triples of items -/
def zipD : List D → List D → List D
  | x :: xs, y :: ys => .tup [x, y] :: zipD xs ys
  | _, _ => []
def zipD3 : List D → List D → List D → List D
  | x :: xs, y :: ys, z :: zs => .tup [x, y, z] :: zipD3 xs ys zs
  | _, _, _ => []
/-- the keys of a list of pairs, the keys tuples of whole numbers -/
def asKeys : List D → Option (List (List Int))
  | [] => some []
  | .tup [.tup ks, _] :: ds => match asInts ks with
    | some ns => (asKeys ds).map (ns :: ·)
    | none => none
  | _ => none
/-! ### the evaluator -/
abbrev Fs := Nat → List D → Cells → Option (D × Cells)
abbrev Rs (α : Type) := Option (α × Cells)
def andThen {α β : Type} (x : Rs α) (f : α → Cells → Option β) : Option β := match x with
  | some (a, μ) => f a μ
  | none => none
def onBl {β : Type} (x : Rs D) (f : Bool → Cells → Option β) : Option β := match x with
  | some (.bl b, μ) => f b μ
  | _ => none
def wthD (z : Option D) (μ : Cells) : Rs D := z.map (·, μ)
mutual
def ev (F : Fs) : E → Env → Cells → Rs D
  | .var i, ρ, μ => match ρ[i]? with
    | some (some s) => some (s.d, μ)
    | _ => none
  | .int i, _, μ => some (.int i, μ)
  | .bl b, _, μ => some (.bl b, μ)
  | .non, _, μ => some (.non, μ)
  | .str s, _, μ => some (.str s, μ)
  | .op o a b, ρ, μ => andThen (ev F a ρ μ) fun x μ1 => andThen (ev F b ρ μ1) fun y μ2 => wthD (opD o x y) μ2
  | .neg a, ρ, μ => andThen (ev F a ρ μ) fun x μ1 => wthD (negD x) μ1
  | .cmp o a b, ρ, μ => andThen (ev F a ρ μ) fun x μ1 => andThen (ev F b ρ μ1) fun y μ2 => wthD ((cmpD o x y).map D.bl) μ2
  | .chn o o' a b c, ρ, μ => andThen (ev F a ρ μ) fun x μ1 => andThen (ev F b ρ μ1) fun y μ2 => match cmpD o x y with
    | some true => andThen (ev F c ρ μ2) fun z μ3 => wthD ((cmpD o' y z).map D.bl) μ3
    | some false => some (.bl false, μ2)
    | none => none
  | .and a b, ρ, μ => onBl (ev F a ρ μ) fun x μ1 => if x then onBl (ev F b ρ μ1) fun y μ2 => some (.bl y, μ2) else some (.bl false, μ1)
  | .or a b, ρ, μ => onBl (ev F a ρ μ) fun x μ1 => if x then some (.bl true, μ1) else onBl (ev F b ρ μ1) fun y μ2 => some (.bl y, μ2)
  | .not a, ρ, μ => onBl (ev F a ρ μ) fun x μ1 => some (.bl (!x), μ1)
  | .ife c a b, ρ, μ => onBl (ev F c ρ μ) fun x μ1 => if x then ev F a ρ μ1 else ev F b ρ μ1
  | .tup es, ρ, μ => if lks ρ es then none else andThen (evs F es ρ μ) fun xs μ1 => if xs.length ≤ sizeLine then some (.tup xs, μ1) else none
  | .lst es, ρ, μ => if lks ρ es then none else andThen (evs F es ρ μ) fun xs μ1 => if xs.length ≤ sizeLine then some (.lst xs, μ1) else none
  | .ix a b, ρ, μ => andThen (ev F a ρ μ) fun x μ1 => andThen (ev F b ρ μ1) fun y μ2 => wthD (ixD μ2 x y) μ2
  | .sl a lo hi, ρ, μ => andThen (ev F a ρ μ) fun x μ1 => andThen (evo F lo ρ μ1) fun l μ2 => andThen (evo F hi ρ μ2) fun h μ3 => wthD (slD x l h) μ3
  | .call f es, ρ, μ => if lks ρ es then none else andThen (evs F es ρ μ) fun xs μ1 => F f xs μ1
  | .callB f es, ρ, μ => andThen (evs F es ρ μ) fun xs μ1 => if noCells xs then (match F f xs [] with
    | some (d, _) => if d.noCell && d.noLst then some (d, μ1) else none
    | none => none) else none
  | .bi b es, ρ, μ => andThen (evs F es ρ μ) fun xs μ1 => wthD (biD μ1 b xs) μ1
  | .isi a t, ρ, μ => andThen (ev F a ρ μ) fun x μ1 => wthD ((isiD x t).map D.bl) μ1
  | .me m o es, ρ, μ => andThen (ev F o ρ μ) fun x μ1 => andThen (evs F es ρ μ1) fun xs μ2 => wthD (meD m x xs) μ2
  | .lc elt tg it cond, ρ, μ => andThen (evi F it ρ μ) fun xs μ1 =>
      if xs.length ≤ 16777216 then andThen (lcGo tg (fun ρ' μ' => evc F cond ρ' μ') (fun ρ' μ' => if lk ρ' elt then none else ev F elt ρ' μ') ρ xs μ1) fun ys μ2 => some (.lst ys, μ2) else none
  | .dict ks es, ρ, μ => if lks ρ es then none else andThen (evs F es ρ μ) fun xs μ1 => if xs.length = ks.length ∧ ks.length ≤ 15 ∧ ks.Nodup then some (.cell μ1.length, μ1 ++ [(ks.map Sum.inr).zip xs]) else none
  | .rev a, ρ, μ => andThen (ev F a ρ μ) fun x μ1 => match x with
    | .tup ds => some (.tup ds.reverse, μ1)
    | _ => none
  | .con _ vs, _, μ => some (.tup (vs.map D.str), μ)
  | .ldict a, ρ, μ => if lk ρ a then none else andThen (ev F a ρ μ) fun x μ1 => match x with
    | .lst ds => match asKeys ds with
      | some ks => some (.int (FA.dkL [] ks).length, μ1)
      | none => none
    | _ => none
  | .bad, _, _ => none
def evs (F : Fs) : Es → Env → Cells → Rs (List D)
  | .nil, _, μ => some ([], μ)
  | .cons e es, ρ, μ => andThen (ev F e ρ μ) fun x μ1 => andThen (evs F es ρ μ1) fun xs μ2 => some (x :: xs, μ2)
def evo (F : Fs) : EO → Env → Cells → Rs (Option Int)
  | .none, _, μ => some (none, μ)
  | .some e, ρ, μ => andThen (ev F e ρ μ) fun x μ1 => match x with
    | .int i => some (some i, μ1)
    | _ => none
def evc (F : Fs) : EO → Env → Cells → Rs Bool
  | .none, _, μ => some (true, μ)
  | .some e, ρ, μ => onBl (ev F e ρ μ) fun x μ1 => some (x, μ1)
def evi (F : Fs) : It → Env → Cells → Rs (List D)
  | .zip2 a b, ρ, μ => andThen (ev F a ρ μ) fun x μ1 => andThen (ev F b ρ μ1) fun y μ2 => match x, y with
    | .tup xs, .tup ys => some (zipD xs ys, μ2)
    | _, _ => none
  | .zip3 a b c, ρ, μ => andThen (ev F a ρ μ) fun x μ1 => andThen (ev F b ρ μ1) fun y μ2 => andThen (ev F c ρ μ2) fun z μ3 => match x, y, z with
    | .tup xs, .tup ys, .tup zs => if xs.length = ys.length ∧ ys.length = zs.length then some (zipD3 xs ys zs, μ3) else none
    | _, _, _ => none
  | .seq e, ρ, μ => andThen (ev F e ρ μ) fun x μ1 => match x with
    | .lst ds => some (ds, μ1)
    | .tup ds => some (ds, μ1)
    | .str s => some (signs s, μ1)
    | _ => none
  | .rng1 a, ρ, μ => andThen (ev F a ρ μ) fun x μ1 => match x with
    | .int n => if rngOk n then some (rngD 0 n.toNat, μ1) else none
    | _ => none
  | .rng2 a b, ρ, μ => andThen (ev F a ρ μ) fun x μ1 => andThen (ev F b ρ μ1) fun y μ2 => match x, y with
    | .int m, .int n => if rngOk m && rngOk n then some (rngD m (n - m).toNat, μ2) else none
    | _, _ => none
  | .rng3 a b c, ρ, μ => andThen (ev F a ρ μ) fun x μ1 => andThen (ev F b ρ μ1) fun y μ2 => andThen (ev F c ρ μ2) fun z μ3 => match x, y, z with
    | .int m, .int n, .int s => if rgOk m n s then some (rngS m s (PySem.Builtin.Range.rangeSize m n s).toNat, μ3) else none
    | _, _, _ => none
end

/-! ### statements -/
inductive Res where
  | nx (ρ : Env) (μ : Cells) | bk (ρ : Env) (μ : Cells) | ct (ρ : Env) (μ : Cells) | rt (d : D) (μ : Cells)
def whileF (c : Env → Cells → Option (Bool × Cells)) (b : Env → Cells → Option Res) : Nat → Env → Cells → Option Res
  | 0, _, _ => none
  | n + 1, ρ, μ => match c ρ μ with
    | none => none
    | some (false, μ1) => some (.nx ρ μ1)
    | some (true, μ1) => match b ρ μ1 with
      | none => none
      | some (.nx ρ2 μ2) => whileF c b n ρ2 μ2
      | some (.ct ρ2 μ2) => whileF c b n ρ2 μ2
      | some (.bk ρ2 μ2) => some (.nx ρ2 μ2)
      | some (.rt d μ2) => some (.rt d μ2)
def forF (tg : Tg) (b : Env → Cells → Option Res) : List D → Env → Cells → Option Res
  | [], ρ, μ => some (.nx ρ μ)
  | x :: xs, ρ, μ => match bindT tg x ρ with
    | none => none
    | some ρ1 => match b ρ1 μ with
      | none => none
      | some (.nx ρ2 μ2) => forF tg b xs ρ2 μ2
      | some (.ct ρ2 μ2) => forF tg b xs ρ2 μ2
      | some (.bk ρ2 μ2) => some (.nx ρ2 μ2)
      | some (.rt d μ2) => some (.rt d μ2)
/-- whether no slot among these is owned -/
def noOw (ρ : Env) : List Nat → Bool
  | [] => true
  | i :: is => !isOw ρ i && noOw ρ is
mutual
def exec (F : Fs) (W : Nat) : S → Env → Cells → Option Res
  | .asg i e, ρ, μ => if lk ρ e || isOw ρ i then none else andThen (ev F e ρ μ) fun x μ1 => some (.nx (ρ.set i (some (.pl x))) μ1)
  | .own i, ρ, μ => if isOw ρ i then none else some (.nx (ρ.set i (some (.ow []))) μ)
  | .asgT is e, ρ, μ => if lk ρ e || !noOw ρ is then none else andThen (ev F e ρ μ) fun x μ1 => match x with
    | .tup ds => if ds.length = is.length then some (.nx (setAll is ds ρ) μ1) else none
    | .lst ds => if ds.length = is.length then some (.nx (setAll is ds ρ) μ1) else none
    | _ => none
  | .par i j a b, ρ, μ => if lk ρ a || lk ρ b || isOw ρ i || isOw ρ j || i == j then none else andThen (ev F a ρ μ) fun x μ1 => andThen (ev F b ρ μ1) fun y μ2 => some (.nx ((ρ.set i (some (.pl x))).set j (some (.pl y))) μ2)
  | .par3 i j k a b c, ρ, μ => if (lk ρ a || lk ρ b || lk ρ c) || (isOw ρ i || isOw ρ j || isOw ρ k) || (i == j || i == k || j == k) then none else andThen (ev F a ρ μ) fun x μ1 => andThen (ev F b ρ μ1) fun y μ2 => andThen (ev F c ρ μ2) fun z μ3 => some (.nx (((ρ.set i (some (.pl x))).set j (some (.pl y))).set k (some (.pl z))) μ3)
  | .par3L i j k a b, ρ, μ => if (lk ρ a || lk ρ b) || (isOw ρ i || isOw ρ j || isOw ρ k) || (i == j || i == k || j == k) then none else andThen (ev F a ρ μ) fun x μ1 => andThen (ev F b ρ μ1) fun y μ2 => some (.nx (((ρ.set i (some (.pl x))).set j (some (.pl y))).set k (some (.ow []))) μ2)
  | .par3M i j k a n, ρ, μ => if lk ρ a || (isOw ρ i || isOw ρ j || isOw ρ k) || (i == j || i == k || j == k) then none else andThen (ev F a ρ μ) fun x μ1 => some (.nx (((ρ.set i (some (.pl x))).set j (some (.ow []))).set k (some (.pl (.int n)))) μ1)
  | .par4L i j k l a b c, ρ, μ => if (lk ρ a || lk ρ b || lk ρ c) || isOw ρ l then none else andThen (ev F a ρ μ) fun x μ1 => andThen (ev F b ρ μ1) fun y μ2 => andThen (ev F c ρ μ2) fun z μ3 => some (.nx ((((ρ.set i (some (.pl x))).set j (some (.pl y))).set k (some (.pl z))).set l (some (.ow []))) μ3)
  | .aug i o e, ρ, μ => match ρ[i]? with
    | some (some (.pl (.int x))) => andThen (ev F e ρ μ) fun y μ1 => match o, y with
      | .Add, .int y => some (.nx (ρ.set i (some (.pl (.int (x + y))))) μ1)
      | .Sub, .int y => some (.nx (ρ.set i (some (.pl (.int (x - y))))) μ1)
      | _, _ => none
    | _ => none
  | .app i e, ρ, μ => match ρ[i]? with
    | some (some (.ow ds)) => if lk ρ e then none else andThen (ev F e ρ μ) fun x μ1 => if ds.length < sizeLine then some (.nx (ρ.set i (some (.ow (ds ++ [x])))) μ1) else none
    | _ => none
  | .ins i k e, ρ, μ => match ρ[i]? with
    | some (some (.ow ds)) => if lk ρ e || lk ρ k then none else andThen (ev F k ρ μ) fun z μ1 => andThen (ev F e ρ μ1) fun x μ2 => match z with
      | .int j => if ds.length < sizeLine ∧ 0 ≤ j ∧ j < 2 ^ 63 then some (.nx (ρ.set i (some (.ow (insAt ds j.toNat x)))) μ2) else none
      | _ => none
    | _ => none
  | .ext i e, ρ, μ => match ρ[i]? with
    | some (some (.ow ds)) => if lk ρ e then none else andThen (ev F e ρ μ) fun x μ1 => match x with
      | .tup es => if ds.length + es.length ≤ sizeLine then some (.nx (ρ.set i (some (.ow (ds ++ es)))) μ1) else none
      | _ => none
    | _ => none
  | .daug o k op e, ρ, μ => andThen (ev F o ρ μ) fun x μ1 => andThen (ev F k ρ μ1) fun y μ2 => match x, keyD y with
    | .cell n, some q => match (μ2[n]?).bind (valC · q) with
      | some (.int i) => andThen (ev F e ρ μ2) fun z μ3 => match op, z, μ3[n]? with
        | .Add, .int j, some c => if c.length < sizeLine then some (.nx ρ (μ3.set n (putC c q (.int (i + j))))) else none
        | .Sub, .int j, some c => if c.length < sizeLine then some (.nx ρ (μ3.set n (putC c q (.int (i - j))))) else none
        | _, _, _ => none
      | _ => none
    | _, _ => none
  | .ret e, ρ, μ => if lk ρ e then none else andThen (ev F e ρ μ) fun x μ1 => some (.rt x μ1)
  | .ifs c a b, ρ, μ => onBl (ev F c ρ μ) fun x μ1 => if x then execs F W a ρ μ1 else execs F W b ρ μ1
  | .whl c b, ρ, μ => whileF (fun ρ' μ' => onBl (ev F c ρ' μ') fun x μ1 => some (x, μ1)) (fun ρ' μ' => execs F W b ρ' μ') W ρ μ
  | .for_ tg it b, ρ, μ => andThen (evi F it ρ μ) fun xs μ1 => if it.lk ρ then none else forF tg (fun ρ' μ' => execs F W b ρ' μ') xs ρ μ1
  | .expr e, ρ, μ => andThen (ev F e ρ μ) fun _ μ1 => some (.nx ρ μ1)
  | .bad, _, _ => none
  | .pass, ρ, μ => some (.nx ρ μ)
  | .brk, ρ, μ => some (.bk ρ μ)
  | .cont, ρ, μ => some (.ct ρ μ)
  | .frz i, ρ, μ => match ρ[i]? with
    | some (some (.ow ds)) => some (.nx (ρ.set i (some (.pl (.lst ds)))) μ)
    | _ => none
def execs (F : Fs) (W : Nat) : Ss → Env → Cells → Option Res
  | .nil, ρ, μ => some (.nx ρ μ)
  | .cons s ss, ρ, μ => match exec F W s ρ μ with
    | some (.nx ρ1 μ1) => execs F W ss ρ1 μ1
    | r => r
end
/-- a def: how many parameters, how many slots, its body -/
structure Fn where
  ar : Nat
  sl : Nat
  body : Ss
def runFn (F : Fs) (W : Nat) (fn : Fn) (ds : List D) (μ : Cells) : Option (D × Cells) :=
  if ds.length = fn.ar ∧ fn.ar ≤ fn.sl then
    match execs F W fn.body (ds.map (fun d => some (.pl d)) ++ List.replicate (fn.sl - fn.ar) none) μ with
    | some (.rt d μ1) => some (d, μ1)
    | some (.nx _ μ1) => some (.non, μ1)
    | _ => none
  else none
def call (T : Nat → Option Fn) (W : Nat) : Nat → Fs
  | 0, _, _, _ => none
  | n + 1, f, ds, μ => match T f with
    | some fn => runFn (call T W n) W fn ds μ
    | none => none
end FM

set_option Elab.async false
set_option linter.all false
set_option maxRecDepth 100000
set_option maxHeartbeats 4000000
/-! Ev3: operators, comparisons, subscripts, slices, built-ins, methods: what the evaluator says is what the hand layer's rules give. -/
namespace FM
open PySem PySem.Spec PyProof.Rows L2

/-- a datum's representation, or (b) a list that its slot owns -/
def RepB (K : PySem.W.Frag) (own : Addr → Prop) (ads : List Addr) (H : Hp) (b : Bool) (v : V) (d : D) : Prop :=
  Rep K (Zo own ads) ads H v d ∨ (b = true ∧ ∃ a xs ds, v = .ref a ∧ d = .lst ds ∧ H a = some (.lst xs) ∧ own a ∧ RepL K (Zo own ads) ads H xs ds)
section
variable {K : PySem.W.Frag} {own : Addr → Prop} {ads ads' : List Addr} {H H' : Hp} {μ : Cells} {b : Bool} {v : V} {d : D}
theorem RepB.of (h : Rep K (Zo own ads) ads H v d) : RepB K own ads H b v d := .inl h
theorem RepB.plain (h : RepB K own ads H false v d) : Rep K (Zo own ads) ads H v d := by
  rcases h with h | ⟨h, _⟩
  · exact h
  · cases h
theorem RepB.ext (c : CellsR K own ads H μ) (e : Ext ads H ads' H') (h : RepB K own ads H b v d) : RepB K own ads' H' b v d := by
  rcases h with h | ⟨h, a, xs, ds, e1, e2, e3, e4, e5⟩
  · exact .inl (h.ext e)
  · exact .inr ⟨h, a, xs, ds, e1, e2, e.keep _ _ e3 fun m => c.dis a m e4, e4, e5.ext e⟩
theorem RepB.non (h : RepB K own ads H b v .non) : v = .non := by
  rcases h with h | ⟨_, _, _, _, _, e, _⟩
  · cases h; rfl
  · cases e
theorem RepB.int {i : Int} (h : RepB K own ads H b v (.int i)) : v = .int i := by
  rcases h with h | ⟨_, _, _, _, _, e, _⟩
  · cases h; rfl
  · cases e
theorem RepB.bl {i : Bool} (h : RepB K own ads H b v (.bl i)) : v = .bl i := by
  rcases h with h | ⟨_, _, _, _, _, e, _⟩
  · cases h; rfl
  · cases e
theorem RepB.str {i : Str} (h : RepB K own ads H b v (.str i)) : v = .str i := by
  rcases h with h | ⟨_, _, _, _, _, e, _⟩
  · cases h; rfl
  · cases e
theorem RepB.tup {ds : List D} (h : RepB K own ads H b v (.tup ds)) : ∃ a xs, v = .ref a ∧ TupAt K (Zo own ads) H a xs ∧ RepL K (Zo own ads) ads H xs ds := by
  rcases h with h | ⟨_, _, _, _, _, e, _⟩
  · cases h with
    | tup h1 h2 => exact ⟨_, _, rfl, h1, h2⟩
  · cases e
theorem RepB.lst {ds : List D} (h : RepB K own ads H b v (.lst ds)) : ∃ a xs, v = .ref a ∧ SqL K H a xs ∧ RepL K (Zo own ads) ads H xs ds := by
  rcases h with h | ⟨_, a, xs, ds', e1, e, e3, _, e5⟩
  · cases h with
    | lst h1 h2 => exact ⟨_, _, rfl, h1.sq, h2⟩
  · cases e
    exact ⟨a, xs, e1, .inl (.inl e3), e5⟩
theorem RepB.cell {k : Nat} (h : RepB K own ads H b v (.cell k)) : ∃ a, v = .ref a ∧ ads[k]? = some a := by
  rcases h with h | ⟨_, _, _, _, _, e, _⟩
  · cases h with
    | cell h1 => exact ⟨_, rfl, h1⟩
  · cases e
mutual
theorem Rep.dp {Z : Addr → Prop} : ∀ (d : D) (v : V), Rep K Z ads H v d → d.noCell = true → Dp K H v d.py
  | .non, _, h, _ => by cases h; exact .non
  | .bl b, _, h, _ => by cases h; exact .bl b
  | .int i, _, h, _ => by cases h; exact .int i
  | .str x, _, h, _ => by cases h; exact .str x
  | .tup ds, _, h, n => by
    cases h with
    | tup h1 h2 => exact .tup h1.sq (RepL.dp ds _ h2 n)
  | .lst ds, _, h, n => by
    cases h with
    | lst h1 h2 => exact .lst h1.sq (RepL.dp ds _ h2 n)
  | .cell k, _, h, n => by cases n
theorem RepL.dp {Z : Addr → Prop} : ∀ (ds : List D) (vs : List V), RepL K Z ads H vs ds → noCells ds = true → DpAll K H vs (pyAll ds)
  | [], _, h, _ => by cases h; exact .nil
  | d :: ds, _, h, n => by
    cases h with
    | cons h1 h2 =>
      have n' : (d.noCell && noCells ds) = true := n
      rw [Bool.and_eq_true] at n'
      exact .cons (Rep.dp d _ h1 n'.1) (RepL.dp ds _ h2 n'.2)
end
theorem RepB.dp (h : RepB K own ads H b v d) (n : d.noCell = true) : Dp K H v d.py := by
  rcases h with h | ⟨_, a, xs, ds, e1, e, e3, _, e5⟩
  · exact h.dp d v n
  · subst e1 e
    exact .lst (.inl (.inl e3)) (e5.dp ds xs n)
end

/-- what is wanted behind: the datum z, the cells μ' -/
abbrev Fin (K : PySem.W.Frag) (own : Addr → Prop) (ads : List Addr) (H : Hp) (b : Bool) (z : D) (μ' : Cells) (Q : VK) : Prop :=
  ∀ v H' ads', Ext ads H ads' H' → CellsR K own ads' H' μ' → RepB K own ads' H' b v z → Q v H'
section
variable {K : PySem.W.Frag} {own : Addr → Prop} {ads ads' : List Addr} {H H' : Hp} {μ : Cells} {b : Bool} {Q : VK}
theorem Fin.int {i : Int} (q : Fin K own ads H b (.int i) μ Q) (c : CellsR K own ads H μ) : Q (.int i) H := q _ _ _ .refl c (.inl (.int i))
theorem Fin.bl {i : Bool} (q : Fin K own ads H b (.bl i) μ Q) (c : CellsR K own ads H μ) : Q (.bl i) H := q _ _ _ .refl c (.inl (.bl i))
theorem Fin.str {i : Str} (q : Fin K own ads H b (.str i) μ Q) (c : CellsR K own ads H μ) : Q (.str i) H := q _ _ _ .refl c (.inl (.str i))
theorem Fin.same {v : V} {d : D} (q : Fin K own ads H b d μ Q) (c : CellsR K own ads H μ) (h : Rep K (Zo own ads) ads H v d) : Q v H := q _ _ _ .refl c (.inl h)
theorem Fin.newT {xs : List V} {ds : List D} (q : Fin K own ads H b (.tup ds) μ Q) (c : CellsR K own ads H μ) (h : RepL K (Zo own ads) ads H xs ds) : ∀ p, H p = none → Q (.ref p) (upd H p (.tup xs)) :=
  fun p hp => q _ _ _ (.fresh hp) (c.fresh hp) (.inl (Rep.newTup c hp h))
theorem Fin.newL {xs : List V} {ds : List D} (q : Fin K own ads H b (.lst ds) μ Q) (c : CellsR K own ads H μ) (h : RepL K (Zo own ads) ads H xs ds) : ∀ p, H p = none → Q (.ref p) (upd H p (.lst xs)) :=
  fun p hp => q _ _ _ (.fresh hp) (c.fresh hp) (.inl (Rep.newLst c hp h))
end

/-! ### operators -/
def rA (K : PySem.W.Frag) (o : Operator) : R2 := fun x y H Q => ∃ own ads μ b1 b2 dx dy dz, CellsR K own ads H μ ∧ RepB K own ads H b1 x dx ∧ RepB K own ads H b2 y dy ∧ opA o dx dy = some dz ∧ Fin K own ads H false dz μ Q
def rD (K : PySem.W.Frag) (o : Operator) : R2 := fun x y H Q => ∃ own ads μ b1 b2 dx dy dz, CellsR K own ads H μ ∧ RepB K own ads H b1 x dx ∧ RepB K own ads H b2 y dy ∧ opD o dx dy = some dz ∧ Fin K own ads H false dz μ Q
section
variable {X : Cx}
theorem op_subB : OpR X (binaryOp .Sub) (fun x y H Q => ∃ i j, x = .bl i ∧ y = .bl j ∧ Q (.int (b2i i - b2i j)) H) := by
  intro pins s σ H x y v u Q I rx ry h
  obtain ⟨i, j, rfl, rfl, q⟩ := h
  cases rx
  cases ry
  exact PyProof.Rows.sub_bool ⟨.int _, H, I.tok _, ⟨_, rfl⟩, q⟩
theorem op_fdivD : OpR X (binaryOp .FloorDiv) (rI (fun i j => divOk i j = true) fun i j => .int (i.fdiv j)) := by
  intro pins s σ H x y v u Q I rx ry h
  obtain ⟨i, j, e1, e2, hc, q⟩ := h
  unfold divOk at hc
  rw [Bool.or_eq_true, decide_eq_true_eq, decide_eq_true_eq] at hc
  rcases hc with hc | hc
  · exact op_fdivN pins s σ H x y v u Q I rx ry ⟨i, j, e1, e2, hc, q⟩
  · refine op_fdivW pins s σ H x y v u Q I rx ry ⟨i, j, e1, e2, hc, ?_⟩
    have e : i.fdiv j = i / j := Int.fdiv_eq_ediv_of_nonneg i (by omega)
    show Q (V.int (i / j)) H
    rw [← e]
    exact q
theorem mulOk_ok {i j : Int} (h : mulOk i j = true) : CMulW i j := by
  unfold mulOk at h
  have z := of_decide_eq_true h
  exact z
theorem powOk_ok {i j : Int} (h : powOk i j = true) : CPow i j := by
  unfold powOk at h
  have z := of_decide_eq_true h
  exact z
/-- two lists, whatever kind of list they are -/
theorem op_catL : OpR X (binaryOp .Add) (fun x y H Q => ∃ l b xs zs, x = .ref l ∧ y = .ref b ∧ SqL X.K H l xs ∧ SqL X.K H b zs ∧ xs.length + zs.length ≤ sizeLine ∧ ∀ p, H p = none → Q (.ref p) (upd H p (.lst (xs ++ zs)))) := by
  intro pins s σ H x y v u Q I rx ry h
  obtain ⟨l, b, xs, zs, rfl, rfl, hH, hB, hz, q⟩ := h
  cases rx
  cases ry
  obtain ⟨its, r, ⟨⟨cls, dd, data, sls⟩, n, e, hc, hdn, hdt⟩, hl⟩ := I.list hH
  obtain ⟨its2, r2, ⟨⟨cls2, dd2, data2, sls2⟩, n2, e2, hc2, hdn2, hdt2⟩, hl2⟩ := I.list hB
  simp only at hc hdt hc2 hdt2
  subst hc hdt hc2 hdt2
  have q1 := r.length
  have q2 := r2.length
  have ea : its.toArray ++ its2.toArray = (its ++ its2).toArray := by simp
  refine concat_meets ⟨_, e, rfl⟩ ⟨_, e2, rfl⟩ noFill_list_add seq_list_add PySem.F.slot_list_add PySem.F.entry_list_add (PySem.F.args_list_add_2 _ _) (PyProof.Rows.list_addW l b its.toArray its2.toArray n n2 dd dd2 sls sls2 (by rw [List.size_toArray, List.size_toArray]; omega)) ⟨e, e2, ?_⟩
  rw [ea]
  exact ⟨.ref _, _, I.lnew (t' := s.toks) (r.append r2) (by rw [List.length_append]; omega), rfl, q _ I.fresh⟩
theorem RepL.flat {K : PySem.W.Frag} {Z : Addr → Prop} {ads : List Addr} {H : Hp} {xs : List V} {ds : List D} (l : RepL K Z ads H xs ds) : ∀ n : Nat, RepL K Z ads H (List.replicate n xs).flatten (List.replicate n ds).flatten
  | 0 => .nil
  | n + 1 => by
    rw [List.replicate_succ, List.replicate_succ, List.flatten_cons, List.flatten_cons]
    exact l.append (l.flat n)
theorem op_A (o : Operator) : OpR X (binaryOp o) (rA X.K o) := by
  intro pins s σ H x y v u Q I rx ry h
  obtain ⟨own, ads, μ, b1, b2, dx, dy, dz, c, h1, h2, hz, q⟩ := h
  unfold opA at hz
  split at hz
  · cases hz; exact op_add pins s σ H x y v u Q I rx ry ⟨_, _, h1.int, h2.int, q.int c⟩
  · split at hz
    · cases hz; exact op_add_str pins s σ H x y v u Q I rx ry ⟨_, _, h1.str, h2.str, by assumption, q.str c⟩
    · cases hz
  · split at hz
    · rename_i hl
      cases hz
      obtain ⟨a1, xs, e1, t1, l1⟩ := h1.tup
      obtain ⟨a2, ys, e2, t2, l2⟩ := h2.tup
      refine op_catA pins s σ H x y v u Q I rx ry ⟨a1, a2, xs, ys, e1, e2, t1.sq, t2.sq, by rw [l1.length, l2.length]; exact hl, fun e => ?_, fun _ e => ?_, fun _ _ => q.newT c (l1.append l2)⟩
      · subst e
        cases l1
        exact q.same c (.tup t2 l2)
      · subst e
        cases l2
        rw [List.append_nil] at q
        exact q.same c (.tup t1 l1)
    · cases hz
  · cases hz; exact op_sub pins s σ H x y v u Q I rx ry ⟨_, _, h1.int, h2.int, q.int c⟩
  · cases hz; exact op_subB pins s σ H x y v u Q I rx ry ⟨_, _, h1.bl, h2.bl, q.int c⟩
  · split at hz
    · rename_i hm
      cases hz; exact op_mulW pins s σ H x y v u Q I rx ry ⟨_, _, h1.int, h2.int, mulOk_ok hm, q.int c⟩
    · cases hz
  · split at hz
    · cases hz; exact op_fdivD pins s σ H x y v u Q I rx ry ⟨_, _, h1.int, h2.int, by assumption, q.int c⟩
    · cases hz
  · split at hz
    · cases hz
    · cases hz; exact op_modN pins s σ H x y v u Q I rx ry ⟨_, _, h1.int, h2.int, by assumption, q.int c⟩
  · split at hz
    · rename_i hm
      cases hz; exact op_pow pins s σ H x y v u Q I rx ry ⟨_, _, h1.int, h2.int, powOk_ok hm, q.int c⟩
    · cases hz
  · split at hz
    · rename_i hm
      cases hz; exact op_shl pins s σ H x y v u Q I rx ry ⟨_, _, h1.int, h2.int, powOk_ok hm, q.int c⟩
    · cases hz
  · cases hz
def rRepS : R2 := fun x y H Q => ∃ (a : Str) (k : Int), x = .str a ∧ y = .int k ∧ 0 ≤ k ∧ k ≤ 1000 ∧ a.length ≤ 1000 ∧ Q (.str (repS a k)) H
theorem op_repS : OpR X (binaryOp .Mult) rRepS := by
  intro pins s σ H x y v u Q I rx ry h
  obtain ⟨a, k, rfl, rfl, h0, h1, h2, q⟩ := h
  obtain ⟨t, rfl⟩ := rx
  obtain ⟨t', rfl⟩ := ry
  have c0 : (decide (k < -(2 ^ 63 : Int)) || decide (k ≥ 2 ^ 63)) = false := by
    rw [decide_eq_false (by omega), decide_eq_false (by omega)] <;> rfl
  have m1 : a.length * k.toNat ≤ 1000 * 1000 := Nat.mul_le_mul h2 (by omega)
  have tl : Builtin.Str.tooLong (a.length * k.toNat) = false := by
    unfold Builtin.Str.tooLong
    rw [sizeLine_eq]
    exact decide_eq_false (by omega)
  refine PySem.P.mul_str c0 (fun h _ => ?_) (fun _ _ => tl) ?_
  · have : (a.length : Int) ≤ (2 ^ 63 - 1) / k := by
      rw [Int.le_ediv_iff_mul_le (by omega)]
      have : (a.length : Int) * k ≤ 1000 * k := Int.mul_le_mul_of_nonneg_right (by omega) h0
      omega
    omega
  · unfold repS at q
    split
    · rename_i hk
      rw [if_pos hk] at q
      exact ⟨by decide, .str Str.empty, H, I.tok _, ⟨_, rfl⟩, q⟩
    · rename_i hk
      rw [if_neg hk] at q
      split
      · rename_i hb
        rw [if_pos hb] at q
        exact ⟨.str a, H, I, ⟨_, rfl⟩, q⟩
      · rename_i hb
        rw [if_neg hb] at q
        refine ⟨?_, .str _, H, I.tok _, ⟨_, rfl⟩, q⟩
        have e : ((List.replicate k.toNat a.cps).foldl (· ++ ·) #[]).size = k.toNat * a.cps.size := by
          have go : ∀ (m : Nat) (b : Array Nat), ((List.replicate m a.cps).foldl (· ++ ·) b).size = b.size + m * a.cps.size := by
            intro m
            induction m with
            | zero => intro b; simp
            | succ m ih => intro b; rw [List.replicate_succ, List.foldl_cons, ih, Array.size_append, Nat.succ_mul]; omega
          rw [go]
          simp
        show ((List.replicate k.toNat a.cps).foldl (· ++ ·) #[]).size ≤ sizeLine
        rw [e, sizeLine_eq]
        have : a.cps.size = a.length := rfl
        rw [this, Nat.mul_comm]
        omega
theorem op_D (o : Operator) : OpR X (binaryOp o) (rD X.K o) := by
  intro pins s σ H x y v u Q I rx ry h
  obtain ⟨own, ads, μ, b1, b2, dx, dy, dz, c, h1, h2, hz, q⟩ := h
  unfold opD at hz
  split at hz
  · rename_i z hA
    cases hz
    exact op_A o pins s σ H x y v u Q I rx ry ⟨own, ads, μ, b1, b2, dx, dy, _, c, h1, h2, hA, q⟩
  · unfold opL at hz
    split at hz
    · split at hz
      · rename_i hl
        cases hz
        obtain ⟨a1, xs, e1, t1, l1⟩ := h1.lst
        obtain ⟨a2, ys, e2, t2, l2⟩ := h2.lst
        exact op_catL pins s σ H x y v u Q I rx ry ⟨a1, a2, xs, ys, e1, e2, t1, t2, by rw [l1.length, l2.length]; exact hl, q.newL c (l1.append l2)⟩
      · cases hz
    · split at hz
      · rename_i hl
        cases hz
        have e1 := h1.str
        have ez := h2.int
        exact op_repS pins s σ H x y v u Q I rx ry ⟨_, _, e1, ez, hl.1, hl.2.1, hl.2.2, q.str c⟩
      · cases hz
    · split at hz
      · rename_i hl
        cases hz
        obtain ⟨a1, xs, e1, t1, l1⟩ := h1.tup
        have ez := h2.int
        exact op_repT pins s σ H x y v u Q I rx ry ⟨a1, _, xs, e1, ez, t1.sq, fun z => hl.1 (by subst z; cases l1; rfl), hl.2.1, hl.2.2.1, by rw [l1.length]; exact hl.2.2.2, q.newT c (l1.flat _)⟩
      · cases hz
    · cases hz
def rN (K : PySem.W.Frag) : V → Hp → VK → Prop := fun x H Q => ∃ own ads μ b1 dx dz, CellsR K own ads H μ ∧ RepB K own ads H b1 x dx ∧ negD dx = some dz ∧ Fin K own ads H false dz μ Q
theorem un_D : UnR X (unaryOp .USub) (rN X.K) := by
  intro pins s σ H x v Q I rx h
  obtain ⟨own, ads, μ, b1, dx, dz, c, h1, hz, q⟩ := h
  unfold negD at hz
  split at hz
  · cases hz; exact un_neg pins s σ H x v Q I rx ⟨_, h1.int, q.int c⟩
  · cases hz
end

/-! ### comparisons -/
theorem eqS_scal {K : PySem.W.Frag} {own : Addr → Prop} {ads : List Addr} {H : Hp} {b1 b2 : Bool} {x y : V} {dx dy : D} (h1 : RepB K own ads H b1 x dx) (h2 : RepB K own ads H b2 y dy) (h : scalOk dx dy = true) :
    scal x y = true ∧ decide (x = y) = eqS dx dy := by
  cases dx <;> cases dy <;> first
    | (exfalso; revert h; decide)
    | (exfalso; revert h; simp [scalOk, D.scal]; done)
    | skip
  all_goals first | (have e1 := h1.non; subst e1) | (have e1 := h1.int; subst e1) | (have e1 := h1.bl; subst e1) | (have e1 := h1.str; subst e1)
  all_goals first | (have e2 := h2.non; subst e2) | (have e2 := h2.int; subst e2) | (have e2 := h2.bl; subst e2) | (have e2 := h2.str; subst e2)
  all_goals refine ⟨rfl, ?_⟩
  all_goals first | rfl | (simp [eqS]; done) | (simp only [eqS]; first | exact dec_int | exact dec_bl | exact dec_str)
theorem eqS_V {K : PySem.W.Frag} {own : Addr → Prop} {ads : List Addr} {H : Hp} {b1 b2 : Bool} {x y : V} {dx dy : D} (h1 : RepB K own ads H b1 x dx) (h2 : RepB K own ads H b2 y dy) (h : scalOk dx dy = true) :
    flatV x = true ∧ flatV y = true ∧ eqV x y = eqS dx dy := by
  cases dx <;> cases dy <;> first
    | (exfalso; revert h; decide)
    | (exfalso; revert h; simp [scalOk, D.scal]; done)
    | skip
  all_goals first | (have e1 := h1.non; subst e1) | (have e1 := h1.int; subst e1) | (have e1 := h1.bl; subst e1) | (have e1 := h1.str; subst e1)
  all_goals first | (have e2 := h2.non; subst e2) | (have e2 := h2.int; subst e2) | (have e2 := h2.bl; subst e2) | (have e2 := h2.str; subst e2)
  all_goals refine ⟨rfl, rfl, ?_⟩
  all_goals first | rfl | (simp [eqS, eqV]; done)
theorem inD_V {K : PySem.W.Frag} {own : Addr → Prop} {ads : List Addr} {H : Hp} {b1 : Bool} {x : V} {dx : D} (h1 : RepB K own ads H b1 x dx) : ∀ {ds : List D} {xs : List V} {r : Bool}, RepL K (Zo own ads) ads H xs ds → inD dx ds = some r → ds ≠ [] →
    flatV x = true ∧ xs.all flatV = true ∧ inV x xs = r
  | [], _, _, _, _, n => absurd rfl n
  | d :: ds, _, r, h, e, _ => by
    cases h with
    | @cons v _ vs _ hv hl =>
      unfold inD at e
      by_cases hs : scalOk d dx = true
      · rw [if_pos hs] at e
        obtain ⟨f1, f2, f3⟩ := eqS_V (RepB.of (b := false) hv) h1 hs
        by_cases he : eqS d dx = true
        · rw [if_pos he] at e
          split at e
          · rename_i ha
            cases e
            refine ⟨f2, ?_, ?_⟩
            · have all : ∀ (ds : List D) (vs : List V), RepL K (Zo own ads) ads H vs ds → ds.all (fun z => scalOk z dx) = true → vs.all flatV = true := by
                intro ds
                induction ds with
                | nil => intro vs h _; cases h; rfl
                | cons d' ds ih =>
                  intro vs h ha
                  cases h with
                  | cons g1 g2 =>
                    rw [List.all_cons, Bool.and_eq_true] at ha
                    rw [List.all_cons, Bool.and_eq_true]
                    exact ⟨(eqS_V (RepB.of (b := false) g1) h1 ha.1).1, ih _ g2 ha.2⟩
              exact all _ _ (.cons hv hl) ha
            · show (List.any (v :: vs) fun y => eqV y x) = true
              rw [List.any_cons, f3, he]
              rfl
          · cases e
        · rw [if_neg he] at e
          by_cases hn : ds = []
          · subst hn
            cases hl
            unfold inD at e
            have e : r = false := by
              split at e
              · cases e; rfl
              · cases e
            subst e
            refine ⟨f2, by simp [f1], ?_⟩
            show (List.any [v] fun y => eqV y x) = false
            rw [List.any_cons, f3]
            simpa using he
          · obtain ⟨g1, g2, g3⟩ := inD_V h1 hl e hn
            refine ⟨g1, by rw [List.all_cons, f1, g2]; rfl, ?_⟩
            show (List.any (v :: vs) fun y => eqV y x) = r
            rw [List.any_cons, f3]
            have he' : eqS d dx = false := by simpa using he
            rw [he', Bool.false_or]
            exact g3
      · rw [if_neg hs] at e
        cases e
def rCm (K : PySem.W.Frag) (o : CmpOp) : R2 := fun x y H Q => ∃ own ads μ b1 b2 dx dy r, CellsR K own ads H μ ∧ RepB K own ads H b1 x dx ∧ RepB K own ads H b2 y dy ∧ cmpD o dx dy = some r ∧ Q (.bl r) H
section
variable {X : Cx}
theorem eq_D {own : Addr → Prop} {ads : List Addr} {H : Hp} {b1 b2 : Bool} {x y : V} {dx dy : D} {r : Bool} (h1 : RepB X.K own ads H b1 x dx) (h2 : RepB X.K own ads H b2 y dy) (h : eqD dx dy = some r) {Q : VK} (q : Q (.bl r) H) :
    rEq x y H Q ∨ rEqD X.K x y H Q := by
  unfold eqD at h
  split at h
  · rename_i hs
    cases h
    obtain ⟨g1, g2⟩ := eqS_scal h1 h2 hs
    exact .inl ⟨g1, by rw [g2]; exact q⟩
  · split at h
    · rename_i hs
      cases h
      rw [Bool.and_eq_true] at hs
      obtain ⟨s1, s2⟩ := hs
      unfold shOk at s1 s2
      rw [Bool.and_eq_true] at s1 s2
      exact .inr ⟨_, _, h1.dp s1.1, h2.dp s2.1, s1.2, s2.2, q⟩
    · cases h
theorem ne_D {own : Addr → Prop} {ads : List Addr} {H : Hp} {b1 b2 : Bool} {x y : V} {dx dy : D} {r : Bool} (h1 : RepB X.K own ads H b1 x dx) (h2 : RepB X.K own ads H b2 y dy) (h : eqD dx dy = some r) {Q : VK} (q : Q (.bl (!r)) H) :
    rNe x y H Q ∨ rNeD X.K x y H Q := by
  unfold eqD at h
  split at h
  · rename_i hs
    cases h
    obtain ⟨g1, g2⟩ := eqS_scal h1 h2 hs
    exact .inl ⟨g1, by rw [g2]; exact q⟩
  · split at h
    · rename_i hs
      cases h
      rw [Bool.and_eq_true] at hs
      obtain ⟨s1, s2⟩ := hs
      unfold shOk at s1 s2
      rw [Bool.and_eq_true] at s1 s2
      exact .inr ⟨_, _, h1.dp s1.1, h2.dp s2.1, s1.2, s2.2, q⟩
    · cases h
theorem isNon_V {own : Addr → Prop} {ads : List Addr} {H : Hp} {b1 : Bool} {x : V} {dx : D} (h1 : RepB X.K own ads H b1 x dx) : decide (x = V.non) = isNon dx := by
  cases dx with
  | non => rw [h1.non]; rfl
  | bl b => rw [h1.bl]; rfl
  | int i => rw [h1.int]; rfl
  | str s => rw [h1.str]; rfl
  | tup ds => obtain ⟨a, xs, e, _⟩ := h1.tup; rw [e]; rfl
  | lst ds => obtain ⟨a, xs, e, _⟩ := h1.lst; rw [e]; rfl
  | cell k => obtain ⟨a, e, _⟩ := h1.cell; rw [e]; rfl
theorem flat_V {own : Addr → Prop} {ads : List Addr} {H : Hp} {b1 : Bool} {x : V} {dx : D} (h1 : RepB X.K own ads H b1 x dx) (h : dx.flat = true) : flatV x = true := by
  cases dx with
  | non => rw [h1.non]; rfl
  | bl b => rw [h1.bl]; rfl
  | int i => rw [h1.int]; rfl
  | str s => rw [h1.str]; rfl
  | _ => cases h
/-- x in xs, where it is said; of the empty one if x is flat -/
theorem in_D {own : Addr → Prop} {ads : List Addr} {H : Hp} {b1 : Bool} {x : V} {dx : D} {ds : List D} {xs : List V} {r : Bool} (h1 : RepB X.K own ads H b1 x dx) (l : RepL X.K (Zo own ads) ads H xs ds) (h : inD dx ds = some r) :
    flatV x = true ∧ xs.all flatV = true ∧ inV x xs = r := by
  by_cases hn : ds = []
  · subst hn
    cases l
    unfold inD at h
    split at h
    · rename_i hf
      cases h
      exact ⟨flat_V h1 hf, rfl, rfl⟩
    · cases h
  · exact inD_V h1 l h hn
theorem inX_V {own : Addr → Prop} {ads : List Addr} {H : Hp} {b1 b2 : Bool} {x y : V} {dx : D} {ds : List D} {r : Bool} (h1 : RepB X.K own ads H b1 x dx) (h2 : RepB X.K own ads H b2 y (.lst ds)) (h : inX dx ds = some r) :
    (∃ a xs, y = .ref a ∧ SqL X.K H a xs ∧ flatV x = true ∧ xs.all flatV = true ∧ inV x xs = r) ∨ ∃ d ds, Dp X.K H x d ∧ Dp X.K H y (.list ds) ∧ SeqAt.shaped d = true ∧ SeqAt.shaped (.list ds) = true ∧ (ds.any fun z => PyData.eqv z d) = r := by
  unfold inX at h
  split at h
  · rename_i r' hr
    cases h
    obtain ⟨a, xs, e, t, l⟩ := h2.lst
    obtain ⟨g1, g2, g3⟩ := in_D h1 l hr
    exact .inl ⟨a, xs, e, t, g1, g2, g3⟩
  · split at h
    · rename_i hs
      cases h
      rw [Bool.and_eq_true] at hs
      obtain ⟨s1, s2⟩ := hs
      unfold shOk at s1 s2
      rw [Bool.and_eq_true] at s1 s2
      exact .inr ⟨_, _, h1.dp s1.1, h2.dp s2.1, s1.2, s2.2, rfl⟩
    · cases h
theorem cm_D (hu : X.A.units + 65 < cLine) (o : CmpOp) : OpR X (compareOp o) (rCm X.K o) := by
  intro pins s σ H x y v u Q I rx ry h
  obtain ⟨own, ads, μ, b1, b2, dx, dy, r, c, h1, h2, hz, q⟩ := h
  unfold cmpD at hz
  split at hz
  · rcases eq_D h1 h2 hz q with h | h
    · exact op_eq pins s σ H x y v u Q I rx ry h
    · exact op_eqD (Nat.lt_of_succ_lt hu) pins s σ H x y v u Q I rx ry h
  · obtain ⟨r', hr, e⟩ := Option.map_eq_some_iff.mp hz
    subst e
    rcases ne_D h1 h2 hr q with h | h
    · exact op_ne pins s σ H x y v u Q I rx ry h
    · exact op_neD (Nat.lt_of_succ_lt hu) pins s σ H x y v u Q I rx ry h
  · cases hz; exact op_lt pins s σ H x y v u Q I rx ry ⟨_, _, h1.int, h2.int, q⟩
  · cases hz; exact op_le pins s σ H x y v u Q I rx ry ⟨_, _, h1.int, h2.int, q⟩
  · cases hz; exact op_gt pins s σ H x y v u Q I rx ry ⟨_, _, h1.int, h2.int, q⟩
  · cases hz; exact op_ge pins s σ H x y v u Q I rx ry ⟨_, _, h1.int, h2.int, q⟩
  · cases hz; exact op_isN pins s σ H x y v u Q I rx ry ⟨h2.non, by rw [isNon_V h1]; exact q⟩
  · cases hz; exact op_notN pins s σ H x y v u Q I rx ry ⟨h2.non, by rw [isNon_V h1]; exact q⟩
  · cases hz; exact op_is_bl pins s σ H x y v u Q I rx ry ⟨_, _, h1.bl, h2.bl, q⟩
  · cases hz; exact op_isnot_bl pins s σ H x y v u Q I rx ry ⟨_, _, h1.bl, h2.bl, q⟩
  · cases hz; exact op_in_str pins s σ H x y v u Q I rx ry ⟨_, _, h1.str, h2.str, q⟩
  · obtain ⟨a, xs, e, t, l⟩ := h2.tup
    obtain ⟨g1, g2, g3⟩ := in_D h1 l hz
    exact op_in_seq pins s σ H x y v u Q I rx ry ⟨a, xs, e, .inr t.sq, g1, g2, by rw [if_neg Bool.false_ne_true, g3]; exact q⟩
  · rcases inX_V h1 h2 hz with ⟨a, xs, e, t, g1, g2, g3⟩ | ⟨d, ds, g1, g2, g3, g4, g5⟩
    · exact op_in_seq pins s σ H x y v u Q I rx ry ⟨a, xs, e, .inl t, g1, g2, by rw [if_neg Bool.false_ne_true, g3]; exact q⟩
    · exact op_inD hu pins s σ H x y v u Q I rx ry ⟨d, ds, g1, g2, g3, g4, by rw [g5]; exact q⟩
  · obtain ⟨r', hr, e⟩ := Option.map_eq_some_iff.mp hz
    subst e
    obtain ⟨a, xs, e, t, l⟩ := h2.tup
    obtain ⟨g1, g2, g3⟩ := in_D h1 l hr
    exact op_notIn_seq pins s σ H x y v u Q I rx ry ⟨a, xs, e, .inr t.sq, g1, g2, by rw [if_pos rfl, g3]; exact q⟩
  · obtain ⟨r', hr, e⟩ := Option.map_eq_some_iff.mp hz
    subst e
    rcases inX_V h1 h2 hr with ⟨a, xs, e, t, g1, g2, g3⟩ | ⟨d, ds, g1, g2, g3, g4, g5⟩
    · exact op_notIn_seq pins s σ H x y v u Q I rx ry ⟨a, xs, e, .inl t, g1, g2, by rw [if_pos rfl, g3]; exact q⟩
    · exact op_notInD hu pins s σ H x y v u Q I rx ry ⟨d, ds, g1, g2, g3, g4, by rw [g5]; exact q⟩
  · cases hz
end
end FM

set_option Elab.async false
set_option linter.all false
set_option maxRecDepth 100000
set_option maxHeartbeats 4000000
/-! Ev4: subscripts, slices, built-ins, methods. -/
namespace FM
open PySem PySem.Spec PyProof.Rows L2

/-! ### subscripts -/
theorem atI_rep {K : PySem.W.Frag} {Z : Addr → Prop} {ads : List Addr} {H : Hp} {xs : List V} {ds : List D} {i : Int} {d : D} (l : RepL K Z ads H xs ds) (h : atI ds i = some d) : ∃ v, atI xs i = some v ∧ Rep K Z ads H v d := by
  unfold atI at h ⊢
  rw [l.length]
  cases e : ixN ds.length i with
  | none => rw [e] at h; cases h
  | some j =>
    rw [e] at h
    obtain ⟨v, h1, h2⟩ := l.get (show ds[j]? = some d from h)
    exact ⟨v, h1, h2⟩
theorem valC_rep {K : PySem.W.Frag} {Z : Addr → Prop} {ads : List Addr} {H : Hp} {k : Key} : ∀ {kvs : List (Key × V)} {c : Cell} {d : D}, RepKV K Z ads H kvs c → valC c k = some d → ∃ v, valV kvs k = some v ∧ Rep K Z ads H v d
  | [], [], _, _, h => by cases h
  | [], _ :: _, _, r, _ => by cases r.1
  | _ :: _, [], _, r, _ => by cases r.1
  | (k1, v1) :: kvs, (k2, d2) :: c, d, ⟨r1, r2⟩, h => by
    have r1' : k1 :: kvs.map (·.1) = k2 :: c.map (·.1) := r1
    have r2' : RepL K Z ads H (v1 :: kvs.map (·.2)) (d2 :: c.map (·.2)) := r2
    injection r1' with e1 e2
    subst e1
    cases r2' with
    | cons g1 g2 =>
      by_cases e : k1 = k
      · refine ⟨v1, valV_pos e, ?_⟩
        have z : valC ((k1, d2) :: c) k = some d2 := by simp [valC, List.find?_cons, e]
        rw [z] at h
        cases h
        exact g1
      · have z : valC ((k1, d2) :: c) k = valC c k := by simp [valC, List.find?_cons, e]
        rw [z] at h
        rw [valV_neg (p := (k1, v1)) e]
        exact valC_rep ⟨e2, g2⟩ h
theorem keyD_V {K : PySem.W.Frag} {own : Addr → Prop} {ads : List Addr} {H : Hp} {b : Bool} {v : V} {d : D} {k : Key} (h : RepB K own ads H b v d) (e : keyD d = some k) : v = kV k := by
  cases d with
  | int i => cases e; exact h.int
  | str s => cases e; exact h.str
  | _ => cases e
def rIxD' (K : PySem.W.Frag) : R2 := fun x y H Q => ∃ own ads μ b1 b2 dx dy dz, CellsR K own ads H μ ∧ RepB K own ads H b1 x dx ∧ RepB K own ads H b2 y dy ∧ ixD μ dx dy = some dz ∧ Fin K own ads H false dz μ Q
section
variable {X : Cx}
theorem ix_dict (hu : X.A.units + 1 < cLine) : IxR X (fun x y H Q => ∃ a v, x = .ref a ∧ DGet H a y (some v) ∧ Q v H) := by
  intro value slice pins s σ H x y v u Q I rx ry h hs
  obtain ⟨a, w, rfl, g, q⟩ := h
  obtain rfl : v = Value.ref a := rx
  unfold subscriptTail
  have hT := dict_typeIs I g
  refine wpAny_bind ?_
  rw [getitemInPython_of_ne hT.not_modules]
  refine wpAny_bind (wpAny_specialOf hT PySem.F.slot_dict_getitem.lookup ?_)
  have fin : wpAny (model X.prog X.w) X.A (subscripted slice false (.ref a) u) (fun r s₃ => wpAny (model X.prog X.w) X.A (letTemporaryGo value (.ref a) r >>= fun _ => pure r) (EP X pins σ Q) X.xe s₃) X.xe s := by
    rw [hs]
    exact wpAny_operating (d_getItem hu I g ry fun w' s' I' r' => wpAny_bind (wpAny_letTemporaryGo (wpAny_pure ⟨w, H, I', r', q⟩)))
  first
    | exact wpAny_pure (wpAny_bind fin)
    | exact wpAny_bind (wpAny_pure (wpAny_bind fin))
    | exact wpAny_bind fin
theorem ix_D (hu : X.A.units + 1 < cLine) : IxR X (rIxD' X.K) := by
  intro value slice pins s σ H x y v u Q I rx ry h hs
  obtain ⟨own, ads, μ, b1, b2, dx, dy, dz, c, h1, h2, hz, q⟩ := h
  unfold ixD at hz
  split at hz
  · obtain ⟨a, xs, e, t, l⟩ := h1.lst
    obtain ⟨w, g1, g2⟩ := atI_rep l hz
    exact ix_list value slice pins s σ H x y v u Q I rx ry ⟨a, xs, _, w, e, h2.int, t, g1, q.same c g2⟩ hs
  · obtain ⟨a, xs, e, t, l⟩ := h1.tup
    obtain ⟨w, g1, g2⟩ := atI_rep l hz
    exact ix_tup value slice pins s σ H x y v u Q I rx ry ⟨a, xs, _, w, e, h2.int, t.sq, g1, q.same c g2⟩ hs
  · split at hz
    · rename_i hl
      obtain ⟨c', hc, e⟩ := Option.map_eq_some_iff.mp hz
      subst e
      exact ix_str value slice pins s σ H x y v u Q I rx ry ⟨_, _, c', h1.str, h2.int, hl, hc, q.str c⟩ hs
    · cases hz
  · split at hz
    · rename_i k _ _ cl qk e1 e2
      obtain ⟨a, e, ha⟩ := h1.cell
      obtain ⟨kvs, kds, m1, m2, m3⟩ := c.at k a ha
      rw [e1] at m1
      cases m1
      obtain ⟨w, g1, g2⟩ := valC_rep m3 hz
      refine ix_dict hu value slice pins s σ H x y v u Q I rx ry ⟨a, w, e, ?_, q.same c g2⟩ hs
      rw [keyD_V h2 e2, ← g1]
      exact DGet.k m2
    · cases hz
  · cases hz
/-! ### slices -/
theorem cutV_D {α : Type} (xs : List V) (ys : List α) (e : xs.length = ys.length) (lo hi : Option Int) : cutV xs lo hi = cutD xs lo hi := rfl
theorem RepL.cut {K : PySem.W.Frag} {Z : Addr → Prop} {ads : List Addr} {H : Hp} {xs : List V} {ds : List D} (l : RepL K Z ads H xs ds) (lo hi : Option Int) : RepL K Z ads H (cutV xs lo hi) (cutD ds lo hi) := by
  unfold cutV cutD
  rw [l.length]
  exact (l.drop _).take _
theorem cutD_whole {α : Type} (xs : List α) (lo hi : Option Int) (h : HT.sIx xs.length 0 lo = 0 ∧ HT.sIx xs.length xs.length hi = xs.length) : cutD xs lo hi = xs := by
  unfold cutD
  rw [h.1, h.2]
  simp
def rSlD (K : PySem.W.Frag) : V → Option Int → Option Int → Hp → VK → Prop := fun x lo hi H Q => ∃ own ads μ b1 dx dz, CellsR K own ads H μ ∧ RepB K own ads H b1 x dx ∧ slD dx lo hi = some dz ∧ Fin K own ads H false dz μ Q
theorem sl_D : SlR X (rSlD X.K) := by
  intro pins s σ H x v vl vu lo hi sl Q I rx hs pl pu h
  obtain ⟨own, ads, μ, b1, dx, dz, c, h1, hz, q⟩ := h
  unfold slD at hz
  split at hz
  · cases hz
    obtain ⟨a, xs, e, t, l⟩ := h1.tup
    refine sl_tupA pins s σ H x v vl vu lo hi sl Q I rx hs pl pu ⟨a, xs, e, t.sq, fun w => ?_, fun w => q.newT c (l.cut lo hi)⟩
    rw [l.length] at w
    rw [cutD_whole _ lo hi w] at q
    exact q.same c (.tup t l)
  · cases hz
    obtain ⟨a, xs, e, t, l⟩ := h1.lst
    exact sl_list pins s σ H x v vl vu lo hi sl Q I rx hs pl pu ⟨a, xs, e, t, q.newL c (l.cut lo hi)⟩
  · split at hz
    · rename_i hl
      cases hz
      exact sl_str pins s σ H x v vl vu lo hi sl Q I rx hs pl pu ⟨_, h1.str, hl, by
        have z := q.str c
        unfold cutD at z
        exact z⟩
    · cases hz
  · cases hz
end

/-! ### built-ins -/
theorem asBls_ok : ∀ {ds : List D} {bs : List Bool}, asBls ds = some bs → ds = bs.map D.bl
  | [], _, h => by cases h; rfl
  | d :: ds, bs, h => by
    cases d with
    | bl b =>
      obtain ⟨r, h1, e⟩ := Option.map_eq_some_iff.mp (show (asBls ds).map (b :: ·) = some bs from h)
      subst e
      rw [asBls_ok h1]
      rfl
    | _ => cases h
theorem asInts_ok : ∀ {ds : List D} {bs : List Int}, asInts ds = some bs → ds = bs.map D.int
  | [], _, h => by cases h; rfl
  | d :: ds, bs, h => by
    cases d with
    | int b =>
      obtain ⟨r, h1, e⟩ := Option.map_eq_some_iff.mp (show (asInts ds).map (b :: ·) = some bs from h)
      subst e
      rw [asInts_ok h1]
      rfl
    | _ => cases h
theorem asStrs_ok : ∀ {ds : List D} {bs : List Str}, asStrs ds = some bs → ds = bs.map D.str
  | [], _, h => by cases h; rfl
  | d :: ds, bs, h => by
    cases d with
    | str b =>
      obtain ⟨r, h1, e⟩ := Option.map_eq_some_iff.mp (show (asStrs ds).map (b :: ·) = some bs from h)
      subst e
      rw [asStrs_ok h1]
      rfl
    | _ => cases h
def Bi.name : Bi → Str
  | .len => "len" | .tuple => "tuple" | .list => "list" | .all => "all" | .any => "any" | .abs => "abs" | .int => "int" | .str => "str" | .max2 => "max" | .min2 => "min" | .sum => "sum" | .sorted => "sorted"
def Bi.val : Bi → Value
  | .len => .builtin "len" | .tuple => .type "tuple" | .list => .type "list" | .all => .builtin "all" | .any => .builtin "any" | .abs => .builtin "abs" | .int => .type "int" | .str => .type "str"
  | .max2 => .builtin "max" | .min2 => .builtin "min" | .sum => .builtin "sum" | .sorted => .builtin "sorted"
theorem Bi.boot (b : Bi) : bootBuiltins b.name = some b.val := by cases b <;> decide +kernel
/-- several values -/
def RepBL (K : PySem.W.Frag) (own : Addr → Prop) (ads : List Addr) (H : Hp) : List V → List D → Prop
  | [], [] => True
  | v :: vs, d :: ds => RepB K own ads H true v d ∧ RepBL K own ads H vs ds
  | _, _ => False
theorem RepBL.one {K : PySem.W.Frag} {own : Addr → Prop} {ads : List Addr} {H : Hp} {vs : List V} {d : D} (h : RepBL K own ads H vs [d]) : ∃ v, vs = [v] ∧ RepB K own ads H true v d := by
  cases vs with
  | nil => exact h.elim
  | cons v vs =>
    cases vs with
    | nil => exact ⟨v, rfl, h.1⟩
    | cons _ _ => exact h.2.elim
theorem RepBL.two {K : PySem.W.Frag} {own : Addr → Prop} {ads : List Addr} {H : Hp} {vs : List V} {d e : D} (h : RepBL K own ads H vs [d, e]) : ∃ v w, vs = [v, w] ∧ RepB K own ads H true v d ∧ RepB K own ads H true w e := by
  cases vs with
  | nil => exact h.elim
  | cons v vs =>
    obtain ⟨w, e, h2⟩ := RepBL.one h.2
    subst e
    exact ⟨v, w, rfl, h.1, h2⟩
theorem RepBL.ext {K : PySem.W.Frag} {own : Addr → Prop} {ads ads' : List Addr} {H H' : Hp} {μ : Cells} (c : CellsR K own ads H μ) (e : Ext ads H ads' H') : ∀ {vs : List V} {ds : List D}, RepBL K own ads H vs ds → RepBL K own ads' H' vs ds
  | [], [], _ => True.intro
  | v :: vs, d :: ds, h => ⟨h.1.ext c e, RepBL.ext c e h.2⟩
  | [], _ :: _, h => h.elim
  | _ :: _, [], h => h.elim
def rBi (K : PySem.W.Frag) (b : Bi) : List V → Hp → VK → Prop := fun xs H Q => ∃ own ads μ ds dz, CellsR K own ads H μ ∧ RepBL K own ads H xs ds ∧ biD μ b ds = some dz ∧ Fin K own ads H false dz μ Q
/-! ### sorted -/
theorem insI_perm (i : Int) : ∀ l, (insI i l).Perm (i :: l)
  | [] => List.Perm.refl _
  | x :: xs => by
    unfold insI
    split
    · exact List.Perm.refl _
    · exact ((insI_perm i xs).cons x).trans (List.Perm.swap i x xs)
theorem srtI_perm : ∀ l, (srtI l).Perm l
  | [] => List.Perm.refl _
  | x :: xs => (insI_perm x _).trans ((srtI_perm xs).cons x)
theorem insI_pw (i : Int) : ∀ l, l.Pairwise (· ≤ ·) → (insI i l).Pairwise (· ≤ ·)
  | [], _ => List.pairwise_singleton ..
  | x :: xs, h => by
    obtain ⟨h1, h2⟩ := List.pairwise_cons.mp h
    unfold insI
    split
    · rename_i hi
      exact List.pairwise_cons.mpr ⟨fun y hy => by
        rcases List.mem_cons.mp hy with rfl | hy
        · exact hi
        · exact Int.le_trans hi (h1 y hy), h⟩
    · rename_i hi
      refine List.pairwise_cons.mpr ⟨fun y hy => ?_, insI_pw i xs h2⟩
      rcases List.mem_cons.mp ((insI_perm i xs).mem_iff.mp hy) with rfl | hy
      · omega
      · exact h1 y hy
theorem srtI_pw : ∀ l, (srtI l).Pairwise (· ≤ ·)
  | [] => List.Pairwise.nil
  | x :: xs => insI_pw x _ (srtI_pw xs)
theorem srtI_uniq {l m : List Int} (p : m.Perm l) (h : m.Pairwise (· ≤ ·)) : m = srtI l :=
  List.Perm.eq_of_pairwise (le := (· ≤ ·)) (fun a b _ _ h1 h2 => Int.le_antisymm h1 h2) h (srtI_pw l) (p.trans (srtI_perm l).symm)
theorem leP_iff {p q : Int × Int} : leP p q = true ↔ p.1 < q.1 ∨ (p.1 = q.1 ∧ p.2 ≤ q.2) := by
  unfold leP
  simp
theorem leP_total {p q : Int × Int} (h : ¬ leP p q = true) : leP q p = true := by
  rw [leP_iff] at *
  omega
theorem leP_trans {p q r : Int × Int} (h : leP p q = true) (g : leP q r = true) : leP p r = true := by
  rw [leP_iff] at *
  omega
theorem insP_perm (i : Int × Int) : ∀ l, (insP i l).Perm (i :: l)
  | [] => List.Perm.refl _
  | x :: xs => by
    unfold insP
    split
    · exact List.Perm.refl _
    · exact ((insP_perm i xs).cons x).trans (List.Perm.swap i x xs)
theorem srtP_perm : ∀ l, (srtP l).Perm l
  | [] => List.Perm.refl _
  | x :: xs => (insP_perm x _).trans ((srtP_perm xs).cons x)
theorem insP_pw (i : Int × Int) : ∀ l, l.Pairwise (fun a b => leP a b = true) → (insP i l).Pairwise (fun a b => leP a b = true)
  | [], _ => List.pairwise_singleton ..
  | x :: xs, h => by
    obtain ⟨h1, h2⟩ := List.pairwise_cons.mp h
    unfold insP
    split
    · rename_i hi
      exact List.pairwise_cons.mpr ⟨fun y hy => by
        rcases List.mem_cons.mp hy with rfl | hy
        · exact hi
        · exact leP_trans hi (h1 y hy), h⟩
    · rename_i hi
      refine List.pairwise_cons.mpr ⟨fun y hy => ?_, insP_pw i xs h2⟩
      rcases List.mem_cons.mp ((insP_perm i xs).mem_iff.mp hy) with rfl | hy
      · exact leP_total hi
      · exact h1 y hy
theorem srtP_pw : ∀ l, (srtP l).Pairwise (fun a b => leP a b = true)
  | [] => List.Pairwise.nil
  | x :: xs => insP_pw x _ (srtP_pw xs)
theorem srtP_uniq {l m : List (Int × Int)} (p : m.Perm l) (h : m.Pairwise (fun a b => leP a b = true)) : m = srtP l :=
  List.Perm.eq_of_pairwise (le := fun a b => leP a b = true) (fun a b _ _ h1 h2 => by
    rw [leP_iff] at *
    exact Prod.ext (by omega) (by omega)) h (srtP_pw l) (p.trans (srtP_perm l).symm)
theorem asPairs_ok : ∀ {ds : List D} {ps : List (Int × Int)}, asPairs ds = some ps → ds = ps.map pD
  | [], _, h => by cases h; rfl
  | d :: ds, ps, h => by
    unfold asPairs at h
    split at h
    · rename_i e
      cases e
    · rename_i a b ds' e
      cases e
      obtain ⟨r, h1, e⟩ := Option.map_eq_some_iff.mp h
      subst e
      rw [asPairs_ok h1]
      rfl
    · cases h
theorem repL_all {K : PySem.W.Frag} {Z : Addr → Prop} {ads : List Addr} {H : Hp} : ∀ {vs : List V} {ds : List D}, RepL K Z ads H vs ds → ∀ v ∈ vs, ∃ d ∈ ds, Rep K Z ads H v d
  | _, [], h, v, hv => by cases h; cases hv
  | _, d :: ds, h, v, hv => by
    cases h with
    | cons h1 h2 =>
      rcases List.mem_cons.mp hv with rfl | hv
      · exact ⟨d, List.mem_cons_self .., h1⟩
      · obtain ⟨e, e1, e2⟩ := repL_all h2 v hv
        exact ⟨e, List.mem_cons_of_mem _ e1, e2⟩
theorem rep_pD {K : PySem.W.Frag} {Z : Addr → Prop} {ads : List Addr} {H : Hp} {v : V} {p : Int × Int} (h : Rep K Z ads H v (pD p)) : ∃ t, v = .ref t ∧ SqT K H t [.int p.1, .int p.2] := by
  cases h with
  | tup h1 h2 =>
    cases h2 with
    | cons h3 h4 =>
      cases h4 with
      | cons h5 h6 =>
        cases h3
        cases h5
        cases h6
        exact ⟨_, rfl, h1.sq⟩
section
variable {X : Cx}
open Classical in
/-- which pair stands at a value -/
noncomputable def kOf (K : PySem.W.Frag) (H : Hp) (v : V) : Int × Int := if h : ∃ p : Int × Int, ∃ t, v = .ref t ∧ SqT K H t [.int p.1, .int p.2] then h.choose else (0, 0)
theorem kOf_spec {K : PySem.W.Frag} {H : Hp} {v : V} (h : ∃ p : Int × Int, ∃ t, v = .ref t ∧ SqT K H t [.int p.1, .int p.2]) : ∃ t, v = .ref t ∧ SqT K H t [.int (kOf K H v).1, .int (kOf K H v).2] := by
  unfold kOf
  rw [dif_pos h]
  exact h.choose_spec
theorem kOf_eq {pins : List (Addr × Obj)} {σ : L2.St} {H : Hp} {s : Shared} (I : Inv X pins σ H s) {v : V} {p : Int × Int} (h : ∃ t, v = .ref t ∧ SqT X.K H t [.int p.1, .int p.2]) : kOf X.K H v = p := by
  obtain ⟨t, e1, e2⟩ := kOf_spec ⟨p, h⟩
  obtain ⟨t', e3, e4⟩ := h
  subst e1
  cases e3
  have z := I.tuple_inj e2 e4
  have z1 : (kOf X.K H (.ref t)).1 = p.1 := V.int.inj (List.cons.inj z).1
  have z2 : (kOf X.K H (.ref t)).2 = p.2 := V.int.inj (List.cons.inj (List.cons.inj z).2).1
  exact Prod.ext z1 z2
theorem sorted_D {own : Addr → Prop} {ads : List Addr} {H : Hp} {μ : Cells} {a : Addr} {ys : List V} {ds : List D} {dz : D} (c : CellsR X.K own ads H μ) (t : SqL X.K H a ys) (l : RepL X.K (Zo own ads) ads H ys ds) (hz : sortD ds = some dz)
    {pins : List (Addr × Obj)} {s : Shared} {σ : L2.St} {us : List Value} {Q : VK} (I : Inv X pins σ H s) (r : Vals [V.ref a] us) (q : Fin X.K own ads H false dz μ Q) :
    wpAny (model X.prog X.w) X.A (PySem.call (.builtin "sorted") us) (EP X pins σ Q) X.xe s := by
  unfold sortD at hz
  split at hz
  · rename_i ns hn
    cases hz
    rw [asInts_ok hn] at l
    have e3 := l.ints
    subst e3
    refine cr_sortedI pins s σ H _ us Q I r ⟨a, ns, rfl, t, fun ns' p h1 h2 h3 => ?_⟩
    rw [srtI_uniq h1 h2]
    exact q.newL c (RepL.ofInts _) p h3
  · obtain ⟨ps, hp, e⟩ := Option.map_eq_some_iff.mp hz
    subst e
    rw [asPairs_ok hp] at l
    obtain ⟨its, rv, hl, hzl⟩ := I.list t
    obtain ⟨u, rfl, ru⟩ := vals1 r
    obtain rfl : u = Value.ref a := ru
    have hx : ∀ x ∈ ys, ∃ p : Int × Int, p ∈ ps ∧ (∃ t, x = .ref t ∧ SqT X.K H t [.int p.1, .int p.2]) := fun x m => by
      obtain ⟨d, d1, d2⟩ := repL_all l x m
      obtain ⟨p, p1, rfl⟩ := List.mem_map.mp d1
      exact ⟨p, p1, rep_pD d2⟩
    obtain ⟨e1, e2⟩ := refs_back rv fun x m => by
      obtain ⟨_, _, t, e, _⟩ := hx x m
      exact ⟨t, e⟩
    refine SrtO.sorted_pairsO (k := fun u => kOf X.K H (backV u)) hl.isList (by rw [← rv.length]; exact hzl) (fun v hv => ?_) fun h' d out h1 h2 kp hd hn => ?_
    · obtain ⟨t, rfl⟩ := e2 v hv
      have hm : V.ref t ∈ ys := by rw [e1]; exact List.mem_map.mpr ⟨_, hv, rfl⟩
      obtain ⟨p, _, t', e, ht⟩ := hx _ hm
      cases e
      obtain ⟨its2, r2, ⟨o, ho, hc, n, hd⟩, _⟩ := I.tuple ht
      obtain ⟨u1, u2, rfl, ri, rj⟩ := vals2 r2
      obtain ⟨t1, rfl⟩ := ri
      obtain ⟨t2, rfl⟩ := rj
      have ke : kOf X.K H (backV (Value.ref t)) = p := kOf_eq I ⟨t, rfl, ht⟩
      rw [ke]
      exact ⟨t, o, t1, t2, n, rfl, ho, hc, hd⟩
    · have h3 : ∀ u ∈ out, ∃ a, u = Value.ref a := fun u hu => e2 u (h2.perm.mem_iff.mp hu)
      obtain ⟨n, hn⟩ := hn
      have pm : (out.map backV).Perm ys := by rw [e1]; exact h2.perm.map backV
      have kp1 : ((out.map backV).map (kOf X.K H)).Perm ps := by
        have kl : ∀ {vs : List V} {qs : List (Int × Int)}, RepL X.K (Zo own ads) ads H vs (qs.map pD) → vs.map (kOf X.K H) = qs := by
          intro vs qs
          induction qs generalizing vs with
          | nil => intro h; cases h; rfl
          | cons q qs ih =>
            intro h
            cases h with
            | cons g1 g2 => rw [List.map_cons, ih g2, kOf_eq I (rep_pD g1)]
        have := pm.map (kOf X.K H)
        rwa [kl l] at this
      have srt : ((out.map backV).map (kOf X.K H)).Pairwise (fun a b => leP a b = true) := by
        rw [List.map_map, List.pairwise_map]
        refine h1.imp fun {x y} z => ?_
        have z' := SrtO.lexB_no.mp z
        rw [leP_iff]
        simp only [Function.comp]
        omega
      have un := srtP_uniq kp1 srt
      have rl : RepL X.K (Zo own ads) ads H (out.map backV) ((srtP ps).map pD) := by
        rw [← un]
        have go : ∀ ws : List V, (∀ w ∈ ws, w ∈ ys) → RepL X.K (Zo own ads) ads H ws ((ws.map (kOf X.K H)).map pD) := by
          intro ws
          induction ws with
          | nil => intro _; exact .nil
          | cons w ws ih =>
            intro h
            obtain ⟨d, d1, d2⟩ := repL_all l w (h w (List.mem_cons_self ..))
            obtain ⟨p, p1, rfl⟩ := List.mem_map.mp d1
            have ke := kOf_eq I (rep_pD d2)
            rw [List.map_cons, List.map_cons, ke]
            exact .cons d2 (ih fun z hz => h z (List.mem_cons_of_mem _ hz))
        exact go _ fun w hw => pm.mem_iff.mp hw
      have hb := h2.len
      refine ⟨.ref d, upd H d (.lst (out.map backV)), I.laid (t' := s.toks) kp hd ⟨?_, out, n, vals_back h3, hn⟩, rfl, q.newL c rl d (I.hok.fresh hd)⟩
      show (out.map backV).length ≤ sizeLine
      rw [pm.length_eq]
      exact hzl
end
section
variable {X : Cx}
theorem bi_D (hc : X.calm = true) (b : Bi) : CallR X b.val (rBi X.K b) := by
  intro pins s σ H xs us Q I r h
  obtain ⟨own, ads, μ, ds, dz, c, h1, hz, q⟩ := h
  unfold biD at hz
  split at hz
  · cases hz
    obtain ⟨v, e, h2⟩ := h1.one
    obtain ⟨a, ys, e2, t, l⟩ := h2.lst
    subst e e2
    exact call_len_seq pins s σ H _ us Q I r ⟨a, ys, rfl, .inl t, by rw [l.length]; exact q.int c⟩
  · cases hz
    obtain ⟨v, e, h2⟩ := h1.one
    obtain ⟨a, ys, e2, t, l⟩ := h2.tup
    subst e e2
    exact call_len_seq pins s σ H _ us Q I r ⟨a, ys, rfl, .inr t.sq, by rw [l.length]; exact q.int c⟩
  · split at hz
    · rename_i hl
      cases hz
      obtain ⟨v, e, h2⟩ := h1.one
      have e2 := h2.str
      subst e e2
      exact call_len_str pins s σ H _ us Q I r ⟨_, rfl, hl, q.int c⟩
    · cases hz
  · cases hz
    obtain ⟨v, e, h2⟩ := h1.one
    obtain ⟨a, ys, e2, t, l⟩ := h2.lst
    subst e e2
    exact call_tuple_of pins s σ H _ us Q I r ⟨a, ys, rfl, .inl ⟨t, q.newT c l⟩⟩
  · cases hz
    obtain ⟨v, e, h2⟩ := h1.one
    obtain ⟨a, ys, e2, t, l⟩ := h2.tup
    subst e e2
    exact call_tuple_of pins s σ H _ us Q I r ⟨a, ys, rfl, .inr ⟨t.sq, q.same c (.tup t l)⟩⟩
  · cases hz
    obtain ⟨v, e, h2⟩ := h1.one
    obtain ⟨a, ys, e2, t, l⟩ := h2.lst
    subst e e2
    exact call_list_of pins s σ H _ us Q I r ⟨a, ys, rfl, .inl t, q.newL c l⟩
  · cases hz
    obtain ⟨v, e, h2⟩ := h1.one
    obtain ⟨a, ys, e2, t, l⟩ := h2.tup
    subst e e2
    exact call_list_of pins s σ H _ us Q I r ⟨a, ys, rfl, .inr t.sq, q.newL c l⟩
  · obtain ⟨bs, hb, e0⟩ := Option.map_eq_some_iff.mp hz
    subst e0
    obtain ⟨v, e, h2⟩ := h1.one
    obtain ⟨a, ys, e2, t, l⟩ := h2.lst
    subst e e2
    rw [asBls_ok hb] at l
    have e3 := l.bls
    subst e3
    exact cr_all hc pins s σ H _ us Q I r ⟨a, bs, rfl, t, q.bl c⟩
  · obtain ⟨bs, hb, e0⟩ := Option.map_eq_some_iff.mp hz
    subst e0
    obtain ⟨v, e, h2⟩ := h1.one
    obtain ⟨a, ys, e2, t, l⟩ := h2.lst
    subst e e2
    rw [asBls_ok hb] at l
    have e3 := l.bls
    subst e3
    exact cr_any hc pins s σ H _ us Q I r ⟨a, bs, rfl, t, q.bl c⟩
  · obtain ⟨bs, hb, e0⟩ := Option.map_eq_some_iff.mp hz
    subst e0
    obtain ⟨v, e, h2⟩ := h1.one
    obtain ⟨a, ys, e2, t, l⟩ := h2.lst
    subst e e2
    rw [asInts_ok hb] at l
    have e3 := l.ints
    subst e3
    exact cr_sum hc pins s σ H _ us Q I r ⟨a, bs, rfl, t, q.int c⟩
  · cases hz
    obtain ⟨v, e, h2⟩ := h1.one
    have e2 := h2.int
    subst e e2
    exact call_abs pins s σ H _ us Q I r ⟨_, rfl, q.int c⟩
  · cases hz
    obtain ⟨v, e, h2⟩ := h1.one
    have e2 := h2.int
    subst e e2
    exact call_int1 pins s σ H _ us Q I r (.inl ⟨_, rfl, q.int c⟩)
  · split at hz
    · rename_i hn
      split at hz
      · rename_i hl
        cases hz
        obtain ⟨v, e, h2⟩ := h1.one
        have e2 := h2.str
        subst e e2
        exact call_int_str pins s σ H _ us Q I r ⟨_, _, rfl, hn, hl, q.int c⟩
      · cases hz
    · cases hz
  · split at hz
    · rename_i hl
      cases hz
      obtain ⟨v, e, h2⟩ := h1.one
      have e2 := h2.int
      subst e e2
      exact call_str_int pins s σ H _ us Q I r ⟨_, rfl, hl, q.str c⟩
    · cases hz
  · cases hz
    obtain ⟨v, w, e, h2, h3⟩ := h1.two
    have e2 := h2.int
    have e3 := h3.int
    subst e e2 e3
    exact call_max2 hc pins s σ H _ us Q I r ⟨_, _, rfl, q.int c⟩
  · cases hz
    obtain ⟨v, w, e, h2, h3⟩ := h1.two
    have e2 := h2.int
    have e3 := h3.int
    subst e e2 e3
    exact call_min2 hc pins s σ H _ us Q I r ⟨_, _, rfl, q.int c⟩
  · obtain ⟨v, e, h2⟩ := h1.one
    obtain ⟨a, ys, e2, t, l⟩ := h2.lst
    subst e e2
    exact sorted_D c t l hz I r q
  · cases hz
end

/-! ### isinstance -/
def Ty.name : Ty → String
  | .int => "int" | .bool => "bool" | .str => "str" | .tuple => "tuple" | .list => "list"
def Ty.py : Ty → Str
  | .int => "int" | .bool => "bool" | .str => "str" | .tuple => "tuple" | .list => "list"
theorem Ty.boot (t : Ty) : bootBuiltins t.py = some (.type t.name) := by cases t <;> decide +kernel
theorem isi_kit {K : PySem.W.Frag} {own : Addr → Prop} {ads : List Addr} {H : Hp} {b : Bool} {v : V} {d : D} {t : Ty} {r : Bool} (h : RepB K own ads H b v d) (e : isiD d t = some r) : ∃ u, TyX K H v u ∧ PySem.W.kitOne K u (.type t.name) = some r := by
  cases d with
  | non =>
    rw [h.non]
    refine ⟨_, .base .non, kit_ty ?_⟩
    cases t <;> (cases e; decide +kernel)
  | bl x =>
    rw [h.bl]
    refine ⟨_, .base (.bl x), kit_ty ?_⟩
    cases t <;> (cases e; decide +kernel)
  | int x =>
    rw [h.int]
    refine ⟨_, .base (.int x), kit_ty ?_⟩
    cases t <;> (cases e; decide +kernel)
  | str x =>
    rw [h.str]
    refine ⟨_, .base (.str x), kit_ty ?_⟩
    cases t <;> (cases e; decide +kernel)
  | tup ds =>
    obtain ⟨a, xs, e1, t1, l⟩ := h.tup
    rw [e1]
    have ty : TyX K H (.ref a) (.type "tuple") := by
      rcases t1 with ⟨t1 | ⟨o, t1⟩, _⟩ | ⟨o, its, n, t1, t2, _⟩
      · exact .base (.tup t1)
      · exact .fTuple t1
      · exact .kTuple t1 t2
    refine ⟨_, ty, kit_ty ?_⟩
    cases t <;> (cases e; decide +kernel)
  | lst ds =>
    obtain ⟨a, xs, e1, t1, l⟩ := h.lst
    rw [e1]
    have ty : TyX K H (.ref a) (.type "list") := by
      rcases t1 with (t1 | ⟨o, t1⟩) | ⟨o, its, n, t1, t2, _⟩
      · exact .base (.lst t1)
      · exact .base (.frz t1)
      · exact .kList t1 t2
    refine ⟨_, ty, kit_ty ?_⟩
    cases t <;> (cases e; decide +kernel)
  | cell k => cases e

/-! ### methods -/
def Me.name : Me → Str
  | .bits => "bit_length" | .partition => "partition" | .join => "join"
end FM

set_option Elab.async false
set_option linter.all false
set_option maxRecDepth 100000
set_option maxHeartbeats 4000000
/-! Ev5: the look at the real tree; expressions. -/
namespace FM
open PySem PySem.Spec PyProof.Rows L2

/-! ### the look -/
def visB (sc : Scope) (x : Str) : Bool := match sc.names.lookup x with
  | some .local => true
  | some .cell => true
  | some .free => true
  | _ => false
def gloB (sc : Scope) (x : Str) : Bool := match sc.names.lookup x with
  | some .globalImplicit => true
  | _ => false
def locB (sc : Scope) (x : Str) : Bool := match sc.names.lookup x with
  | some .local => true
  | some .cell => true
  | _ => false
def notStar : Expr → Bool
  | .Starred _ _ => false
  | _ => true
def notSlice : Expr → Bool
  | .Slice _ _ _ _ => false
  | _ => true
def notSet : Expr → Bool
  | .Set _ _ _ => false
  | _ => true
def notCall : Expr → Bool
  | .Call _ _ _ _ => false
  | _ => true
theorem starEach_cons {e : Expr} (h : notStar e = true) (es : List Expr) (env : PySem.Env) : starEach (e :: es) env = (false, eval e env) :: starEach es env := by
  cases e <;> first | rfl | cases h
theorem plainIx_of {e : Expr} (h : notSlice e = true) : PlainIx e := by
  intro o i
  cases e <;> first | rfl | cases h
theorem folded_of {e : Expr} (h : notSet e = true) (env : PySem.Env) (x : Value) : foldedSetIterable e env x = pure x := by
  cases e <;> first | rfl | cases h
theorem marks_of {e : Expr} (h : notSet e = true) (o : CmpOp) : behindInMarks o e = false := by
  cases e <;> first | rfl | cases h
/-- the base of a method's call: no super() -/
def baseOk : Expr → Bool
  | .Call (.Name _ _) [] [] _ => false
  | _ => true
theorem base_of {o : Expr} (h : baseOk o = true) (m : Str) (env : PySem.Env) : attributeBase o m env (eval o env) = eval o env := by
  unfold attributeBase
  split
  · cases h
  · rfl
def nameIs (N : List Str) (sc : Scope) (i : Nat) (x : Str) : Bool := decide (N[i]? = some x) && visB sc x && !(x == ("__debug__" : Str)) && !(x == ("__classdict__" : Str))
def ownOf (N : List Str) : List Nat → List (Str × Nat)
  | [] => []
  | i :: is => (N.getD i "", i) :: ownOf N is
def Tg.slots : Tg → List Nat
  | .nm i => [i]
  | .tp is => is
def chkTs (N : List Str) (sc : Scope) : List Nat → List Expr → Bool
  | [], [] => true
  | i :: is, .Name x _ :: es => decide (N[i]? = some x) && locB sc x && chkTs N sc is es
  | _, _ => false
def chkTg (N : List Str) (sc : Scope) : Tg → Expr → Bool
  | .nm i, .Name x _ => decide (N[i]? = some x) && locB sc x
  | .tp is, .Tuple es _ _ => chkTs N sc is es && decide is.Nodup
  | _, _ => false
def Bi.argsOk : Bi → List Expr → Bool
  | _, [] => false
  | _, _ => true
def chkKs : List Str → List (Option Expr) → Bool
  | [], [] => true
  | k :: ks, some (.Constant (.str j) _ _) :: r => decide (k = j) && chkKs ks r
  | _, _ => false
def Me.arOk : Me → List Expr → Bool
  | .bits, xs => xs.isEmpty
  | _, xs => xs.length == 1
/-- the module's constants that are served -/
def cons : List (Str × List Str) := [("JOINS", ["both", "either", "without"])]
/-- a zip's target is told apart -/
def zipOk : It → Expr → Bool
  | .zip2 _ _, .Tuple _ _ _ => true
  | .zip2 _ _, _ => false
  | .zip3 _ _ _, .Tuple _ _ _ => true
  | .zip3 _ _ _, _ => false
  | _, _ => true
mutual
def chkE (N fs : List Str) : E → Scope → Expr → Bool
  | .var i, sc, .Name x _ => nameIs N sc i x
  | .int i, _, .Constant (.int j) _ _ => decide (i = j)
  | .bl i, _, .Constant (.bool j) _ _ => decide (i = j)
  | .non, _, .Constant .none _ _ => true
  | .str i, _, .Constant (.str j) _ _ => decide (i = j)
  | .op o a b, sc, .BinOp x o' y _ => decide (o = o') && chkE N fs a sc x && chkE N fs b sc y
  | .neg a, sc, .UnaryOp .USub x _ => chkE N fs a sc x
  | .cmp o a b, sc, .Compare x [o'] [y] _ => decide (o = o') && notSet y && chkE N fs a sc x && chkE N fs b sc y
  | .chn o p a b c, sc, .Compare x [o', p'] [y, z] _ => decide (o = o') && decide (p = p') && notSet y && notSet z && chkE N fs a sc x && chkE N fs b sc y && chkE N fs c sc z
  | .and a b, sc, .BoolOp .And (x :: y :: r) pos => chkE N fs a sc x && (if r.isEmpty then chkE N fs b sc y else chkE N fs b sc (.BoolOp .And (y :: r) pos))
  | .or a b, sc, .BoolOp .Or (x :: y :: r) pos => chkE N fs a sc x && (if r.isEmpty then chkE N fs b sc y else chkE N fs b sc (.BoolOp .Or (y :: r) pos))
  | .not a, sc, .UnaryOp .Not x _ => chkE N fs a sc x
  | .ife c a b, sc, .IfExp z x y _ => chkE N fs c sc z && chkE N fs a sc x && chkE N fs b sc y
  | .tup es, sc, .Tuple xs _ _ => chkEs N fs es sc xs
  | .lst es, sc, .List xs _ => chkEs N fs es sc xs
  | .ix a b, sc, .Subscript x y _ => notSlice y && chkE N fs a sc x && chkE N fs b sc y
  | .sl a lo hi, sc, .Subscript x (.Slice l h none _) _ => chkE N fs a sc x && chkEO N fs lo sc l && chkEO N fs hi sc h
  | .call f es, sc, .Call (.Name g _) xs [] _ => decide (fs[f]? = some g) && gloB sc g && !(g == ("__debug__" : Str)) && chkEs N fs es sc xs
  | .callB f es, sc, .Call (.Name g _) xs [] _ => decide (fs[f]? = some g) && gloB sc g && !(g == ("__debug__" : Str)) && chkEs N fs es sc xs && !xs.isEmpty
  | .bi b es, sc, .Call (.Name g _) xs [] _ => decide (g = b.name) && gloB sc g && !xs.isEmpty && chkEs N fs es sc xs
  | .isi a t, sc, .Call (.Name g _) [x, .Name h _] [] _ => decide (g = "isinstance") && gloB sc g && decide (h = t.py) && gloB sc h && notStar x && chkE N fs a sc x
  | .me m o es, sc, .Call (.Attribute x g apos) xs [] cpos => decide (g = m.name) && (apos.endLine == cpos.line) && baseOk x && chkE N fs o sc x && m.arOk xs && chkEs N fs es sc xs
  | .lc elt tg it cond, sc, .ListComp x [⟨t, i, ifs, n⟩] scope _ => decide (n = 0) && blkC N sc scope (ownOf N tg.slots) && (notSet i && zipOk it t) && chkTg N scope tg t && chkIt N fs it sc i && chkC N fs cond scope ifs && chkE N fs elt scope x
  | .dict ks es, sc, .Dict keys values _ => chkKs ks keys && decide (keys.length = values.length) && !keys.isEmpty && chkEs N fs es sc values
  | .rev a, sc, .Subscript x (.Slice none none (some (.UnaryOp .USub (.Constant (.int j) _ _) _)) _) _ => decide (j = 1) && chkE N fs a sc x
  | .con y vs, sc, .Name x _ => decide (x = y) && gloB sc x && !(x == ("__debug__" : Str)) && decide ((y, vs) ∈ cons)
  | .ldict a, sc, .Call (.Name g _) [.Call (.Name g2 _) [x] [] _] [] _ => decide (g = "len") && gloB sc g && decide (g2 = "dict") && gloB sc g2 && notStar x && chkE N fs a sc x
  | .bad, _, _ => true
  | _, _, _ => false
def chkEs (N fs : List Str) : Es → Scope → List Expr → Bool
  | .nil, _, [] => true
  | .cons e es, sc, x :: xs => notStar x && chkE N fs e sc x && chkEs N fs es sc xs
  | _, _, _ => false
def chkEO (N fs : List Str) : EO → Scope → Option Expr → Bool
  | .none, _, none => true
  | .some e, sc, some x => chkE N fs e sc x
  | _, _, _ => false
def chkC (N fs : List Str) : EO → Scope → List Expr → Bool
  | .none, _, [] => true
  | .some e, sc, [x] => chkE N fs e sc x
  | _, _, _ => false
def chkIt (N fs : List Str) : It → Scope → Expr → Bool
  | .seq e, sc, x => chkE N fs e sc x
  | .zip2 a b, sc, .Call (.Name g _) [x, y] [] _ => decide (g = "zip") && gloB sc g && notStar x && notStar y && chkE N fs a sc x && chkE N fs b sc y
  | .zip3 a b c, sc, .Call (.Name g _) [x, y, z] [] _ => decide (g = "zip") && gloB sc g && notStar x && notStar y && notStar z && chkE N fs a sc x && chkE N fs b sc y && chkE N fs c sc z
  | .rng1 a, sc, .Call (.Name g _) [x] [] _ => decide (g = "range") && gloB sc g && notStar x && chkE N fs a sc x
  | .rng2 a b, sc, .Call (.Name g _) [x, y] [] _ => decide (g = "range") && gloB sc g && notStar x && notStar y && chkE N fs a sc x && chkE N fs b sc y
  | .rng3 a b c, sc, .Call (.Name g _) [x, y, z] [] _ => decide (g = "range") && gloB sc g && notStar x && notStar y && notStar z && chkE N fs a sc x && chkE N fs b sc y && chkE N fs c sc z
  | _, _, _ => false
end

/-! ### where one stands -/
/-- a def's promise: what F says of plain arguments -/
def spF (K : PySem.W.Frag) (ar : Nat) (F : List D → Cells → Option (D × Cells)) : Sp := fun vs H Q _ => vs.length = ar ∧ ∃ own ads ds μ d μ', RepL K (Zo own ads) ads H vs ds ∧ CellsR K own ads H μ ∧ F ds μ = some (d, μ') ∧ Fin K own ads H false d μ' Q
/-- the def g of the text keeps what F says -/
def FnH (P : Program) (w : World) (K : PySem.W.Frag) (mg : Str → Option Value) (base : Heap) (n : Nat) (g : Str) (F : List D → Cells → Option (D × Cells)) : Prop :=
  ∀ ds μ d μ', F ds μ = some (d, μ') → ∃ a fd ps, mg g = some (.ref a) ∧ PySem.W.keepIn K (.ref a) = true ∧ Binds K fd ps [] ∧ ps.length = ds.length ∧ FnOk P w K mg base CX0 n a fd ps (spF K ps.length F)
/-- the built-in names -/
def bnames : List Str := ["len", "tuple", "list", "all", "any", "abs", "int", "str", "max", "min", "sum", "range", "isinstance", "bool", "sorted", "zip", "dict"]
structure GX (N fs : List Str) (F : Fs) (n : Nat) (sc : Scope) (X : Cx) : Prop where
  hN : X.N = N
  nd : N.Nodup
  calm : X.calm = true
  nox : X.xe = fun _ _ => False
  room : Room n X.A
  vis : ∀ x, visB sc x = true → Vis X.env.scope x
  glo : ∀ x, gloB sc x = true → Gl X x
  loc : ∀ x, locB sc x = true → Loc X.env.scope x ∧ (X.fn x = true ∨ X.env.scope.names.lookup x = some .local)
  cap : ∀ x, (sc.names.lookup x = some .cell ∨ sc.names.lookup x = some .free) → (X.env.scope.names.lookup x = some .cell ∨ X.env.scope.names.lookup x = some .free)
  bn : ∀ x ∈ bnames, X.mg x = none
  con : ∀ c ∈ cons, ∃ a, X.mg c.1 = some (.ref a) ∧ ∀ H, SqT X.K H a (c.2.map V.str)
  fn : ∀ f g, fs[f]? = some g → FnH X.prog X.w X.K X.mg X.base n g (F f)

/-! ### readings -/
def SlR (K : PySem.W.Frag) (own : Addr → Prop) (ads : List Addr) (H : Hp) : Sl → V → Prop
  | .pl d, v => Rep K (Zo own ads) ads H v d
  | .ow ds, v => ∃ a xs, v = .ref a ∧ H a = some (.lst xs) ∧ own a ∧ RepL K (Zo own ads) ads H xs ds
def EnvR (K : PySem.W.Frag) (own : Addr → Prop) (ads : List Addr) (H : Hp) (σ : L2.St) (ρ : Env) : Prop :=
  ∀ (i : Nat) (s : Sl), ρ[i]? = some (some s) → ∃ v : V, σ[i]? = some (some v) ∧ SlR K own ads H s v
theorem SlR.ext {K : PySem.W.Frag} {own : Addr → Prop} {ads ads' : List Addr} {H H' : Hp} {μ : Cells} {s : Sl} {v : V} (c : CellsR K own ads H μ) (e : Ext ads H ads' H') (h : SlR K own ads H s v) : SlR K own ads' H' s v := by
  cases s with
  | pl d => exact Rep.ext e h
  | ow ds =>
    obtain ⟨a, xs, e1, e2, e3, e4⟩ := h
    exact ⟨a, xs, e1, e.keep _ _ e2 fun m => c.dis a m e3, e3, e4.ext e⟩
theorem EnvR.ext {K : PySem.W.Frag} {own : Addr → Prop} {ads ads' : List Addr} {H H' : Hp} {μ : Cells} {σ : L2.St} {ρ : Env} (c : CellsR K own ads H μ) (e : Ext ads H ads' H') (h : EnvR K own ads H σ ρ) : EnvR K own ads' H' σ ρ := fun i s q => by
  obtain ⟨v, h1, h2⟩ := h i s q
  exact ⟨v, h1, h2.ext c e⟩
/-- the whole of a state: slots, cells -/
structure Hold (K : PySem.W.Frag) (own : Addr → Prop) (ads : List Addr) (H : Hp) (σ : L2.St) (ρ : Env) (μ : Cells) : Prop where
  e : EnvR K own ads H σ ρ
  c : CellsR K own ads H μ
  len : ρ.length = σ.length
/-- behind: the datum, the cells; the environment stands -/
abbrev Fin2 (K : PySem.W.Frag) (own : Addr → Prop) (ads : List Addr) (H : Hp) (σ : L2.St) (ρ : Env) (b : Bool) (z : D) (μ' : Cells) (Q : VK) : Prop :=
  ∀ v H' ads', Ext ads H ads' H' → Hold K own ads' H' σ ρ μ' → RepB K own ads' H' b v z → Q v H'
def tE (K : PySem.W.Frag) (F : Fs) (e : E) : TE := fun σ H Q => ∃ own ads ρ μ d μ', Hold K own ads H σ ρ μ ∧ ev F e ρ μ = some (d, μ') ∧ Fin2 K own ads H σ ρ (lk ρ e) d μ' Q
def tEs (K : PySem.W.Frag) (F : Fs) (es : Es) : TA := fun σ H Q => ∃ own ads ρ μ ds μ', Hold K own ads H σ ρ μ ∧ evs F es ρ μ = some (ds, μ') ∧
  ∀ vs H' ads', Ext ads H ads' H' → Hold K own ads' H' σ ρ μ' → RepBL K own ads' H' vs ds → (lks ρ es = false → RepL K (Zo own ads') ads' H' vs ds) → Q vs H'
def tEO (K : PySem.W.Frag) (F : Fs) (e : EO) : TO := fun σ H Q => ∃ own ads ρ μ d μ', Hold K own ads H σ ρ μ ∧ evo F e ρ μ = some (d, μ') ∧ ∀ H' ads', Ext ads H ads' H' → Hold K own ads' H' σ ρ μ' → Q d H'
/-- as a test -/
def tT (K : PySem.W.Frag) (F : Fs) (e : E) : TT := fun σ H Q => ∃ own ads ρ μ b μ', Hold K own ads H σ ρ μ ∧ ev F e ρ μ = some (.bl b, μ') ∧ ∀ H' ads', Ext ads H ads' H' → Hold K own ads' H' σ ρ μ' → Q b H'
def tC' (K : PySem.W.Frag) (F : Fs) (e : EO) : TT := fun σ H Q => ∃ own ads ρ μ b μ', Hold K own ads H σ ρ μ ∧ evc F e ρ μ = some (b, μ') ∧ ∀ H' ads', Ext ads H ads' H' → Hold K own ads' H' σ ρ μ' → Q b H'
theorem PE.imp {X : Cx} {e : Expr} {t t' : TE} (h : PE X e t) (i : ∀ σ H Q, t' σ H Q → t σ H Q) : PE X e t' := ⟨fun pins s σ H Q I q => h.run pins s σ H Q I (i _ _ _ q)⟩
theorem PT.imp {X : Cx} {e : Expr} {t t' : TT} (h : PT X e t) (i : ∀ σ H Q, t' σ H Q → t σ H Q) : PT X e t' := ⟨fun pins s σ H Q I q => h.run pins s σ H Q I (i _ _ _ q)⟩
theorem PTs.imp {X : Cx} {e : List Expr} {t t' : TT} (h : PTs X e t) (i : ∀ σ H Q, t' σ H Q → t σ H Q) : PTs X e t' := ⟨fun pins s σ H Q I q => h.run pins s σ H Q I (i _ _ _ q)⟩
theorem PA.imp {X : Cx} {e : List Expr} {t t' : TA} (h : PA X e t) (i : ∀ σ H Q, t' σ H Q → t σ H Q) : PA X e t' := ⟨fun pos pins s σ H Q I q => h.run pos pins s σ H Q I (i _ _ _ q)⟩
theorem PO.imp {X : Cx} {e : Option Expr} {t t' : TO} (h : PO X e t) (i : ∀ σ H Q, t' σ H Q → t σ H Q) : PO X e t' := ⟨fun pins s σ H Q I q => h.run pins s σ H Q I (i _ _ _ q)⟩
theorem andThen_some {α β : Type} {x : Rs α} {f : α → Cells → Option β} {r : β} (h : andThen x f = some r) : ∃ a μ, x = some (a, μ) ∧ f a μ = some r := by
  unfold andThen at h
  split at h
  · exact ⟨_, _, rfl, h⟩
  · cases h
theorem onBl_some {β : Type} {x : Rs D} {f : Bool → Cells → Option β} {r : β} (h : onBl x f = some r) : ∃ b μ, x = some (.bl b, μ) ∧ f b μ = some r := by
  unfold onBl at h
  split at h
  · exact ⟨_, _, rfl, h⟩
  · cases h
theorem wthD_some {z : Option D} {μ μ' : Cells} {d : D} (h : wthD z μ = some (d, μ')) : z = some d ∧ μ' = μ := by
  unfold wthD at h
  obtain ⟨a, h1, h2⟩ := Option.map_eq_some_iff.mp h
  cases h2
  exact ⟨h1, rfl⟩
section
variable {K : PySem.W.Frag} {F : Fs} {own : Addr → Prop} {ads ads' : List Addr} {H H' : Hp} {σ : L2.St} {ρ : Env} {μ μ' : Cells} {Q : VK}
theorem Fin2.fin {b : Bool} {d : D} (h : Hold K own ads H σ ρ μ) (q : Fin2 K own ads H σ ρ b d μ' Q) (e0 : EnvR K own ads H σ ρ) : ∀ v H' ads', Ext ads H ads' H' → CellsR K own ads' H' μ' → RepB K own ads' H' b v d → Q v H' :=
  fun v H' ads' e c r => q v H' ads' e ⟨e0.ext h.c e, c, h.len⟩ r
/-- one part, then what follows -/
theorem tE.one {a : E} {x : D} (h : Hold K own ads H σ ρ μ) (ha : ev F a ρ μ = some (x, μ')) (k : ∀ v H' ads', Ext ads H ads' H' → Hold K own ads' H' σ ρ μ' → RepB K own ads' H' (lk ρ a) v x → Q v H') : tE K F a σ H Q :=
  ⟨own, ads, ρ, μ, x, μ', h, ha, k⟩
end
end FM

set_option Elab.async false
set_option linter.all false
set_option maxRecDepth 100000
set_option maxHeartbeats 4000000
/-! Ev6: one lemma a construct. -/
namespace FM
open PySem PySem.Spec PyProof.Rows L2

def plainT : Expr → Bool
  | .UnaryOp .Not _ _ => false
  | .BoolOp _ _ _ => false
  | .IfExp _ _ _ _ => false
  | .Compare _ _ _ _ => false
  | _ => true
theorem plainT_of {e : Expr} (h : plainT e = true) (env : PySem.Env) (whole : Sem Value) : isTrue e env whole = (do let v ← whole; standAt e.pos; holding [v] (truthy v)) := by
  cases e with
  | UnaryOp op x p => cases op <;> first | rfl | cases h
  | _ => first | rfl | cases h
theorem room65 {k : Nat} {A : Around} (r : Room k A) : A.units + 65 < cLine := by have := r.un; omega
section
variable {X : Cx} {F : Fs}
/-- as a value and as a test -/
structure Both (X : Cx) (F : Fs) (x : Expr) (e : E) : Prop where
  v : PE X x (tE X.K F e)
  t : PT X x (tT X.K F e)
theorem Both.mk' {x : Expr} {e : E} (h : PE X x (tE X.K F e)) (p : plainT x = true) : Both X F x e := by
  refine ⟨h, PT.imp (pt_val h (plainT_of p _)) fun σ H Q ⟨own, ads, ρ, μ, b, μ', h, he, q⟩ => ?_⟩
  exact ⟨own, ads, ρ, μ, _, μ', h, he, fun v H' ads' e' h' r => ⟨b, r.bl, q H' ads' e' h'⟩⟩

theorem s_var {N fs : List Str} {n : Nat} {sc : Scope} (G : GX N fs F n sc X) {i : Nat} {x : Str} {pos : Pos} (h : nameIs N sc i x = true) : Both X F (.Name x pos) (.var i) := by
  unfold nameIs at h
  rw [Bool.and_eq_true, Bool.and_eq_true, Bool.and_eq_true, decide_eq_true_eq] at h
  obtain ⟨⟨⟨h1, h2⟩, h3⟩, h4⟩ := h
  refine Both.mk' (PE.imp (pe_var (i := i) (by rw [G.hN]; exact h1) (G.vis x h2) (by simpa using h3) (by simpa using h4)) ?_) rfl
  intro σ H Q ⟨own, ads, ρ, μ, d, μ', h, he, q⟩
  unfold ev at he
  cases e : ρ[i]? with
  | none => rw [e] at he; cases he
  | some o =>
    cases o with
    | none => rw [e] at he; cases he
    | some s =>
      rw [e] at he
      cases he
      obtain ⟨v, h5, h6⟩ := h.e i s e
      refine ⟨v, h5, q v H ads .refl h ?_⟩
      cases s with
      | pl d => exact .inl h6
      | ow ds =>
        obtain ⟨a, xs, e1, e2, e3, e4⟩ := h6
        refine .inr ⟨?_, a, xs, ds, e1, rfl, e2, e3, e4⟩
        show isOw ρ i = true
        unfold isOw
        rw [e]
        rfl
theorem s_int {i : Int} {k : Nat} {pos : Pos} : Both X F (.Constant (.int i) k pos) (.int i) :=
  Both.mk' (PE.imp pe_int fun σ H Q ⟨own, ads, ρ, μ, d, μ', h, he, q⟩ => by cases he; exact q _ H ads .refl h (.inl (.int i))) rfl
theorem s_bl {i : Bool} {k : Nat} {pos : Pos} : Both X F (.Constant (.bool i) k pos) (.bl i) :=
  Both.mk' (PE.imp pe_bl fun σ H Q ⟨own, ads, ρ, μ, d, μ', h, he, q⟩ => by cases he; exact q _ H ads .refl h (.inl (.bl i))) rfl
theorem s_non {k : Nat} {pos : Pos} : Both X F (.Constant .none k pos) .non :=
  Both.mk' (PE.imp pe_non fun σ H Q ⟨own, ads, ρ, μ, d, μ', h, he, q⟩ => by cases he; exact q _ H ads .refl h (.inl .non)) rfl
theorem s_str {i : Str} {k : Nat} {pos : Pos} : Both X F (.Constant (.str i) k pos) (.str i) :=
  Both.mk' (PE.imp pe_str fun σ H Q ⟨own, ads, ρ, μ, d, μ', h, he, q⟩ => by cases he; exact q _ H ads .refl h (.inl (.str i))) rfl
/-- from Fin2 to Fin -/
theorem toFin {K : PySem.W.Frag} {own : Addr → Prop} {ads ads1 : List Addr} {H H1 : Hp} {σ : L2.St} {ρ : Env} {μ1 μ' : Cells} {b : Bool} {d : D} {Q : VK} (e1 : Ext ads H ads1 H1) (h1 : Hold K own ads1 H1 σ ρ μ1) (q : Fin2 K own ads H σ ρ b d μ' Q) : Fin K own ads1 H1 b d μ' Q :=
  fun v H' ads' e c r => q v H' ads' (e1.trans e) ⟨h1.e.ext h1.c e, c, h1.len⟩ r
theorem s_op {o : Operator} {a b : E} {x y : Expr} {pos : Pos} (ha : Both X F x a) (hb : Both X F y b) : Both X F (.BinOp x o y pos) (.op o a b) := by
  refine Both.mk' (PE.imp (pe_op (op_D o) ha.v hb.v) ?_) rfl
  intro σ H Q ⟨own, ads, ρ, μ, d, μ', h, he, q⟩
  unfold ev at he
  obtain ⟨dx, μ1, e1, he⟩ := andThen_some he
  obtain ⟨dy, μ2, e2, he⟩ := andThen_some he
  obtain ⟨hz, rfl⟩ := wthD_some he
  exact ⟨own, ads, ρ, μ, dx, μ1, h, e1, fun v H1 ads1 x1 h1 r1 => ⟨own, ads1, ρ, μ1, dy, μ', h1, e2, fun w H2 ads2 x2 h2 r2 =>
    ⟨own, ads2, μ', _, _, dx, dy, d, h2.c, r1.ext h1.c x2, r2, hz, toFin (x1.trans x2) h2 q⟩⟩⟩
theorem s_neg {a : E} {x : Expr} {pos : Pos} (ha : Both X F x a) : Both X F (.UnaryOp .USub x pos) (.neg a) := by
  refine Both.mk' (PE.imp (pe_un un_D ha.v) ?_) rfl
  intro σ H Q ⟨own, ads, ρ, μ, d, μ', h, he, q⟩
  unfold ev at he
  obtain ⟨dx, μ1, e1, he⟩ := andThen_some he
  obtain ⟨hz, rfl⟩ := wthD_some he
  exact ⟨own, ads, ρ, μ, dx, μ', h, e1, fun v H1 ads1 x1 h1 r1 => ⟨own, ads1, μ', _, dx, d, h1.c, r1, hz, toFin x1 h1 q⟩⟩
theorem s_cmp {N fs : List Str} {n : Nat} {sc : Scope} (G : GX N fs F n sc X) {o : CmpOp} {a b : E} {x y : Expr} {pos : Pos} (ha : Both X F x a) (hb : Both X F y b) (hs : notSet y = true) : Both X F (.Compare x [o] [y] pos) (.cmp o a b) := by
  refine ⟨PE.imp (pe_cmpR (cm_D (room65 G.room) o) ha.v hb.v (marks_of hs o)) ?_, PT.imp (pt_cmpR (cm_D (room65 G.room) o) ha.v hb.v (marks_of hs o)) ?_⟩
  · intro σ H Q ⟨own, ads, ρ, μ, d, μ', h, he, q⟩
    unfold ev at he
    obtain ⟨dx, μ1, e1, he⟩ := andThen_some he
    obtain ⟨dy, μ2, e2, he⟩ := andThen_some he
    obtain ⟨hz, rfl⟩ := wthD_some he
    obtain ⟨r, hr, e3⟩ := Option.map_eq_some_iff.mp hz
    subst e3
    exact ⟨own, ads, ρ, μ, dx, μ1, h, e1, fun v H1 ads1 x1 h1 r1 => ⟨own, ads1, ρ, μ1, dy, μ', h1, e2, fun w H2 ads2 x2 h2 r2 =>
      ⟨own, ads2, μ', _, _, dx, dy, r, h2.c, r1.ext h1.c x2, r2, hr, q _ H2 ads2 (x1.trans x2) h2 (.inl (.bl r))⟩⟩⟩
  · intro σ H Q ⟨own, ads, ρ, μ, b', μ', h, he, q⟩
    unfold ev at he
    obtain ⟨dx, μ1, e1, he⟩ := andThen_some he
    obtain ⟨dy, μ2, e2, he⟩ := andThen_some he
    obtain ⟨hz, rfl⟩ := wthD_some he
    obtain ⟨r, hr, e3⟩ := Option.map_eq_some_iff.mp hz
    cases e3
    exact ⟨own, ads, ρ, μ, dx, μ1, h, e1, fun v H1 ads1 x1 h1 r1 => ⟨own, ads1, ρ, μ1, dy, μ', h1, e2, fun w H2 ads2 x2 h2 r2 =>
      ⟨own, ads2, μ', _, _, dx, dy, b', h2.c, r1.ext h1.c x2, r2, hr, b', rfl, q H2 ads2 (x1.trans x2) h2⟩⟩⟩
theorem cmp_bl {o : CmpOp} {dx dy : D} {z : Option D} {d : D} (h : (cmpD o dx dy).map D.bl = some d) : ∃ r, cmpD o dx dy = some r ∧ d = .bl r := by
  obtain ⟨r, h1, h2⟩ := Option.map_eq_some_iff.mp h
  exact ⟨r, h1, h2.symm⟩
theorem chn_go {o o' : CmpOp} {a b c : E} {ρ : Env} {μ μ' : Cells} {d : D} (he : ev F (.chn o o' a b c) ρ μ = some (d, μ')) : ∃ dx μ1 dy μ2 r, ev F a ρ μ = some (dx, μ1) ∧ ev F b ρ μ1 = some (dy, μ2) ∧ cmpD o dx dy = some r ∧
    ((r = false ∧ d = .bl false ∧ μ' = μ2) ∨ (r = true ∧ ∃ dz r', ev F c ρ μ2 = some (dz, μ') ∧ cmpD o' dy dz = some r' ∧ d = .bl r')) := by
  unfold ev at he
  obtain ⟨dx, μ1, e1, he⟩ := andThen_some he
  obtain ⟨dy, μ2, e2, he⟩ := andThen_some he
  split at he
  · rename_i hr
    obtain ⟨dz, μ3, e3, he⟩ := andThen_some he
    obtain ⟨hz, rfl⟩ := wthD_some he
    obtain ⟨r', h1, h2⟩ := Option.map_eq_some_iff.mp hz
    exact ⟨dx, μ1, dy, μ2, true, e1, e2, hr, .inr ⟨rfl, dz, r', e3, h1, h2.symm⟩⟩
  · rename_i hr
    cases he
    exact ⟨dx, μ1, dy, _, false, e1, e2, hr, .inl ⟨rfl, rfl, rfl⟩⟩
  · cases he
end
end FM

set_option Elab.async false
set_option linter.all false
set_option maxRecDepth 100000
set_option maxHeartbeats 4000000
/-! Ev7: chains, and, or, not, conditional expressions, displays, subscripts, slices, calls. -/
namespace FM
open PySem PySem.Spec PyProof.Rows L2
section
variable {X : Cx} {F : Fs}
theorem marks2 {b c : Expr} (h : notSet c = true) (o o' : CmpOp) : lastMarks [o, o'] [b, c] = false := marks_of h o'
theorem s_chn {N fs : List Str} {n : Nat} {sc : Scope} (G : GX N fs F n sc X) {o o' : CmpOp} {a b c : E} {x y z : Expr} {pos : Pos} (ha : Both X F x a) (hb : Both X F y b) (hc : Both X F z c) (hs : notSet z = true) :
    Both X F (.Compare x [o, o'] [y, z] pos) (.chn o o' a b c) := by
  have core : ∀ (σ : L2.St) (H : Hp) (Q : VK), tE X.K F (.chn o o' a b c) σ H Q → tChain (rCm X.K o) (rCm X.K o') (tE X.K F a) (tE X.K F b) (tE X.K F c) σ H Q := by
    intro σ H Q ⟨own, ads, ρ, μ, d, μ', h, he, q⟩
    obtain ⟨dx, μ1, dy, μ2, r, e1, e2, hr, hz⟩ := chn_go he
    refine ⟨own, ads, ρ, μ, dx, μ1, h, e1, fun v H1 ads1 x1 h1 r1 => ⟨own, ads1, ρ, μ1, dy, μ2, h1, e2, fun w H2 ads2 x2 h2 r2 => ?_⟩⟩
    refine ⟨own, ads2, μ2, _, _, dx, dy, r, h2.c, r1.ext h1.c x2, r2, hr, r, rfl, ?_⟩
    rcases hz with ⟨rfl, rfl, rfl⟩ | ⟨rfl, dz, r', e3, hr', rfl⟩
    · rw [if_neg Bool.false_ne_true]
      exact q _ H2 ads2 (x1.trans x2) h2 (.inl (.bl false))
    · rw [if_pos rfl]
      exact ⟨own, ads2, ρ, μ2, dz, μ', h2, e3, fun u H3 ads3 x3 h3 r3 => ⟨own, ads3, μ', _, _, dy, dz, r', h3.c, r2.ext h2.c x3, r3, hr', q _ H3 ads3 ((x1.trans x2).trans x3) h3 (.inl (.bl r'))⟩⟩
  refine ⟨PE.imp (pe_chain (cm_D (room65 G.room) o) (cm_D (room65 G.room) o') ha.v hb.v hc.v (marks2 hs o o')) core, PT.imp (pt_chain (cm_D (room65 G.room) o) (cm_D (room65 G.room) o') ha.v hb.v hc.v (marks2 hs o o')) ?_⟩
  intro σ H Q ⟨own, ads, ρ, μ, b', μ', h, he, q⟩
  refine core σ H _ ⟨own, ads, ρ, μ, .bl b', μ', h, he, fun v H' ads' e h' r => ⟨b', r.bl, q H' ads' e h'⟩⟩
theorem pw_of {op : BoolOp} {vs : List Expr} {pos : Pos} {t : TT} (h : PT X (.BoolOp op vs pos) t) : PW X (.BoolOp op vs pos) t := ⟨fun _ pins s σ H Q I q => h.run pins s σ H Q I q⟩
theorem and_go {a b : E} {ρ : Env} {μ μ' : Cells} {d : D} (he : ev F (.and a b) ρ μ = some (d, μ')) : ∃ x μ1, ev F a ρ μ = some (.bl x, μ1) ∧ ((x = false ∧ d = .bl false ∧ μ' = μ1) ∨ (x = true ∧ ∃ y, ev F b ρ μ1 = some (.bl y, μ') ∧ d = .bl y)) := by
  unfold ev at he
  obtain ⟨x, μ1, e1, he⟩ := onBl_some he
  cases x with
  | false => cases he; exact ⟨_, _, e1, .inl ⟨rfl, rfl, rfl⟩⟩
  | true =>
    obtain ⟨y, μ2, e2, he⟩ := onBl_some he
    cases he
    exact ⟨_, _, e1, .inr ⟨rfl, _, e2, rfl⟩⟩
theorem or_go {a b : E} {ρ : Env} {μ μ' : Cells} {d : D} (he : ev F (.or a b) ρ μ = some (d, μ')) : ∃ x μ1, ev F a ρ μ = some (.bl x, μ1) ∧ ((x = true ∧ d = .bl true ∧ μ' = μ1) ∨ (x = false ∧ ∃ y, ev F b ρ μ1 = some (.bl y, μ') ∧ d = .bl y)) := by
  unfold ev at he
  obtain ⟨x, μ1, e1, he⟩ := onBl_some he
  cases x with
  | true => cases he; exact ⟨_, _, e1, .inl ⟨rfl, rfl, rfl⟩⟩
  | false =>
    obtain ⟨y, μ2, e2, he⟩ := onBl_some he
    cases he
    exact ⟨_, _, e1, .inr ⟨rfl, _, e2, rfl⟩⟩
theorem s_and {a b : E} {x y : Expr} {r : List Expr} {pos : Pos} (ha : Both X F x a) (hb : (r = [] ∧ Both X F y b) ∨ (r ≠ [] ∧ Both X F (.BoolOp .And (y :: r) pos) b)) : Both X F (.BoolOp .And (x :: y :: r) pos) (.and a b) := by
  have hv : PE X (.BoolOp .And (y :: r) pos) (tE X.K F b) := by
    rcases hb with ⟨rfl, hb⟩ | ⟨_, hb⟩
    · exact pe_one hb.v
    · exact hb.v
  have ht : PW X (.BoolOp .And (y :: r) pos) (tT X.K F b) := by
    rcases hb with ⟨rfl, hb⟩ | ⟨_, hb⟩
    · exact pw_and1 hb.t
    · exact pw_of hb.t
  refine ⟨PE.imp (pe_and ha.v hv) ?_, PT.imp (pw_and ha.t ht).pt ?_⟩
  · intro σ H Q ⟨own, ads, ρ, μ, d, μ', h, he, q⟩
    obtain ⟨k, μ1, e1, hz⟩ := and_go he
    refine ⟨own, ads, ρ, μ, _, μ1, h, e1, fun v H1 ads1 x1 h1 r1 => ⟨k, r1.bl, ?_⟩⟩
    rcases hz with ⟨rfl, rfl, rfl⟩ | ⟨rfl, j, e2, rfl⟩
    · rw [if_neg Bool.false_ne_true]
      exact q _ H1 ads1 x1 h1 (.inl (.bl false))
    · rw [if_pos rfl]
      exact ⟨own, ads1, ρ, μ1, _, μ', h1, e2, fun w H2 ads2 x2 h2 r2 => q w H2 ads2 (x1.trans x2) h2 (.inl (by rw [r2.bl]; exact .bl j))⟩
  · intro σ H Q ⟨own, ads, ρ, μ, d, μ', h, he, q⟩
    obtain ⟨k, μ1, e1, hz⟩ := and_go he
    refine ⟨own, ads, ρ, μ, _, μ1, h, e1, fun H1 ads1 x1 h1 => ?_⟩
    rcases hz with ⟨rfl, ed, rfl⟩ | ⟨rfl, j, e2, ed⟩
    · cases ed
      rw [if_neg Bool.false_ne_true]
      exact q H1 ads1 x1 h1
    · cases ed
      rw [if_pos rfl]
      exact ⟨own, ads1, ρ, μ1, _, μ', h1, e2, fun H2 ads2 x2 h2 => q H2 ads2 (x1.trans x2) h2⟩
theorem s_or {a b : E} {x y : Expr} {r : List Expr} {pos : Pos} (ha : Both X F x a) (hb : (r = [] ∧ Both X F y b) ∨ (r ≠ [] ∧ Both X F (.BoolOp .Or (y :: r) pos) b)) : Both X F (.BoolOp .Or (x :: y :: r) pos) (.or a b) := by
  have hv : PE X (.BoolOp .Or (y :: r) pos) (tE X.K F b) := by
    rcases hb with ⟨rfl, hb⟩ | ⟨_, hb⟩
    · exact pe_one hb.v
    · exact hb.v
  have ht : PW X (.BoolOp .Or (y :: r) pos) (tT X.K F b) := by
    rcases hb with ⟨rfl, hb⟩ | ⟨_, hb⟩
    · exact pw_or1 hb.t
    · exact pw_of hb.t
  refine ⟨PE.imp (pe_or ha.v hv) ?_, PT.imp (pw_or ha.t ht).pt ?_⟩
  · intro σ H Q ⟨own, ads, ρ, μ, d, μ', h, he, q⟩
    obtain ⟨k, μ1, e1, hz⟩ := or_go he
    refine ⟨own, ads, ρ, μ, _, μ1, h, e1, fun v H1 ads1 x1 h1 r1 => ⟨k, r1.bl, ?_⟩⟩
    rcases hz with ⟨rfl, rfl, rfl⟩ | ⟨rfl, j, e2, rfl⟩
    · rw [if_pos rfl]
      exact q _ H1 ads1 x1 h1 (.inl (.bl true))
    · rw [if_neg Bool.false_ne_true]
      exact ⟨own, ads1, ρ, μ1, _, μ', h1, e2, fun w H2 ads2 x2 h2 r2 => q w H2 ads2 (x1.trans x2) h2 (.inl (by rw [r2.bl]; exact .bl j))⟩
  · intro σ H Q ⟨own, ads, ρ, μ, d, μ', h, he, q⟩
    obtain ⟨k, μ1, e1, hz⟩ := or_go he
    refine ⟨own, ads, ρ, μ, _, μ1, h, e1, fun H1 ads1 x1 h1 => ?_⟩
    rcases hz with ⟨rfl, ed, rfl⟩ | ⟨rfl, j, e2, ed⟩
    · cases ed
      rw [if_pos rfl]
      exact q H1 ads1 x1 h1
    · cases ed
      rw [if_neg Bool.false_ne_true]
      exact ⟨own, ads1, ρ, μ1, _, μ', h1, e2, fun H2 ads2 x2 h2 => q H2 ads2 (x1.trans x2) h2⟩
theorem s_not {a : E} {x : Expr} {pos : Pos} (ha : Both X F x a) : Both X F (.UnaryOp .Not x pos) (.not a) := by
  refine ⟨PE.imp (pe_not ha.v) ?_, PT.imp (pt_not ha.t) ?_⟩
  · intro σ H Q ⟨own, ads, ρ, μ, d, μ', h, he, q⟩
    unfold ev at he
    obtain ⟨k, μ1, e1, he⟩ := onBl_some he
    cases he
    exact ⟨own, ads, ρ, μ, _, _, h, e1, fun v H1 ads1 x1 h1 r1 => ⟨k, r1.bl, q _ H1 ads1 x1 h1 (.inl (.bl (!k)))⟩⟩
  · intro σ H Q ⟨own, ads, ρ, μ, d, μ', h, he, q⟩
    unfold ev at he
    obtain ⟨k, μ1, e1, he⟩ := onBl_some he
    cases he
    exact ⟨own, ads, ρ, μ, _, _, h, e1, fun H1 ads1 x1 h1 => q H1 ads1 x1 h1⟩
theorem RepB.mono {K : PySem.W.Frag} {own : Addr → Prop} {ads : List Addr} {H : Hp} {b b' : Bool} {v : V} {d : D} (h : RepB K own ads H b v d) (i : b = true → b' = true) : RepB K own ads H b' v d := by
  rcases h with h | ⟨h, z⟩
  · exact .inl h
  · exact .inr ⟨i h, z⟩
theorem pt_ifExp {c x y : Expr} {tc tx ty : TT} {pos : Pos} (hc : PT X c tc) (hx : PT X x tx) (hy : PT X y ty) : PT X (.IfExp c x y pos) (fun σ H Q => tc σ H fun b H1 => if b = true then tx σ H1 Q else ty σ H1 Q) := by
  refine ⟨fun pins s σ H Q I h => ?_⟩
  refine isTrue_IfExp (thn (hc.run pins s σ H _ I h) fun d s1 ⟨H1, I1, q1⟩ => ?_)
  cases d with
  | true => exact hx.run pins s1 σ H1 Q I1 q1
  | false => exact hy.run pins s1 σ H1 Q I1 q1
theorem s_ife {c a b : E} {z x y : Expr} {pos : Pos} (hc : Both X F z c) (ha : Both X F x a) (hb : Both X F y b) : Both X F (.IfExp z x y pos) (.ife c a b) := by
  refine ⟨PE.imp (pe_ifExp hc.t ha.v hb.v) ?_, PT.imp (pt_ifExp hc.t ha.t hb.t) ?_⟩
  · intro σ H Q ⟨own, ads, ρ, μ, d, μ', h, he, q⟩
    unfold ev at he
    obtain ⟨k, μ1, e1, he⟩ := onBl_some he
    refine ⟨own, ads, ρ, μ, _, _, h, e1, fun H1 ads1 x1 h1 => ?_⟩
    cases k with
    | true =>
      rw [if_pos rfl] at he ⊢
      refine ⟨own, ads1, ρ, μ1, d, μ', h1, he, fun v H2 ads2 x2 h2 r2 => q v H2 ads2 (x1.trans x2) h2 (r2.mono fun z => ?_)⟩
      show (lk ρ a || lk ρ b) = true
      rw [z]; rfl
    | false =>
      rw [if_neg Bool.false_ne_true] at he ⊢
      refine ⟨own, ads1, ρ, μ1, d, μ', h1, he, fun v H2 ads2 x2 h2 r2 => q v H2 ads2 (x1.trans x2) h2 (r2.mono fun z => ?_)⟩
      show (lk ρ a || lk ρ b) = true
      rw [z, Bool.or_true]
  · intro σ H Q ⟨own, ads, ρ, μ, d, μ', h, he, q⟩
    unfold ev at he
    obtain ⟨k, μ1, e1, he⟩ := onBl_some he
    refine ⟨own, ads, ρ, μ, _, _, h, e1, fun H1 ads1 x1 h1 => ?_⟩
    cases k with
    | true =>
      rw [if_pos rfl] at he ⊢
      exact ⟨own, ads1, ρ, μ1, d, μ', h1, he, fun H2 ads2 x2 h2 => q H2 ads2 (x1.trans x2) h2⟩
    | false =>
      rw [if_neg Bool.false_ne_true] at he ⊢
      exact ⟨own, ads1, ρ, μ1, d, μ', h1, he, fun H2 ads2 x2 h2 => q H2 ads2 (x1.trans x2) h2⟩

/-! ### lists of expressions -/
theorem s_nil : PA X [] (tEs X.K F .nil) := PA.imp pa_nil fun σ H Q ⟨own, ads, ρ, μ, ds, μ', h, he, q⟩ => by
  cases he
  exact q [] H ads .refl h True.intro fun _ => .nil
theorem s_cons {e : E} {es : Es} {x : Expr} {xs : List Expr} (h1 : Both X F x e) (h2 : PA X xs (tEs X.K F es)) (hs : notStar x = true) : PA X (x :: xs) (tEs X.K F (.cons e es)) := by
  refine PA.imp (pa_cons h1.v h2 (starEach_cons hs _ _)) ?_
  intro σ H Q ⟨own, ads, ρ, μ, ds, μ', h, he, q⟩
  unfold evs at he
  obtain ⟨d, μ1, e1, he⟩ := andThen_some he
  obtain ⟨ds', μ2, e2, he⟩ := andThen_some he
  cases he
  refine ⟨own, ads, ρ, μ, d, μ1, h, e1, fun v H1 ads1 x1 h1 r1 => ⟨own, ads1, ρ, μ1, ds', _, h1, e2, fun vs H2 ads2 x2 h2 r2 p2 => ?_⟩⟩
  refine q (v :: vs) H2 ads2 (x1.trans x2) h2 ⟨(r1.ext h1.c x2).mono fun _ => rfl, r2⟩ fun z => ?_
  have z' : (lk ρ e || lks ρ es) = false := z
  rw [Bool.or_eq_false_iff] at z'
  rw [z'.1] at r1
  exact .cons (r1.plain.ext x2) (p2 z'.2)
theorem s_tup {es : Es} {xs : List Expr} {k : Nat} {pos : Pos} (h : PA X xs (tEs X.K F es)) : Both X F (.Tuple xs k pos) (.tup es) := by
  refine Both.mk' (PE.imp (pe_tup h) ?_) rfl
  intro σ H Q ⟨own, ads, ρ, μ, d, μ', h, he, q⟩
  unfold ev at he
  split at he
  · cases he
  · rename_i hl
    obtain ⟨ds, μ1, e1, he⟩ := andThen_some he
    split at he
    · rename_i hz
      cases he
      refine ⟨own, ads, ρ, μ, ds, _, h, e1, fun vs H1 ads1 x1 h1 r1 p1 => ?_⟩
      have l := p1 (by simpa using hl)
      exact ⟨by rw [l.length]; exact hz, (toFin x1 h1 q).newT h1.c l⟩
    · cases he
theorem s_lst {es : Es} {xs : List Expr} {pos : Pos} (h : PA X xs (tEs X.K F es)) : Both X F (.List xs pos) (.lst es) := by
  refine Both.mk' (PE.imp (pe_lst h) ?_) rfl
  intro σ H Q ⟨own, ads, ρ, μ, d, μ', h, he, q⟩
  unfold ev at he
  split at he
  · cases he
  · rename_i hl
    obtain ⟨ds, μ1, e1, he⟩ := andThen_some he
    split at he
    · rename_i hz
      cases he
      refine ⟨own, ads, ρ, μ, ds, _, h, e1, fun vs H1 ads1 x1 h1 r1 p1 => ?_⟩
      have l := p1 (by simpa using hl)
      exact ⟨by rw [l.length]; exact hz, (toFin x1 h1 q).newL h1.c l⟩
    · cases he
theorem s_ix {N fs : List Str} {n : Nat} {sc : Scope} (G : GX N fs F n sc X) {a b : E} {x y : Expr} {pos : Pos} (ha : Both X F x a) (hb : Both X F y b) (hs : notSlice y = true) : Both X F (.Subscript x y pos) (.ix a b) := by
  refine Both.mk' (PE.imp (pe_ix (ix_D (hu_of G.room)) ha.v hb.v (plainIx_of hs)) ?_) rfl
  intro σ H Q ⟨own, ads, ρ, μ, d, μ', h, he, q⟩
  unfold ev at he
  obtain ⟨dx, μ1, e1, he⟩ := andThen_some he
  obtain ⟨dy, μ2, e2, he⟩ := andThen_some he
  obtain ⟨hz, rfl⟩ := wthD_some he
  exact ⟨own, ads, ρ, μ, dx, μ1, h, e1, fun v H1 ads1 x1 h1 r1 => ⟨own, ads1, ρ, μ1, dy, μ', h1, e2, fun w H2 ads2 x2 h2 r2 =>
    ⟨own, ads2, μ', _, _, dx, dy, d, h2.c, r1.ext h1.c x2, r2, hz, toFin (x1.trans x2) h2 q⟩⟩⟩
theorem s_onone : PO X none (tEO X.K F .none) := PO.imp po_none fun σ H Q ⟨own, ads, ρ, μ, d, μ', h, he, q⟩ => by
  cases he
  exact q H ads .refl h
theorem s_osome {e : E} {x : Expr} (h : Both X F x e) : PO X (some x) (tEO X.K F (.some e)) := by
  refine PO.imp (po_some h.v) ?_
  intro σ H Q ⟨own, ads, ρ, μ, d, μ', h, he, q⟩
  unfold evo at he
  obtain ⟨dx, μ1, e1, he⟩ := andThen_some he
  split at he
  · cases he
    exact ⟨own, ads, ρ, μ, _, _, h, e1, fun v H1 ads1 x1 h1 r1 => ⟨_, r1.int, q H1 ads1 x1 h1⟩⟩
  · cases he
theorem s_sl {a : E} {lo hi : EO} {x : Expr} {l h : Option Expr} {p2 pos : Pos} (ha : Both X F x a) (hl : PO X l (tEO X.K F lo)) (hh : PO X h (tEO X.K F hi)) : Both X F (.Subscript x (.Slice l h none p2) pos) (.sl a lo hi) := by
  refine Both.mk' (PE.imp (pe_slice sl_D ha.v hl hh) ?_) rfl
  intro σ H Q ⟨own, ads, ρ, μ, d, μ', h, he, q⟩
  unfold ev at he
  obtain ⟨dx, μ1, e1, he⟩ := andThen_some he
  obtain ⟨dl, μ2, e2, he⟩ := andThen_some he
  obtain ⟨dh, μ3, e3, he⟩ := andThen_some he
  obtain ⟨hz, rfl⟩ := wthD_some he
  exact ⟨own, ads, ρ, μ, dx, μ1, h, e1, fun v H1 ads1 x1 h1 r1 => ⟨own, ads1, ρ, μ1, dl, μ2, h1, e2, fun H2 ads2 x2 h2 => ⟨own, ads2, ρ, μ2, dh, μ', h2, e3, fun H3 ads3 x3 h3 =>
    ⟨own, ads3, μ', _, dx, d, h3.c, (r1.ext h1.c x2).ext h2.c x3, hz, toFin ((x1.trans x2).trans x3) h3 q⟩⟩⟩⟩
theorem s_cnone : PTs X [] (tC' X.K F .none) := PTs.imp pts_nil fun σ H Q ⟨own, ads, ρ, μ, d, μ', h, he, q⟩ => by
  cases he
  exact q H ads .refl h
theorem s_csome {e : E} {x : Expr} (h : Both X F x e) : PTs X [x] (tC' X.K F (.some e)) := by
  refine PTs.imp (pts_one h.t) ?_
  intro σ H Q ⟨own, ads, ρ, μ, d, μ', h, he, q⟩
  unfold evc at he
  obtain ⟨k, μ1, e1, he⟩ := onBl_some he
  cases he
  exact ⟨own, ads, ρ, μ, _, _, h, e1, q⟩
/-! ### built-ins, isinstance, methods -/
theorem noStarAny : ∀ {es : List Expr} {env : PySem.Env} {pos : Pos}, (∀ x ∈ es, notStar x = true) → (backTo pos (starEach es env)).any (·.1) = false
  | [], _, _, _ => rfl
  | e :: es, env, pos, h => by
    rw [starEach_cons (h e List.mem_cons_self)]
    have ih := noStarAny (es := es) (env := env) (pos := pos) fun x hx => h x (List.mem_cons_of_mem _ hx)
    exact ih
theorem s_bi {N fs : List Str} {n : Nat} {sc : Scope} (G : GX N fs F n sc X) {b : Bi} {es : Es} {g : Str} {x : Expr} {xs : List Expr} {p pos : Pos} (hg : g = b.name) (hgl : gloB sc g = true) (hst : ∀ y ∈ x :: xs, notStar y = true) (h : PA X (x :: xs) (tEs X.K F es)) :
    Both X F (.Call (.Name g p) (x :: xs) [] pos) (.bi b es) := by
  have hn : X.mg g = none := G.bn g (by subst hg; cases b <;> decide +kernel)
  have hb : bootBuiltins g = some b.val := by rw [hg]; exact b.boot
  have core : PE X (.Call (.Name g p) (x :: xs) [] pos) (tCB (rBi X.K b) (tEs X.K F es)) := by
    have hc := bi_D (X := X) G.calm b
    have n1 : g ≠ "__name__" := by subst hg; cases b <;> decide +kernel
    have n2 : (g == ("__debug__" : Str)) = false := by subst hg; cases b <;> decide +kernel
    have n3 := starEach_cons (hst x List.mem_cons_self) xs X.env
    have n4 := noStarAny (env := X.env) (pos := pos) fun y hy => hst y (List.mem_cons_of_mem _ hy)
    cases b <;> first
      | exact pe_callB hc (G.glo g hgl) hn hb h n1 n2 n3 n4
      | exact pe_callTy hc (G.glo g hgl) hn hb h n1 n2 n3 n4
  refine Both.mk' (PE.imp core ?_) rfl
  intro σ H Q ⟨own, ads, ρ, μ, d, μ', h, he, q⟩
  unfold ev at he
  obtain ⟨ds, μ1, e1, he⟩ := andThen_some he
  obtain ⟨hz, rfl⟩ := wthD_some he
  exact ⟨own, ads, ρ, μ, ds, μ', h, e1, fun vs H1 ads1 x1 h1 r1 _ => ⟨own, ads1, μ', ds, d, h1.c, r1, hz, toFin x1 h1 q⟩⟩
theorem s_isi {N fs : List Str} {n : Nat} {sc : Scope} (G : GX N fs F n sc X) {a : E} {t : Ty} {x : Expr} {p p2 pos : Pos} (hgl : gloB sc "isinstance" = true) (hgt : gloB sc t.py = true) (hs : notStar x = true) (h : Both X F x a) :
    Both X F (.Call (.Name "isinstance" p) [x, .Name t.py p2] [] pos) (.isi a t) := by
  have hn : X.mg "isinstance" = none := G.bn _ (by decide +kernel)
  have hn2 : X.mg t.py = none := G.bn _ (by cases t <;> decide +kernel)
  have he : PE X (.Name t.py p2) (tC (.ty t.name)) := pe_bltn (G.glo _ hgt) hn2 t.boot rfl (by cases t <;> decide +kernel) (by cases t <;> decide +kernel)
  have core := pe_callB (X := X) (pos := pos) (p := p) call_isi (G.glo _ hgl) hn (by decide +kernel) (pa_cons h.v (pa_cons he pa_nil) (starEach_cons hs _ _)) (by decide +kernel) (by decide +kernel) (starEach_cons hs _ _) rfl
  refine Both.mk' (PE.imp core ?_) rfl
  intro σ H Q ⟨own, ads, ρ, μ, d, μ', h, he, q⟩
  unfold ev at he
  obtain ⟨dx, μ1, e1, he⟩ := andThen_some he
  obtain ⟨hz, rfl⟩ := wthD_some he
  obtain ⟨r, hr, e3⟩ := Option.map_eq_some_iff.mp hz
  subst e3
  refine ⟨own, ads, ρ, μ, dx, μ', h, e1, fun v H1 ads1 x1 h1 r1 => ?_⟩
  obtain ⟨u, ty, kk⟩ := isi_kit r1 hr
  exact ⟨v, .ty t.name, u, .type t.name, r, rfl, .ty _, ty, kk, q _ H1 ads1 x1 h1 (.inl (.bl r))⟩
end
end FM

set_option Elab.async false
set_option linter.all false
set_option maxRecDepth 100000
set_option maxHeartbeats 4000000
/-! Ev8: methods, calls, targets, iterators, comprehensions. -/
namespace FM
open PySem PySem.Spec PyProof.Rows L2
section
variable {X : Cx} {F : Fs}

/-! ### methods -/
theorem meD_bits {x z : D} {ds : List D} (h : meD .bits x ds = some z) : ∃ i, x = .int i ∧ z = .int (Builtin.Int.intBits i : Nat) := by
  cases x with
  | int i =>
    cases ds with
    | nil => cases h; exact ⟨i, rfl, rfl⟩
    | cons _ _ => cases h
  | _ => cases h
theorem meD_partition {x z : D} {ds : List D} (h : meD .partition x ds = some z) : ∃ a b, x = .str a ∧ ds = [.str b] ∧ (b.length == 0) = false ∧ a.length ≤ sizeLine ∧ z = .tup [.str (Txt.partition a b).1, .str (Txt.partition a b).2.1, .str (Txt.partition a b).2.2] := by
  unfold meD at h
  split at h
  · contradiction
  · split at h
    · rename_i hc
      cases h
      exact ⟨_, _, rfl, rfl, hc.1, hc.2, rfl⟩
    · cases h
  · contradiction
  · cases h
theorem meD_join {x z : D} {ds : List D} (h : meD .join x ds = some z) : ∃ a ys, x = .str a ∧ ds = [.lst (ys.map D.str)] ∧ (ys.map (·.length)).sum + ys.length * a.length ≤ 16777216 ∧ z = .str (Txt.join a ys) := by
  unfold meD at h
  split at h
  · contradiction
  · contradiction
  · split at h
    · rename_i hy
      split at h
      · rename_i hc
        cases h
        exact ⟨_, _, rfl, by rw [asStrs_ok hy], hc, rfl⟩
      · cases h
    · cases h
  · cases h
theorem me_go {m : Me} {a : E} {es : Es} {ρ : Env} {μ μ' : Cells} {d : D} (he : ev F (.me m a es) ρ μ = some (d, μ')) : ∃ x μ1 ds, ev F a ρ μ = some (x, μ1) ∧ evs F es ρ μ1 = some (ds, μ') ∧ meD m x ds = some d := by
  unfold ev at he
  obtain ⟨x, μ1, e1, he⟩ := andThen_some he
  obtain ⟨ds, μ2, e2, he⟩ := andThen_some he
  obtain ⟨hz, rfl⟩ := wthD_some he
  exact ⟨x, μ1, ds, e1, e2, hz⟩
theorem s_bits {a : E} {x : Expr} {apos pos : Pos} (ha : Both X F x a) (hb : baseOk x = true) (hl : (apos.endLine == pos.line) = true) : Both X F (.Call (.Attribute x "bit_length" apos) [] [] pos) (.me .bits a .nil) := by
  refine Both.mk' (PE.imp (pe_bits ha.v (base_of hb _ _) hl) ?_) rfl
  intro σ H Q ⟨own, ads, ρ, μ, d, μ', h, he, q⟩
  obtain ⟨dx, μ1, ds, e1, e2, hz⟩ := me_go he
  cases e2
  obtain ⟨i, rfl, rfl⟩ := meD_bits hz
  exact ⟨own, ads, ρ, μ, _, _, h, e1, fun v H1 ads1 x1 h1 r1 => ⟨_, r1.int, q _ H1 ads1 x1 h1 (.inl (.int _))⟩⟩
theorem one_arg {y : Expr} (hs : notStar y = true) (env : PySem.Env) (cpos : Pos) : ((backTo cpos (starEach [y] env)).all (fun x => !x.1) && (backToKw cpos (keywordEach [] env)).all (fun x => x.1.isSome)
      && decide (([y] : List Expr).length + ([] : List Keyword).length + (if ([] : List Keyword).isEmpty then 0 else 1) < 30)) = true := by
  rw [starEach_cons hs]
  rfl
theorem s_partition {a : E} {es : Es} {x y : Expr} {apos pos : Pos} (ha : Both X F x a) (he : PA X [y] (tEs X.K F es)) (hs : notStar y = true) (hb : baseOk x = true) (hl : (apos.endLine == pos.line) = true) :
    Both X F (.Call (.Attribute x "partition" apos) [y] [] pos) (.me .partition a es) := by
  refine Both.mk' (PE.imp (pe_bm PySem.F.plainAttrs_str PySem.F.slot_str_partition PySem.F.type_str_partition mt_partition ha.v he (base_of hb _ _) (one_arg hs _ _) hl (starEach_cons hs _ _) rfl) ?_) rfl
  intro σ H Q ⟨own, ads, ρ, μ, d, μ', h, he, q⟩
  obtain ⟨dx, μ1, ds, e1, e2, hz⟩ := me_go he
  obtain ⟨s, t, rfl, rfl, c1, c2, rfl⟩ := meD_partition hz
  refine ⟨own, ads, ρ, μ, _, _, h, e1, fun v H1 ads1 x1 h1 r1 => ?_⟩
  have ev := r1.str
  subst ev
  refine ⟨rfl, own, ads1, ρ, μ1, _, _, h1, e2, fun vs H2 ads2 x2 h2 r2 _ => ?_⟩
  obtain ⟨w, ew, r3⟩ := r2.one
  have ew2 := r3.str
  subst ew ew2
  exact ⟨_, _, rfl, rfl, c1, c2, (toFin (x1.trans x2) h2 q).newT h2.c (.cons (.str _) (.cons (.str _) (.cons (.str _) .nil)))⟩
theorem s_join {a : E} {es : Es} {x y : Expr} {apos pos : Pos} (ha : Both X F x a) (he : PA X [y] (tEs X.K F es)) (hs : notStar y = true) (hb : baseOk x = true) (hl : (apos.endLine == pos.line) = true) :
    Both X F (.Call (.Attribute x "join" apos) [y] [] pos) (.me .join a es) := by
  refine Both.mk' (PE.imp (pe_bm PySem.F.plainAttrs_str PySem.F.slot_str_join PySem.F.type_str_join mt_join ha.v he (base_of hb _ _) (one_arg hs _ _) hl (starEach_cons hs _ _) rfl) ?_) rfl
  intro σ H Q ⟨own, ads, ρ, μ, d, μ', h, he, q⟩
  obtain ⟨dx, μ1, ds, e1, e2, hz⟩ := me_go he
  obtain ⟨s, ys, rfl, rfl, c1, rfl⟩ := meD_join hz
  refine ⟨own, ads, ρ, μ, _, _, h, e1, fun v H1 ads1 x1 h1 r1 => ?_⟩
  have ev := r1.str
  subst ev
  refine ⟨rfl, own, ads1, ρ, μ1, _, _, h1, e2, fun vs H2 ads2 x2 h2 r2 _ => ?_⟩
  obtain ⟨w, ew, r3⟩ := r2.one
  obtain ⟨p, zs, ew2, t3, l3⟩ := r3.lst
  subst ew ew2
  have e3 := l3.strs
  subst e3
  exact ⟨_, _, ys, rfl, rfl, .inl t3, c1, (toFin (x1.trans x2) h2 q).str h2.c⟩

/-! ### calls of defs -/
theorem s_call {N fs : List Str} {n : Nat} {sc : Scope} (G : GX N fs F n sc X) {f : Nat} {g : Str} {es : Es} {xs : List Expr} {p pos : Pos} (hf : fs[f]? = some g) (hgl : gloB sc g = true) (hd : (g == ("__debug__" : Str)) = false) (hst : ∀ y ∈ xs, notStar y = true) (hne : xs = [] → es = .nil)
    (h : PA X xs (tEs X.K F es)) : Both X F (.Call (.Name g p) xs [] pos) (.call f es) := by
  refine Both.mk' ⟨fun pins s σ H Q I hq => ?_⟩ rfl
  obtain ⟨own, ads, ρ, μ, d, μ', h0, he, q⟩ := hq
  unfold ev at he
  split at he
  · cases he
  · rename_i hl
    obtain ⟨ds, μ1, e1, he⟩ := andThen_some he
    obtain ⟨a, fd, ps, m1, m2, m3, m4, m5⟩ := G.fn f g hf ds μ1 d μ' he
    have read : tCall (spF X.K ps.length (F f)) [] E0 (tEs X.K F es) σ H Q := by
      refine ⟨own, ads, ρ, μ, ds, μ1, h0, e1, fun vs H1 ads1 x1 h1 r1 p1 => ?_⟩
      have l := p1 (by simpa using hl)
      refine ⟨by rw [List.append_nil, l.length, m4], own, ads1, ds, μ1, d, μ', by rw [List.append_nil]; exact l, h1.c, he, ?_⟩
      exact toFin x1 h1 q
    cases xs with
    | nil =>
      have hnil : tCall (spF X.K ps.length (F f)) [] E0 tNil σ H Q := by
        obtain rfl := hne rfl
        cases e1
        exact ⟨by rw [List.append_nil, m4]; rfl, own, ads, [], _, d, μ', .nil, h0.c, he, toFin .refl h0 q⟩
      exact (pe_call0 m5 G.room (G.glo g hgl) m1 m2 m3 .nil pass0 hd).run pins s σ H Q I hnil
    | cons y ys =>
      exact (pe_call m5 G.room (G.glo g hgl) m1 m2 m3 .nil pass0 h hd (starEach_cons (hst y List.mem_cons_self) _ _) (noStarAny fun z hz => hst z (List.mem_cons_of_mem _ hz))).run pins s σ H Q I read
end
end FM

set_option Elab.async false
set_option linter.all false
set_option maxRecDepth 100000
set_option maxHeartbeats 4000000
/-! Ev9: calls that borrow, targets, iterators. -/
namespace FM
open PySem PySem.Spec PyProof.Rows L2

/-! ### calls that borrow -/
/-- the own lists and the cells, but those handed over -/
def less (own : Addr → Prop) (ads : List Addr) (vs : List V) : Addr → Prop := fun b => Zo own ads b ∧ V.ref b ∉ vs
mutual
theorem Rep.bare {K : PySem.W.Frag} {Z Z' : Addr → Prop} {ads ads' : List Addr} {H : Hp} (hz : ∀ b, Z' b → Z b) : ∀ (d : D) (v : V), Rep K Z ads H v d → d.noCell = true → Rep K Z' ads' H v d
  | .non, _, h, _ => by cases h; exact .non
  | .bl b, _, h, _ => by cases h; exact .bl b
  | .int i, _, h, _ => by cases h; exact .int i
  | .str x, _, h, _ => by cases h; exact .str x
  | .tup ds, _, h, n => by
    cases h with
    | tup h1 h2 => exact .tup (h1.elim (fun z => .inl ⟨z.1, fun q => z.2 (hz _ q)⟩) .inr) (RepL.bare hz ds _ h2 n)
  | .lst ds, _, h, n => by
    cases h with
    | lst h1 h2 => exact .lst (h1.elim (fun z => .inl ⟨z.1, fun q => z.2 (hz _ q)⟩) .inr) (RepL.bare hz ds _ h2 n)
  | .cell k, _, h, n => by cases n
theorem RepL.bare {K : PySem.W.Frag} {Z Z' : Addr → Prop} {ads ads' : List Addr} {H : Hp} (hz : ∀ b, Z' b → Z b) : ∀ (ds : List D) (vs : List V), RepL K Z ads H vs ds → noCells ds = true → RepL K Z' ads' H vs ds
  | [], _, h, _ => by cases h; exact .nil
  | d :: ds, _, h, n => by
    cases h with
    | cons h1 h2 =>
      have n' : (d.noCell && noCells ds) = true := n
      rw [Bool.and_eq_true] at n'
      exact .cons (Rep.bare hz d _ h1 n'.1) (RepL.bare hz ds _ h2 n'.2)
end
mutual
/-- data without lists and cells: whatever is owned -/
theorem Rep.deep {K : PySem.W.Frag} {Z Z' : Addr → Prop} {ads ads' : List Addr} {H : Hp} (hz : ∀ a xs, Rd H a (.tup xs) → ¬ Z' a) : ∀ (d : D) (v : V), Rep K Z ads H v d → d.noCell = true → d.noLst = true → Rep K Z' ads' H v d
  | .non, _, h, _, _ => by cases h; exact .non
  | .bl b, _, h, _, _ => by cases h; exact .bl b
  | .int i, _, h, _, _ => by cases h; exact .int i
  | .str x, _, h, _, _ => by cases h; exact .str x
  | .tup ds, _, h, n, m => by
    cases h with
    | tup h1 h2 => exact .tup (h1.elim (fun z => .inl ⟨z.1, hz _ _ z.1⟩) .inr) (RepL.deep hz ds _ h2 n m)
  | .lst ds, _, h, n, m => by cases m
  | .cell k, _, h, n, m => by cases n
theorem RepL.deep {K : PySem.W.Frag} {Z Z' : Addr → Prop} {ads ads' : List Addr} {H : Hp} (hz : ∀ a xs, Rd H a (.tup xs) → ¬ Z' a) : ∀ (ds : List D) (vs : List V), RepL K Z ads H vs ds → noCells ds = true → noLsts ds = true → RepL K Z' ads' H vs ds
  | [], _, h, _, _ => by cases h; exact .nil
  | d :: ds, _, h, n, m => by
    cases h with
    | cons h1 h2 =>
      have n' : (d.noCell && noCells ds) = true := n
      have m' : (d.noLst && noLsts ds) = true := m
      rw [Bool.and_eq_true] at n' m'
      exact .cons (Rep.deep hz d _ h1 n'.1 m'.1) (RepL.deep hz ds _ h2 n'.2 m'.2)
end
theorem RepBL.bare {K : PySem.W.Frag} {own : Addr → Prop} {ads : List Addr} {H : Hp} (ws : List V) : ∀ (vs : List V) (ds : List D), (∀ v ∈ vs, v ∈ ws) → RepBL K own ads H vs ds → noCells ds = true → RepL K (Zo (less own ads ws) []) [] H vs ds
  | [], [], _, _, _ => .nil
  | v :: vs, d :: ds, hw, h, n => by
    have n' : (d.noCell && noCells ds) = true := n
    rw [Bool.and_eq_true] at n'
    have hz : ∀ b, Zo (less own ads ws) [] b → Zo own ads b := fun b z => z.elim (fun z => z.1) fun z => nomatch z
    refine .cons ?_ (RepBL.bare ws vs ds (fun x hx => hw x (List.mem_cons_of_mem _ hx)) h.2 n'.2)
    rcases h.1 with h1 | ⟨_, a, xs, es, e1, e2, e3, e4, e5⟩
    · exact h1.bare hz d v n'.1
    · subst e1 e2
      refine .lst (.inl ⟨.inl e3, fun z => ?_⟩) (e5.bare hz es xs n'.1)
      rcases z with z | z
      · exact z.2 (hw _ List.mem_cons_self)
      · exact nomatch z
  | [], _ :: _, _, h, _ => h.elim
  | _ :: _, [], _, h, _ => h.elim
section
variable {X : Cx} {F : Fs}
theorem s_callB {N fs : List Str} {n : Nat} {sc : Scope} (G : GX N fs F n sc X) {f : Nat} {g : Str} {es : Es} {xs : List Expr} {p pos : Pos} (hf : fs[f]? = some g) (hgl : gloB sc g = true) (hd : (g == ("__debug__" : Str)) = false) (hst : ∀ y ∈ xs, notStar y = true) (hne : xs ≠ [])
    (h : PA X xs (tEs X.K F es)) : Both X F (.Call (.Name g p) xs [] pos) (.callB f es) := by
  refine Both.mk' ⟨fun pins s σ H Q I hq => ?_⟩ rfl
  obtain ⟨own, ads, ρ, μ, d, μ', h0, he, q⟩ := hq
  unfold ev at he
  obtain ⟨ds, μ1, e1, he⟩ := andThen_some he
  split at he
  · rename_i hnc
    split at he
    · rename_i d' μ2 hF
      split at he
      · rename_i hdd
        cases he
        rw [Bool.and_eq_true] at hdd
        obtain ⟨a, fd, ps, m1, m2, m3, m4, m5⟩ := G.fn f g hf ds [] d μ2 hF
        have read : tCall (spF X.K ps.length (F f)) [] E0 (tEs X.K F es) σ H Q := by
          refine ⟨own, ads, ρ, μ, ds, _, h0, e1, fun vs H1 ads1 x1 h1 r1 _ => ?_⟩
          have l := RepBL.bare vs vs ds (fun _ z => z) r1 hnc
          have c0 : CellsR X.K (less own ads1 vs) [] H1 [] := ⟨rfl, .nil, fun k a e => by simp at e, fun a z => (nomatch z), fun b z => by
            rcases z.1 with w | w
            · exact h1.c.ownT b w
            · obtain ⟨k, hk⟩ := List.mem_iff_getElem?.mp w
              obtain ⟨kvs, _, _, w2, _⟩ := h1.c.at k b hk
              exact ⟨_, w2, True.intro⟩⟩
          refine ⟨by rw [List.append_nil, l.length, m4], less own ads1 vs, [], ds, [], d, μ2, by rw [List.append_nil]; exact l, c0, hF, ?_⟩
          intro v H2 ads2 x2 c2 r2
          have keep : ∀ b o, H1 b = some o → H2 b = some o := fun b o w => x2.keep b o w (fun z => nomatch z)
          have x3 : Ext ads1 H1 ads1 H2 := ⟨fun b o w _ => keep b o w, x2.there, fun b w => .inl w, fun _ _ w => w⟩
          have c3 : CellsR X.K own ads1 H2 μ' := h1.c.same x3 fun a ha => by
            obtain ⟨k, hk⟩ := List.mem_iff_getElem?.mp ha
            obtain ⟨kvs, _, _, w2, _⟩ := h1.c.at k a hk
            rw [w2, keep _ _ w2]
          refine q v H2 ads1 (x1.trans x3) ⟨h1.e.ext h1.c x3, c3, h1.len⟩ (.inl ?_)
          refine r2.plain.deep (fun a xs t z => ?_) d v hdd.1 hdd.2
          have w : ∃ o, H1 a = some o ∧ Mut (some o) := by
            rcases z with w | w
            · exact h1.c.ownT a w
            · obtain ⟨k, hk⟩ := List.mem_iff_getElem?.mp w
              obtain ⟨kvs, _, _, w2, _⟩ := h1.c.at k a hk
              exact ⟨_, w2, True.intro⟩
          obtain ⟨o, w1, w2⟩ := w
          have w3 := keep _ _ w1
          rcases t with t | ⟨ob, t⟩
          · rw [w3] at t; cases t; exact w2
          · rw [w3] at t; cases t; exact w2
        cases xs with
        | nil => exact absurd rfl hne
        | cons y ys =>
          exact (pe_call m5 G.room (G.glo g hgl) m1 m2 m3 .nil pass0 h hd (starEach_cons (hst y List.mem_cons_self) _ _) (noStarAny fun z hz => hst z (List.mem_cons_of_mem _ hz))).run pins s σ H Q I read
      · cases he
    · cases he
  · cases he
end

/-! ### slots set and forgotten -/
theorem Hold.set {K : PySem.W.Frag} {own : Addr → Prop} {ads : List Addr} {H : Hp} {σ : L2.St} {ρ : Env} {μ : Cells} {i : Nat} {v : V} {d : D} (h : Hold K own ads H σ ρ μ) (r : Rep K (Zo own ads) ads H v d) : Hold K own ads H (σ.set i (some v)) (ρ.set i (some (.pl d))) μ := by
  refine ⟨fun j s e => ?_, h.c, by rw [List.length_set, List.length_set]; exact h.len⟩
  by_cases hj : i = j
  · subst hj
    have hl : i < ρ.length := by
      have z := (List.getElem?_eq_some_iff.mp e).1
      rw [List.length_set] at z
      exact z
    rw [List.getElem?_set_self hl] at e
    cases e
    exact ⟨v, List.getElem?_set_self (by rw [← h.len]; exact hl), r⟩
  · rw [List.getElem?_set_ne hj] at e
    obtain ⟨w, e1, e2⟩ := h.e j s e
    exact ⟨w, by rw [List.getElem?_set_ne hj]; exact e1, e2⟩
/-- the slots forgotten, in the little language -/
def wipeR (ρ : Env) : List Nat → Env
  | [] => ρ
  | v :: vs => (wipeR ρ vs).set v none
theorem wipeR_length (ρ : Env) : ∀ vs : List Nat, (wipeR ρ vs).length = ρ.length
  | [] => rfl
  | v :: vs => by unfold wipeR; rw [List.length_set, wipeR_length ρ vs]
theorem wipeR_some {ρ : Env} {i : Nat} {x : Sl} : ∀ {vs : List Nat}, (wipeR ρ vs)[i]? = some (some x) → ρ[i]? = some (some x) ∧ i ∉ vs
  | [], h => ⟨h, by simp⟩
  | v :: vs, h => by
    unfold wipeR at h
    by_cases hi : v = i
    · subst hi
      by_cases hv : v < (wipeR ρ vs).length
      · rw [List.getElem?_set_self hv] at h; cases h
      · rw [List.getElem?_eq_none (by simpa using hv)] at h; cases h
    · rw [List.getElem?_set_ne hi] at h
      obtain ⟨h1, h2⟩ := wipeR_some h
      exact ⟨h1, by simp only [List.mem_cons, not_or]; exact ⟨fun e => hi e.symm, h2⟩⟩
theorem Hold.wipe {K : PySem.W.Frag} {own : Addr → Prop} {ads : List Addr} {H : Hp} {σ : L2.St} {ρ : Env} {μ : Cells} (h : Hold K own ads H σ ρ μ) (vs : List Nat) : Hold K own ads H (L2.wipe σ vs) (wipeR ρ vs) μ := by
  refine ⟨fun j s e => ?_, h.c, by rw [wipeR_length, L2.wipe_length]; exact h.len⟩
  obtain ⟨e1, e2⟩ := wipeR_some e
  obtain ⟨w, e3, e4⟩ := h.e j s e1
  exact ⟨w, by rw [wipe_out e2]; exact e3, e4⟩
theorem wipe_set {σ : L2.St} {i : Nat} {x : Option V} : ∀ {vs : List Nat}, i ∈ vs → L2.wipe (σ.set i x) vs = L2.wipe σ vs
  | [], h => nomatch h
  | v :: vs, h => by
    unfold L2.wipe
    by_cases hi : i ∈ vs
    · rw [wipe_set hi]
    · have e : i = v := by
        rcases List.mem_cons.mp h with e | e
        · exact e
        · exact absurd e hi
      subst e
      have z : ∀ (vs : List Nat), i ∉ vs → (L2.wipe (σ.set i x) vs) = (L2.wipe σ vs).set i x := by
        intro vs
        induction vs with
        | nil => intro _; rfl
        | cons u us ih =>
          intro hn
          simp only [List.mem_cons, not_or] at hn
          unfold L2.wipe
          rw [ih hn.2, List.set_comm _ _ hn.1]
      rw [z vs hi, List.set_set]
theorem wipe_wipe {σ : L2.St} : ∀ {vs ws : List Nat}, (∀ i ∈ vs, i ∈ ws) → L2.wipe (L2.wipe σ vs) ws = L2.wipe σ ws
  | [], _, _ => rfl
  | v :: vs, ws, h => by
    have e : L2.wipe σ (v :: vs) = (L2.wipe σ vs).set v none := rfl
    rw [e, wipe_set (h v List.mem_cons_self), wipe_wipe fun i hi => h i (List.mem_cons_of_mem _ hi)]
theorem setAll_wipeR : ∀ (is : List Nat) (ds : List D) (ρ : Env), is.Nodup → ds.length = is.length → setAll is ds (wipeR ρ is) = setAll is ds ρ
  | [], [], _, _, _ => rfl
  | [], _ :: _, _, _, e => by cases e
  | _ :: _, [], _, _, e => by cases e
  | i :: is, d :: ds, ρ, nd, e => by
    have hn := List.nodup_cons.mp nd
    show setAll is ds (((wipeR ρ is).set i none).set i (some (.pl d))) = setAll is ds (ρ.set i (some (.pl d)))
    rw [List.set_set]
    have z : ∀ (vs : List Nat), i ∉ vs → wipeR (ρ.set i (some (Sl.pl d))) vs = (wipeR ρ vs).set i (some (.pl d)) := by
      intro vs
      induction vs with
      | nil => intro _; rfl
      | cons u us ih =>
        intro hn
        simp only [List.mem_cons, not_or] at hn
        unfold wipeR
        rw [ih hn.2, List.set_comm _ _ hn.1]
    rw [← z is hn.1]
    exact setAll_wipeR is ds _ hn.2 (by simpa using e)

/-! ### targets -/
def gNames : List Nat → TGs
  | [] => gNil
  | i :: is => gCons (gName i) (gNames is)
def tTg (K : PySem.W.Frag) : Tg → TG
  | .nm i => gName i
  | .tp is => gTup K is.length (gNames is)
theorem s_ts {N fs : List Str} {F : Fs} {n : Nat} {sc : Scope} {X : Cx} (G : GX N fs F n sc X) : ∀ {is : List Nat} {es : List Expr}, chkTs N sc is es = true → PGs X es (gNames is) ∧ (assignEach es X.env).length = is.length ∧ (assignEach es X.env).findIdx? (·.1) = none
  | [], [], _ => ⟨pgs_nil, rfl, rfl⟩
  | [], e :: es, h => by cases e <;> cases h
  | i :: is, [], h => by cases h
  | i :: is, e :: es, h => by
    cases e with
    | Name x pos =>
      have h' : (decide (N[i]? = some x) && locB sc x && chkTs N sc is es) = true := h
      rw [Bool.and_eq_true, Bool.and_eq_true, decide_eq_true_eq] at h'
      obtain ⟨⟨h1, h2⟩, h3⟩ := h'
      obtain ⟨g1, g2, g3⟩ := s_ts G h3
      obtain ⟨l1, l2⟩ := G.loc x h2
      refine ⟨pgs_cons (pg_name (by rw [G.hN]; exact G.nd) (by rw [G.hN]; exact h1) l1 l2) g1 rfl, ?_, ?_⟩
      · show ((false, assign (.Name x pos) X.env) :: assignEach es X.env).length = _
        rw [List.length_cons, g2]
        rfl
      · show ((false, assign (.Name x pos) X.env) :: assignEach es X.env).findIdx? (·.1) = none
        rw [List.findIdx?_cons, if_neg Bool.false_ne_true, g3]
        rfl
    | _ => cases h
theorem s_tg {N fs : List Str} {F : Fs} {n : Nat} {sc : Scope} {X : Cx} (G : GX N fs F n sc X) {tg : Tg} {e : Expr} (h : chkTg N sc tg e = true) : PG X e (tTg X.K tg) := by
  cases tg with
  | nm i =>
    cases e with
    | Name x pos =>
      have h' : (decide (N[i]? = some x) && locB sc x) = true := h
      rw [Bool.and_eq_true, decide_eq_true_eq] at h'
      obtain ⟨l1, l2⟩ := G.loc x h'.2
      exact pg_name (by rw [G.hN]; exact G.nd) (by rw [G.hN]; exact h'.1) l1 l2
    | _ => cases h
  | tp is =>
    cases e with
    | Tuple es k pos =>
      have h' : (chkTs N sc is es && decide is.Nodup) = true := h
      rw [Bool.and_eq_true] at h'
      obtain ⟨g1, g2, g3⟩ := s_ts G h'.1
      exact pg_tup G.calm g1 g2 g3
    | _ => cases h
theorem gNames_ok {K : PySem.W.Frag} {own : Addr → Prop} {ads : List Addr} {H : Hp} {μ : Cells} {Q : L2.St → Hp → Prop} {ws : List Nat} : ∀ {is : List Nat} {ds : List D} {vs : List V} {σ : L2.St} {ρ : Env}, Hold K own ads H σ ρ μ → RepL K (Zo own ads) ads H vs ds → ds.length = is.length →
    (∀ i ∈ is, i ∈ ws) → (∀ σ1, Hold K own ads H σ1 (setAll is ds ρ) μ → L2.wipe σ1 ws = L2.wipe σ ws → Q σ1 H) → gNames is vs σ H Q
  | [], [], _, σ, ρ, h, r, _, _, k => by
    cases r
    exact ⟨rfl, k σ h rfl⟩
  | [], _ :: _, _, _, _, _, _, e, _, _ => by cases e
  | _ :: _, [], _, _, _, _, _, e, _, _ => by cases e
  | i :: is, d :: ds, _, σ, ρ, h, r, e, hw, k => by
    cases r with
    | @cons v _ vs _ r1 r2 =>
      refine ⟨v, vs, rfl, ?_⟩
      show gNames is vs (σ.set i (some v)) H Q
      refine gNames_ok (h.set r1) r2 (by simpa using e) (fun j hj => hw j (List.mem_cons_of_mem _ hj)) fun σ1 h1 w1 => k σ1 h1 ?_
      rw [w1, wipe_set (hw i List.mem_cons_self)]
theorem tg_ok {K : PySem.W.Frag} {own : Addr → Prop} {ads : List Addr} {H : Hp} {σ : L2.St} {ρ ρ1 : Env} {μ : Cells} {Q : L2.St → Hp → Prop} {tg : Tg} {v : V} {d : D} (h : Hold K own ads H σ ρ μ) (r : Rep K (Zo own ads) ads H v d) (e : bindT tg d ρ = some ρ1)
    (k : ∀ σ1, Hold K own ads H σ1 ρ1 μ → L2.wipe σ1 tg.slots = L2.wipe σ tg.slots → Q σ1 H) : tTg K tg v σ H Q := by
  cases tg with
  | nm i =>
    have e' : some (ρ.set i (some (.pl d))) = some ρ1 := e
    cases e'
    exact k _ (h.set r) (wipe_set (List.mem_singleton.mpr rfl))
  | tp is =>
    cases d with
    | tup ds =>
      have e' : (if ds.length = is.length then some (setAll is ds ρ) else none) = some ρ1 := e
      split at e'
      · rename_i hl
        cases e'
        cases r with
        | tup t l =>
          exact ⟨_, _, rfl, t.sq, by rw [l.length]; exact hl, gNames_ok h l hl (fun _ z => z) k⟩
      · cases e'
    | _ => cases e

/-! ### what is walked -/
def WalksR (K : PySem.W.Frag) (own ow : Addr → Prop) (ads : List Addr) (H : Hp) (J : L2.It) (xs : List D) (b : Bool) : Prop :=
  (∃ a vs, J = Itl K a ∧ LstAt K (Zo own ads) H a vs ∧ RepL K (Zo own ads) ads H vs xs) ∨
  (b = true ∧ ∃ a vs, J = Itl K a ∧ H a = some (.lst vs) ∧ ow a ∧ RepL K (Zo own ads) ads H vs xs) ∨
  (∃ a vs, J = Itt K a ∧ TupAt K (Zo own ads) H a vs ∧ RepL K (Zo own ads) ads H vs xs) ∨
  (∃ lo n, J = Itr lo n ∧ xs = rngD lo n) ∨
  (∃ s : Str, J = Its s ∧ xs = signs s) ∨
  (∃ lo c n, J = Itc lo c n ∧ xs = rngS lo c n) ∨
  (∃ a c vs ws ds es, J = RZ.ItzT K a c ∧ (TupAt K (Zo own ads) H a vs ∧ RepL K (Zo own ads) ads H vs ds) ∧ (TupAt K (Zo own ads) H c ws ∧ RepL K (Zo own ads) ads H ws es) ∧ xs = zipD ds es) ∨
  (∃ a c e vs ws us ds es fs, J = FA.ItzT3 K a c e ∧ (TupAt K (Zo own ads) H a vs ∧ RepL K (Zo own ads) ads H vs ds) ∧ (TupAt K (Zo own ads) H c ws ∧ RepL K (Zo own ads) ads H ws es) ∧ (TupAt K (Zo own ads) H e us ∧ RepL K (Zo own ads) ads H us fs) ∧ ds.length = es.length ∧ es.length = fs.length ∧ xs = zipD3 ds es fs)
/-- the same where all that is not owned stands -/
theorem WalksR.stay {K : PySem.W.Frag} {own ow own' ow' : Addr → Prop} {ads ads' : List Addr} {H H' : Hp} {J : L2.It} {xs : List D} {b b' : Bool} (s : Stay (Zo own ads) (Zo own' ads') ads ads' H H') (k : b = true → ∀ a vs, H a = some (.lst vs) → ow a → RepL K (Zo own ads) ads H vs xs → b' = true ∧ H' a = some (.lst vs) ∧ ow' a)
    (h : WalksR K own ow ads H J xs b) : WalksR K own' ow' ads' H' J xs b' := by
  rcases h with ⟨a, vs, h1, h2, h3⟩ | ⟨hb, a, vs, h1, h2, h3, h4⟩ | ⟨a, vs, h1, h2, h3⟩ | h | h | h | ⟨a, c, vs, ws, ds, es, h1, ⟨h2, h3⟩, ⟨h4, h5⟩, h6⟩ | ⟨a, c, e, vs, ws, us, ds, es, fs, h1, ⟨h2, h3⟩, ⟨h4, h5⟩, ⟨h6, h7⟩, h8⟩
  · exact .inl ⟨a, vs, h1, h2.stay s, RepL.stay s _ _ h3⟩
  · obtain ⟨k1, k2, k3⟩ := k hb a vs h2 h3 h4
    exact .inr (.inl ⟨k1, a, vs, h1, k2, k3, RepL.stay s _ _ h4⟩)
  · exact .inr (.inr (.inl ⟨a, vs, h1, h2.stay s, RepL.stay s _ _ h3⟩))
  · exact .inr (.inr (.inr (.inl h)))
  · exact .inr (.inr (.inr (.inr (.inl h))))
  · exact .inr (.inr (.inr (.inr (.inr (.inl h)))))
  · exact .inr (.inr (.inr (.inr (.inr (.inr (.inl ⟨a, c, vs, ws, ds, es, h1, ⟨h2.stay s, RepL.stay s _ _ h3⟩, ⟨h4.stay s, RepL.stay s _ _ h5⟩, h6⟩))))))
  · exact .inr (.inr (.inr (.inr (.inr (.inr (.inr ⟨a, c, e, vs, ws, us, ds, es, fs, h1, ⟨h2.stay s, RepL.stay s _ _ h3⟩, ⟨h4.stay s, RepL.stay s _ _ h5⟩, ⟨h6.stay s, RepL.stay s _ _ h7⟩, h8⟩))))))
theorem zipD_get : ∀ {ds es : List D} {i : Nat} {d : D}, (zipD ds es)[i]? = some d → ∃ x y, ds[i]? = some x ∧ es[i]? = some y ∧ d = .tup [x, y]
  | [], _, _, _, h => by unfold zipD at h; simp at h
  | _ :: _, [], _, _, h => by unfold zipD at h; simp at h
  | x :: ds, y :: es, 0, d, h => by unfold zipD at h; exact ⟨x, y, rfl, rfl, (Option.some.inj h).symm⟩
  | x :: ds, y :: es, i + 1, d, h => by
    unfold zipD at h
    obtain ⟨u, v, h1, h2, h3⟩ := zipD_get (by simpa using h)
    exact ⟨u, v, by simpa using h1, by simpa using h2, h3⟩
theorem zipD_length : ∀ (ds es : List D), (zipD ds es).length = min ds.length es.length
  | [], _ => by unfold zipD; simp
  | _ :: _, [] => by unfold zipD; simp
  | x :: ds, y :: es => by unfold zipD; rw [List.length_cons, zipD_length ds es, List.length_cons, List.length_cons]; omega
theorem zipD3_get : ∀ {ds es fs : List D} {i : Nat} {d : D}, (zipD3 ds es fs)[i]? = some d → ∃ x y z, ds[i]? = some x ∧ es[i]? = some y ∧ fs[i]? = some z ∧ d = .tup [x, y, z]
  | [], _, _, _, _, h => by unfold zipD3 at h; simp at h
  | _ :: _, [], _, _, _, h => by unfold zipD3 at h; simp at h
  | _ :: _, _ :: _, [], _, _, h => by unfold zipD3 at h; simp at h
  | x :: ds, y :: es, z :: fs, 0, d, h => by unfold zipD3 at h; exact ⟨x, y, z, rfl, rfl, rfl, (Option.some.inj h).symm⟩
  | x :: ds, y :: es, z :: fs, i + 1, d, h => by
    unfold zipD3 at h
    obtain ⟨u, v, w, h1, h2, h3, h4⟩ := zipD3_get (by simpa using h)
    exact ⟨u, v, w, by simpa using h1, by simpa using h2, by simpa using h3, h4⟩
theorem zipD3_length : ∀ (ds es fs : List D), ds.length = es.length → es.length = fs.length → (zipD3 ds es fs).length = ds.length
  | [], _, _, _, _ => by unfold zipD3; simp
  | _ :: _, [], _, h, _ => by cases h
  | _ :: _, _ :: _, [], _, h => by cases h
  | x :: ds, y :: es, z :: fs, h1, h2 => by unfold zipD3; rw [List.length_cons, zipD3_length ds es fs (by simpa using h1) (by simpa using h2), List.length_cons]
section
variable {K : PySem.W.Frag} {own ow : Addr → Prop} {ads ads' : List Addr} {H H' : Hp} {μ : Cells} {J : L2.It} {xs : List D} {b : Bool}
theorem WalksR.ext (hw : ∀ b, ow b → own b) (c : CellsR K own ads H μ) (e : Ext ads H ads' H') (h : WalksR K own ow ads H J xs b) : WalksR K own ow ads' H' J xs b :=
  WalksR.stay e.stay (fun hb a vs h1 h2 _ => ⟨hb, e.keep _ _ h1 fun m => c.dis a m (hw _ h2), h2⟩) h
theorem signs_get {s : Str} {i : Nat} {d : D} (h : (signs s)[i]? = some d) : i < s.cps.size ∧ ∃ c, s.cps[i]? = some c ∧ d = .str ⟨#[c]⟩ := by
  unfold signs at h
  rw [List.getElem?_map, Array.getElem?_toList] at h
  cases e : s.cps[i]? with
  | none => rw [e] at h; cases h
  | some c => rw [e] at h; cases h; exact ⟨(Array.getElem?_eq_some_iff.mp e).1, c, rfl, rfl⟩
theorem signs_length {s : Str} : (signs s).length = s.cps.size := by unfold signs; rw [List.length_map, Array.length_toList]
theorem WalksR.seqL {a : Addr} {vs : List V} (hs : SqL K H a vs) (l : RepL K (Zo own ads) ads H vs xs) (inj : ∀ ys, SqL K H a ys → True) (i : Nat) :
    (xs.length ≤ i → (Itl K a).stop i H) ∧ (∀ d, xs[i]? = some d → (Itl K a).go i H ∧ ∀ x H', (Itl K a).yld i H x H' → H' = H ∧ Rep K (Zo own ads) ads H x d) := by
  refine ⟨fun hi => ⟨vs, hs, by rw [l.length]; exact hi⟩, fun d hd => ?_⟩
  obtain ⟨v, e1, e2⟩ := l.get hd
  refine ⟨⟨vs, v, hs, e1⟩, fun x H' y => ⟨y.1, ?_⟩⟩
  have z := y.2 vs hs
  rw [e1] at z
  cases z
  exact e2
theorem WalksR.seqT {a : Addr} {vs : List V} (hs : SqT K H a vs) (l : RepL K (Zo own ads) ads H vs xs) (i : Nat) :
    (xs.length ≤ i → (Itt K a).stop i H) ∧ (∀ d, xs[i]? = some d → (Itt K a).go i H ∧ ∀ x H', (Itt K a).yld i H x H' → H' = H ∧ Rep K (Zo own ads) ads H x d) := by
  refine ⟨fun hi => ⟨vs, hs, by rw [l.length]; exact hi⟩, fun d hd => ?_⟩
  obtain ⟨v, e1, e2⟩ := l.get hd
  refine ⟨⟨vs, v, hs, e1⟩, fun x H' y => ⟨y.1, ?_⟩⟩
  have z := y.2 vs hs
  rw [e1] at z
  cases z
  exact e2
theorem rngD_get {lo : Int} {n i : Nat} {d : D} (h : (rngD lo n)[i]? = some d) : i < n ∧ d = .int (lo + i) := by
  unfold rngD at h
  rw [List.getElem?_map] at h
  by_cases hi : i < n
  · rw [List.getElem?_range hi] at h
    cases h
    exact ⟨hi, rfl⟩
  · rw [List.getElem?_eq_none (by simpa using hi)] at h
    cases h
theorem rngD_length {lo : Int} {n : Nat} : (rngD lo n).length = n := by unfold rngD; rw [List.length_map, List.length_range]
theorem tupDraw {vs : List V} {ds : List D} {a : Addr} {i : Nat} {x : D} {v : V} (t : TupAt K (Zo own ads) H a vs) (l : RepL K (Zo own ads) ads H vs ds) (hx : ds[i]? = some x) (hv : ∀ us, SqT K H a us → us[i]? = some v) : Rep K (Zo own ads) ads H v x := by
  obtain ⟨u, e1, e2⟩ := l.get hx
  have z := hv _ t.sq
  rw [e1] at z
  cases z
  exact e2
theorem WalksR.turn (c : CellsR K own ads H μ) (h : WalksR K own ow ads H J xs b) (i : Nat) :
    (xs.length = i → J.stop i H) ∧ (∀ d, xs[i]? = some d → J.go i H ∧ ∀ x H', J.yld i H x H' → Ext ads H ads H' ∧ CellsR K own ads H' μ ∧ Rep K (Zo own ads) ads H' x d) := by
  rcases h with ⟨a, vs, rfl, h2, h3⟩ | ⟨_, a, vs, rfl, h2, h3, h4⟩ | ⟨a, vs, rfl, h2, h3⟩ | ⟨lo, n, rfl, rfl⟩ | ⟨s, rfl, rfl⟩ | ⟨lo, k, n, rfl, rfl⟩ | ⟨a, g, vs, ws, ds, es, rfl, ⟨h2, h3⟩, ⟨h4, h5⟩, rfl⟩ | ⟨a, g, e, vs, ws, us, ds, es, fs, rfl, ⟨h2, h3⟩, ⟨h4, h5⟩, ⟨h6, h7⟩, l1, l2, rfl⟩
  · obtain ⟨t1, t2⟩ := WalksR.seqL (K := K) h2.sq h3 (fun _ _ => trivial) i
    exact ⟨fun hi => t1 (Nat.le_of_eq hi), fun d hd => ⟨(t2 d hd).1, fun x H' y => by obtain ⟨e, r⟩ := (t2 d hd).2 x H' y; subst e; exact ⟨.refl, c, r⟩⟩⟩
  · obtain ⟨t1, t2⟩ := WalksR.seqL (K := K) (.of h2) h4 (fun _ _ => trivial) i
    exact ⟨fun hi => t1 (Nat.le_of_eq hi), fun d hd => ⟨(t2 d hd).1, fun x H' y => by obtain ⟨e, r⟩ := (t2 d hd).2 x H' y; subst e; exact ⟨.refl, c, r⟩⟩⟩
  · obtain ⟨t1, t2⟩ := WalksR.seqT h2.sq h3 i
    exact ⟨fun hi => t1 (Nat.le_of_eq hi), fun d hd => ⟨(t2 d hd).1, fun x H' y => by obtain ⟨e, r⟩ := (t2 d hd).2 x H' y; subst e; exact ⟨.refl, c, r⟩⟩⟩
  · refine ⟨fun hi => ?_, fun d hd => ?_⟩
    · rw [rngD_length] at hi
      exact Nat.le_of_eq hi
    · obtain ⟨h1, h2⟩ := rngD_get hd
      refine ⟨h1, fun x H' y => ?_⟩
      have e := y.1
      subst e
      rw [h2, y.2]
      exact ⟨.refl, c, .int _⟩
  · refine ⟨fun hi => ?_, fun d hd => ?_⟩
    · rw [signs_length] at hi
      exact Nat.le_of_eq hi
    · obtain ⟨h1, c', h2, h3⟩ := signs_get hd
      subst h3
      refine ⟨h1, fun x H' ⟨y1, c'', y2, y3⟩ => ?_⟩
      subst y1
      rw [h2] at y2
      cases y2
      subst y3
      exact ⟨.refl, c, .str _⟩
  · refine ⟨fun hi => ?_, fun d hd => ?_⟩
    · unfold rngS at hi
      rw [List.length_map, List.length_range] at hi
      exact Nat.le_of_eq hi
    · unfold rngS at hd
      rw [List.getElem?_map] at hd
      by_cases hi : i < n
      · rw [List.getElem?_range hi] at hd
        cases hd
        refine ⟨hi, fun x H' y => ?_⟩
        have e := y.1
        subst e
        rw [y.2]
        exact ⟨.refl, c, .int _⟩
      · rw [List.getElem?_eq_none (by simpa using hi)] at hd
        cases hd
  · refine ⟨fun hi => ?_, fun d hd => ?_⟩
    · rw [zipD_length] at hi
      refine ⟨vs, ws, h2.sq, h4.sq, ?_⟩
      rw [h3.length, h5.length]
      omega
    · obtain ⟨x, y, e1, e2, e3⟩ := zipD_get hd
      subst e3
      obtain ⟨u, f1, f2⟩ := h3.get e1
      obtain ⟨w, g1, g2⟩ := h5.get e2
      refine ⟨⟨vs, ws, u, w, h2.sq, h4.sq, f1, g1⟩, fun q H' z => ?_⟩
      obtain ⟨T, p1, p2, eq, hT, eH, z1, z2⟩ := z
      subst eq eH
      have r1 := tupDraw h2 h3 e1 z1
      have r2 := tupDraw h4 h5 e2 z2
      exact ⟨.fresh hT, c.fresh hT, Rep.newTup c hT (.cons r1 (.cons r2 .nil))⟩
  · refine ⟨fun hi => ?_, fun d hd => ?_⟩
    · rw [zipD3_length _ _ _ l1 l2] at hi
      refine ⟨vs, ws, us, h2.sq, h4.sq, h6.sq, ?_, ?_, ?_⟩
      · rw [h3.length]; omega
      · rw [h5.length]; omega
      · rw [h7.length]; omega
    · obtain ⟨x, y, z, e1, e2, e3, e4⟩ := zipD3_get hd
      subst e4
      obtain ⟨u, f1, f2⟩ := h3.get e1
      obtain ⟨w, g1, g2⟩ := h5.get e2
      obtain ⟨o, k1, k2⟩ := h7.get e3
      refine ⟨⟨vs, ws, us, u, w, o, h2.sq, h4.sq, h6.sq, f1, g1, k1⟩, fun q H' z => ?_⟩
      obtain ⟨T, p1, p2, p3, eq, hT, eH, z1, z2, z3⟩ := z
      subst eq eH
      have r1 := tupDraw h2 h3 e1 z1
      have r2 := tupDraw h4 h5 e2 z2
      have r3 := tupDraw h6 h7 e3 z3
      exact ⟨.fresh hT, c.fresh hT, Rep.newTup c hT (.cons r1 (.cons r2 (.cons r3 .nil)))⟩
end
def tI (K : PySem.W.Frag) (F : Fs) (it : It) : TI := fun σ H R => ∃ own ads ρ μ xs μ', Hold K own ads H σ ρ μ ∧ evi F it ρ μ = some (xs, μ') ∧
  ∀ J H' ads', Ext ads H ads' H' → Hold K own ads' H' σ ρ μ' → WalksR K own own ads' H' J xs (it.lk ρ) → R J H'
theorem PI.imp {X : Cx} {tg e : Expr} {t t' : TI} (h : PI X tg e t) (i : ∀ σ H Q, t' σ H Q → t σ H Q) : PI X tg e t' := ⟨fun pins s σ H Q I q => h.run pins s σ H Q I (i _ _ _ q)⟩
theorem PI.or {X : Cx} {tg e : Expr} {t t' : TI} (h : PI X tg e t) (h' : PI X tg e t') : PI X tg e (fun σ H R => t σ H R ∨ t' σ H R) := ⟨fun pins s σ H Q I q => q.elim (h.run pins s σ H Q I) (h'.run pins s σ H Q I)⟩
section
variable {X : Cx} {F : Fs} {tgx : Expr}
/-- a list or a tuple, whichever it is -/
theorem pi_seq {l : Expr} {tl : TE} (hl : PE X l tl) : PI X tgx l (fun σ H R => tl σ H fun x H1 => (∃ y, x = .str y ∧ R (Its y) H1) ∨ ∃ a, x = .ref a ∧ (((∃ xs, SqL X.K H1 a xs) ∧ R (Itl X.K a) H1) ∨ ((∃ xs, SqT X.K H1 a xs) ∧ R (Itt X.K a) H1))) := by
  refine ⟨fun pins s σ H R I h => ?_⟩
  refine thn (hl.run pins s σ H _ I h) fun v s1 ⟨x, H1, I1, r1, q1⟩ => ?_
  rcases q1 with ⟨y, e, q⟩ | q1
  · subst e
    obtain ⟨t, rfl⟩ := r1
    cases ha : y.cps.all (· < 128)
    · exact wpAny_pyIter_wide ha (pi_one (tk := s1.toks) I1 _ (turn_str _ y t "str_iterator" (.inr rfl)) ⟨_, Heap.get?_push_size _ rfl, rfl, rfl⟩ q)
    · exact wpAny_pyIter_ascii ha (pi_one (tk := s1.toks) I1 _ (turn_str _ y t "str_ascii_iterator" (.inl rfl)) ⟨_, Heap.get?_push_size _ rfl, rfl, rfl⟩ q)
  obtain ⟨a, e, q1⟩ := q1
  subst e
  cases r1
  rcases q1 with ⟨⟨xs, hq⟩, q⟩ | ⟨⟨xs, hq⟩, q⟩
  · obtain ⟨its, rv, p, hz⟩ := I1.list hq
    refine wpAny_pyIter_list p.isList ?_
    refine ⟨s1.heap.objs.size, [s1.heap.objs.size], _, _, H1, rfl, I1.kept (t' := s1.toks) fun b o e => Heap.get?_push_of_some _ e, turn_list a _, ⟨_, Heap.get?_push_size _ rfl, rfl, rfl⟩, fun b hb => ?_, q⟩
    have e : b = s1.heap.objs.size := by simpa using hb
    subst e
    exact I1.fpOk (Nat.le_refl _) (I1.hok.fresh (Nat.le_refl _))
  · obtain ⟨its, rv, p, hz⟩ := I1.tuple hq
    refine wpAny_pyIter_tuple (show s1.heap.IsTuple a its.toArray from p) ?_
    refine ⟨s1.heap.objs.size, [s1.heap.objs.size], _, _, H1, rfl, I1.kept (t' := s1.toks) fun b o e => Heap.get?_push_of_some _ e, turn_tuple a _, ⟨_, Heap.get?_push_size _ rfl, rfl, rfl⟩, fun b hb => ?_, q⟩
    have e : b = s1.heap.objs.size := by simpa using hb
    subst e
    exact I1.fpOk (Nat.le_refl _) (I1.hok.fresh (Nat.le_refl _))
theorem s_iseq {e : E} {x : Expr} (h : Both X F x e) : PI X tgx x (tI X.K F (.seq e)) := by
  refine PI.imp (pi_seq h.v) ?_
  intro σ H R ⟨own, ads, ρ, μ, xs, μ', h, he, q⟩
  unfold evi at he
  obtain ⟨dx, μ1, e1, he⟩ := andThen_some he
  refine ⟨own, ads, ρ, μ, dx, μ1, h, e1, fun v H1 ads1 x1 h1 r1 => ?_⟩
  split at he
  · cases he
    rcases r1 with r1 | ⟨hb, a, vs, es, f1, f2, f3, f4, f5⟩
    · cases r1 with
      | lst t l => exact .inr ⟨_, rfl, .inl ⟨⟨_, t.sq⟩, q _ H1 ads1 x1 h1 (.inl ⟨_, _, rfl, t, l⟩)⟩⟩
    · cases f2
      exact .inr ⟨a, f1, .inl ⟨⟨vs, .of f3⟩, q _ H1 ads1 x1 h1 (.inr (.inl ⟨hb, a, vs, rfl, f3, f4, f5⟩))⟩⟩
  · cases he
    obtain ⟨a, vs, f1, f2, f3⟩ := r1.tup
    exact .inr ⟨a, f1, .inr ⟨⟨vs, f2.sq⟩, q _ H1 ads1 x1 h1 (.inr (.inr (.inl ⟨a, vs, rfl, f2, f3⟩)))⟩⟩
  · cases he
    exact .inl ⟨_, r1.str, q _ H1 ads1 x1 h1 (.inr (.inr (.inr (.inr (.inl ⟨_, rfl, rfl⟩)))))⟩
  · cases he
theorem rngOk_ok {i : Int} (h : rngOk i = true) : -(2 ^ 62) ≤ i ∧ i < 2 ^ 62 := by
  unfold rngOk at h
  rw [Bool.and_eq_true, decide_eq_true_eq, decide_eq_true_eq] at h
  exact h
theorem s_rng1 {N fs : List Str} {n : Nat} {sc : Scope} (G : GX N fs F n sc X) {a : E} {x : Expr} {p pos : Pos} (hg : gloB sc "range" = true) (hs : notStar x = true) (h : Both X F x a) : PI X tgx (.Call (.Name "range" p) [x] [] pos) (tI X.K F (.rng1 a)) := by
  have hn : X.mg "range" = none := G.bn _ (by decide +kernel)
  refine PI.imp (pi_range1 (G.glo _ hg) hn (pa_cons h.v pa_nil (starEach_cons hs _ _)) (by rw [starEach_cons hs]; rfl)) ?_
  intro σ H R ⟨own, ads, ρ, μ, xs, μ', h, he, q⟩
  unfold evi at he
  obtain ⟨dx, μ1, e1, he⟩ := andThen_some he
  split at he
  · split at he
    · rename_i m hm
      cases he
      refine ⟨own, ads, ρ, μ, _, _, h, e1, fun v H1 ads1 x1 h1 r1 => ?_⟩
      have ev := r1.int
      subst ev
      exact ⟨_, rfl, (rngOk_ok hm).1, (rngOk_ok hm).2, q _ H1 ads1 x1 h1 (.inr (.inr (.inr (.inl ⟨_, _, rfl, rfl⟩))))⟩
    · cases he
  · cases he
theorem s_rng2 {N fs : List Str} {n : Nat} {sc : Scope} (G : GX N fs F n sc X) {a b : E} {x y : Expr} {p pos : Pos} (hg : gloB sc "range" = true) (hs : notStar x = true) (hs2 : notStar y = true) (h : Both X F x a) (h2 : Both X F y b) : PI X tgx (.Call (.Name "range" p) [x, y] [] pos) (tI X.K F (.rng2 a b)) := by
  have hn : X.mg "range" = none := G.bn _ (by decide +kernel)
  refine PI.imp (pi_range2 (G.glo _ hg) hn (pa_cons h.v (pa_cons h2.v pa_nil (starEach_cons hs2 _ _)) (starEach_cons hs _ _)) (by rw [starEach_cons hs, starEach_cons hs2]; rfl) (by rw [starEach_cons hs2]; rfl)) ?_
  intro σ H R ⟨own, ads, ρ, μ, xs, μ', h, he, q⟩
  unfold evi at he
  obtain ⟨dx, μ1, e1, he⟩ := andThen_some he
  obtain ⟨dy, μ2, e2, he⟩ := andThen_some he
  split at he
  · split at he
    · rename_i m k hm
      cases he
      rw [Bool.and_eq_true] at hm
      refine ⟨own, ads, ρ, μ, _, μ1, h, e1, fun v H1 ads1 x1 h1 r1 => ⟨own, ads1, ρ, μ1, _, _, h1, e2, fun w H2 ads2 x2 h2 r2 => ?_⟩⟩
      have ev := r1.int
      have ew := r2.int
      subst ev ew
      exact ⟨_, _, rfl, ⟨(rngOk_ok hm.1).1, (rngOk_ok hm.1).2, (rngOk_ok hm.2).1, (rngOk_ok hm.2).2⟩, q _ H2 ads2 (x1.trans x2) h2 (.inr (.inr (.inr (.inl ⟨_, _, rfl, rfl⟩))))⟩
    · cases he
  · cases he
theorem s_rng3 {N fs : List Str} {n : Nat} {sc : Scope} (G : GX N fs F n sc X) {a b c : E} {x y z : Expr} {p pos : Pos} (hg : gloB sc "range" = true) (hs : notStar x = true) (hs2 : notStar y = true) (hs3 : notStar z = true) (h : Both X F x a) (h2 : Both X F y b) (h3 : Both X F z c) : PI X tgx (.Call (.Name "range" p) [x, y, z] [] pos) (tI X.K F (.rng3 a b c)) := by
  have hn : X.mg "range" = none := G.bn _ (by decide +kernel)
  refine PI.imp (pi_range3 (G.glo _ hg) hn (pa_cons h.v (pa_cons h2.v (pa_cons h3.v pa_nil (starEach_cons hs3 _ _)) (starEach_cons hs2 _ _)) (starEach_cons hs _ _)) (starEach_cons hs _ _) (by rw [starEach_cons hs2, starEach_cons hs3]; rfl)) ?_
  intro σ H R ⟨own, ads, ρ, μ, xs, μ', h, he, q⟩
  unfold evi at he
  obtain ⟨dx, μ1, e1, he⟩ := andThen_some he
  obtain ⟨dy, μ2, e2, he⟩ := andThen_some he
  obtain ⟨dz, μ3, e3, he⟩ := andThen_some he
  split at he
  · split at he
    · rename_i m k j hm
      cases he
      unfold rgOk at hm
      rw [Bool.and_eq_true, Bool.and_eq_true, Bool.and_eq_true, decide_eq_true_eq, decide_eq_true_eq, decide_eq_true_eq] at hm
      obtain ⟨⟨⟨g1, g2⟩, g3⟩, g4⟩ := hm
      refine ⟨own, ads, ρ, μ, _, μ1, h, e1, fun v H1 ads1 x1 h1 r1 => ⟨own, ads1, ρ, μ1, _, _, h1, e2, fun w H2 ads2 x2 h2 r2 => ⟨own, ads2, ρ, μ2, _, _, h2, e3, fun u H3 ads3 x3 h3 r3 => ?_⟩⟩⟩
      have ev := r1.int
      have ew := r2.int
      have eu := r3.int
      subst ev ew eu
      exact ⟨_, _, _, _, rfl, ⟨g1, g2, g3, (Int.toNat_of_nonneg g4).symm⟩, q _ H3 ads3 ((x1.trans x2).trans x3) h3 (.inr (.inr (.inr (.inr (.inr (.inl ⟨_, _, _, rfl, rfl⟩))))))⟩
    · cases he
  · cases he
theorem starE2 {y z : Expr} {env : PySem.Env} (hs : notStar y = true) (hs2 : notStar z = true) : starEach [y, z] env = (false, eval y env) :: starEach [z] env := starEach_cons hs _ _
theorem s_zip2 {N fs : List Str} {n : Nat} {sc : Scope} (G : GX N fs F n sc X) {a b : E} {x y : Expr} {p pos tpos : Pos} {ts : List Expr} {kk : Nat} (hg : gloB sc "zip" = true) (hs : notStar x = true) (hs2 : notStar y = true) (h : Both X F x a) (h2 : Both X F y b) : PI X (.Tuple ts kk tpos) (.Call (.Name "zip" p) [x, y] [] pos) (tI X.K F (.zip2 a b)) := by
  have hn : X.mg "zip" = none := G.bn _ (by decide +kernel)
  refine PI.imp (RZ.pi_zipA (G.glo _ hg) hn (pa_cons h.v (pa_cons h2.v pa_nil (starEach_cons hs2 _ _)) (starEach_cons hs _ _)) (starEach_cons hs _ _) (by rw [starEach_cons hs2]; rfl)) ?_
  intro σ H R ⟨own, ads, ρ, μ, xs, μ', h, he, q⟩
  unfold evi at he
  obtain ⟨dx, μ1, e1, he⟩ := andThen_some he
  obtain ⟨dy, μ2, e2, he⟩ := andThen_some he
  split at he
  · cases he
    refine ⟨own, ads, ρ, μ, _, μ1, h, e1, fun v H1 ads1 x1 h1 r1 => ⟨own, ads1, ρ, μ1, _, _, h1, e2, fun w H2 ads2 x2 h2 r2 => ?_⟩⟩
    obtain ⟨a1, vs, f1, f2, f3⟩ := (r1.ext h1.c x2).tup
    obtain ⟨a2, ws, g1, g2, g3⟩ := r2.tup
    subst f1 g1
    exact ⟨a1, a2, vs, ws, rfl, .inr ⟨f2.sq, g2.sq, q _ H2 ads2 (x1.trans x2) h2 (.inr (.inr (.inr (.inr (.inr (.inr (.inl ⟨a1, a2, vs, ws, _, _, rfl, ⟨f2, f3⟩, ⟨g2, g3⟩, rfl⟩)))))))⟩⟩
  · cases he
theorem s_zip3 {N fs : List Str} {n : Nat} {sc : Scope} (G : GX N fs F n sc X) {a b c : E} {x y z : Expr} {p pos tpos : Pos} {ts : List Expr} {kk : Nat} (hg : gloB sc "zip" = true) (hs : notStar x = true) (hs2 : notStar y = true) (hs3 : notStar z = true) (h : Both X F x a) (h2 : Both X F y b) (h3 : Both X F z c) : PI X (.Tuple ts kk tpos) (.Call (.Name "zip" p) [x, y, z] [] pos) (tI X.K F (.zip3 a b c)) := by
  have hn : X.mg "zip" = none := G.bn _ (by decide +kernel)
  refine PI.imp (FA.pi_zip3 (G.glo _ hg) hn (pa_cons h.v (pa_cons h2.v (pa_cons h3.v pa_nil (starEach_cons hs3 _ _)) (starEach_cons hs2 _ _)) (starEach_cons hs _ _)) (starEach_cons hs _ _) (by rw [starEach_cons hs2, starEach_cons hs3]; rfl)) ?_
  intro σ H R ⟨own, ads, ρ, μ, xs, μ', h, he, q⟩
  unfold evi at he
  obtain ⟨dx, μ1, e1, he⟩ := andThen_some he
  obtain ⟨dy, μ2, e2, he⟩ := andThen_some he
  obtain ⟨dz, μ3, e3, he⟩ := andThen_some he
  split at he
  · split at he
    · rename_i hl
      cases he
      refine ⟨own, ads, ρ, μ, _, μ1, h, e1, fun v H1 ads1 x1 h1 r1 => ⟨own, ads1, ρ, μ1, _, _, h1, e2, fun w H2 ads2 x2 h2 r2 => ⟨own, ads2, ρ, μ2, _, _, h2, e3, fun u H3 ads3 x3 h3 r3 => ?_⟩⟩⟩
      obtain ⟨a1, vs, f1, f2, f3⟩ := (r1.ext h1.c (x2.trans x3)).tup
      obtain ⟨a2, ws, g1, g2, g3⟩ := (r2.ext h2.c x3).tup
      obtain ⟨a3, us, k1, k2, k3⟩ := r3.tup
      subst f1 g1 k1
      exact ⟨a1, a2, a3, vs, ws, us, rfl, f2.sq, g2.sq, k2.sq, q _ H3 ads3 ((x1.trans x2).trans x3) h3 (.inr (.inr (.inr (.inr (.inr (.inr (.inr ⟨a1, a2, a3, vs, ws, us, _, _, _, rfl, ⟨f2, f3⟩, ⟨g2, g3⟩, ⟨k2, k3⟩, hl.1, hl.2, rfl⟩)))))))⟩
    · cases he
  · cases he
end
end FM

set_option Elab.async false
set_option linter.all false
set_option maxRecDepth 100000
set_option maxHeartbeats 4000000
/-! Ev10: comprehensions, dict displays, all expressions. -/
namespace FM
open PySem PySem.Spec PyProof.Rows L2

/-! ### the block of a comprehension -/
theorem lookup_cond (c : Str → NameKind → Bool) (x : Str) : ∀ names : List (Str × NameKind), (names.map fun p => if c p.1 p.2 = true then (p.1, NameKind.cell) else (p.1, p.2)).lookup x = (names.lookup x).map fun k => if c x k = true then NameKind.cell else k
  | [] => rfl
  | (n, k) :: r => by
    have ih := lookup_cond c x r
    rw [List.map_cons]
    cases hx : x == n with
    | true =>
      have e : x = n := eq_of_beq hx
      subst e
      by_cases hc : c x k = true
      · simp only [hc, if_true, List.lookup_cons, hx, Option.map_some]
      · have hc' : c x k = false := by simpa using hc
        simp [hc', List.lookup_cons]
    | false =>
      by_cases hc : c n k = true
      · simp only [hc, if_true, List.lookup_cons, hx]
        exact ih
      · have hc' : c n k = false := by simpa using hc
        simp only [hc', Bool.false_eq_true, if_false, List.lookup_cons, hx]
        exact ih
def relC (env : PySem.Env) (n : Str) (k : NameKind) : Bool := k == NameKind.free && env.scope.kind == .function && env.kindOf n == some .cell
theorem lookup_relabel (env : PySem.Env) (x : Str) (scope : Scope) : (relabel scope env).names.lookup x = (scope.names.lookup x).map fun k => if relC env x k = true then NameKind.cell else k := lookup_cond (relC env) x scope.names
theorem relC_local (env : PySem.Env) (x : Str) : relC env x .local = false := rfl
theorem relC_cell (env : PySem.Env) (x : Str) : relC env x .cell = false := rfl
theorem relC_glo (env : PySem.Env) (x : Str) : relC env x .globalImplicit = false := rfl
theorem GX.blk {N fs : List Str} {F : Fs} {n : Nat} {sc : Scope} {X : Cx} (G : GX N fs F n sc X) {scope : Scope} {s : Shared} {H : Hp} {C : Addr} {cl : List (Str × Addr)} {fp : List Addr} :
    GX N fs F n scope (X.blk s H scope (compEnvC scope cl C X.env) fp) := by
  have look : ∀ x, (compEnvC scope cl C X.env).scope.names.lookup x = (scope.names.lookup x).map fun k => if relC X.env x k = true then NameKind.cell else k := fun x => lookup_relabel X.env x scope
  have free : ∀ x, scope.names.lookup x = some .free → (compEnvC scope cl C X.env).scope.names.lookup x = some .cell ∨ (compEnvC scope cl C X.env).scope.names.lookup x = some .free := fun x e => by
    rw [look, e, Option.map_some]
    by_cases hc : relC X.env x .free = true
    · rw [if_pos hc]; exact .inl rfl
    · rw [if_neg hc]; exact .inr rfl
  refine ⟨G.hN, G.nd, G.calm, rfl, G.room, fun x h => ?_, fun x h => ?_, fun x h => ?_, fun x h => ?_, G.bn, G.con, G.fn⟩
  · unfold visB at h
    show (compEnvC scope cl C X.env).scope.names.lookup x = some .local ∨ (compEnvC scope cl C X.env).scope.names.lookup x = some .cell ∨ (compEnvC scope cl C X.env).scope.names.lookup x = some .free
    split at h
    · rename_i e; rw [look, e]; exact .inl rfl
    · rename_i e; rw [look, e]; exact .inr (.inl rfl)
    · rename_i e; exact .inr (free x e)
    · cases h
  · unfold gloB at h
    show (compEnvC scope cl C X.env).scope.names.lookup x = some .globalImplicit
    split at h
    · rename_i e; rw [look, e]; rfl
    · cases h
  · unfold locB at h
    show ((compEnvC scope cl C X.env).scope.names.lookup x = some .local ∨ (compEnvC scope cl C X.env).scope.names.lookup x = some .cell) ∧ ((scope.names.lookup x == some .cell) = true ∨ (compEnvC scope cl C X.env).scope.names.lookup x = some .local)
    split at h
    · rename_i e; rw [look, e]; exact ⟨.inl rfl, .inr rfl⟩
    · rename_i e; rw [look, e]; exact ⟨.inr rfl, .inl rfl⟩
    · cases h
  · show (compEnvC scope cl C X.env).scope.names.lookup x = some .cell ∨ (compEnvC scope cl C X.env).scope.names.lookup x = some .free
    rcases h with e | e
    · rw [look, e]; exact .inl rfl
    · exact free x e
theorem own_slots (N : List Str) : ∀ is : List Nat, (ownOf N is).map (·.2) = is
  | [] => rfl
  | i :: is => by
    show i :: (ownOf N is).map (·.2) = i :: is
    rw [own_slots N is]
theorem GX.blkOk {N fs : List Str} {F : Fs} {n : Nat} {sc : Scope} {X : Cx} (G : GX N fs F n sc X) {scope : Scope} {is : List Nat} (h : blkC N sc scope (ownOf N is) = true) : BlkOk X.N X.env.scope scope (ownOf N is) := by
  have b := blkOk_by h
  rw [G.hN]
  exact ⟨b.kind, b.uniq, b.ix, fun y hy e => G.cap y.1 (b.free y hy e), b.own⟩

/-! ### the comprehension -/
section
variable {X : Cx} {F : Fs}
theorem lcGo_len {tg : Tg} {c : Env → Cells → Option (Bool × Cells)} {f : Env → Cells → Option (D × Cells)} {ρ : Env} : ∀ {xs : List D} {μ μ' : Cells} {ys : List D}, lcGo tg c f ρ xs μ = some (ys, μ') → ys.length ≤ xs.length
  | [], _, _, _, h => by cases h; exact Nat.le_refl _
  | x :: xs, μ, μ', ys, h => by
    unfold lcGo at h
    split at h
    · cases h
    · split at h
      · cases h
      · have := lcGo_len h
        rw [List.length_cons]; omega
      · split at h
        · cases h
        · split at h
          · cases h
          · rename_i e
            cases h
            have := lcGo_len e
            rw [List.length_cons, List.length_cons]; omega
theorem antiOwn {K : PySem.W.Frag} {own own' : Addr → Prop} {ads : List Addr} {H : Hp} (h : ∀ b, own' b → own b) : Stay (Zo own ads) (Zo own' ads) ads ads H H :=
  ⟨fun _ _ e _ => e, fun _ _ _ z q => z (q.elim (fun q => .inl (h _ q)) .inr), fun _ _ e => e⟩
theorem SlR.anti {K : PySem.W.Frag} {own own' : Addr → Prop} {ads : List Addr} {H : Hp} {s : Sl} {v : V} (h : ∀ b, own' b → own b) (k : ∀ ds, s = .ow ds → ∀ a, v = .ref a → own' a) (r : SlR K own ads H s v) : SlR K own' ads H s v := by
  cases s with
  | pl d => exact Rep.stay (antiOwn (K := K) h) d v r
  | ow ds =>
    obtain ⟨a, xs, e1, e2, e3, e4⟩ := r
    exact ⟨a, xs, e1, e2, k ds rfl a e1, RepL.stay (antiOwn (K := K) h) _ _ e4⟩
theorem CellsR.anti {K : PySem.W.Frag} {own own' : Addr → Prop} {ads : List Addr} {H : Hp} {μ : Cells} (h : ∀ b, own' b → own b) (c : CellsR K own ads H μ) : CellsR K own' ads H μ where
  len := c.len
  nd := c.nd
  «at» := fun k a e => by
    obtain ⟨kvs, kds, h1, h2, h3⟩ := c.at k a e
    exact ⟨kvs, kds, h1, h2, h3.stay (antiOwn (K := K) h)⟩
  dis := fun a ha q => c.dis a ha (h a q)
  ownT := fun b q => c.ownT b (h b q)
/-- one more own object, new -/
abbrev plusOwn (own : Addr → Prop) (p : Addr) : Addr → Prop := fun b => own b ∨ b = p
theorem stayPlus {own : Addr → Prop} {ads : List Addr} {H : Hp} {p : Addr} {o : HO} (hp : H p = none) : Stay (Zo own ads) (Zo (plusOwn own p) ads) ads ads H (upd H p o) :=
  ⟨fun b u e _ => by rw [upd_ne (ne_of_none e hp)]; exact e, fun b u e z q => z (by
    rcases q with (q | q) | q
    · exact .inl q
    · subst q; rw [hp] at e; cases e
    · exact .inr q), fun _ _ e => e⟩
theorem Hold.plus {K : PySem.W.Frag} {own : Addr → Prop} {ads : List Addr} {H : Hp} {σ : L2.St} {ρ : Env} {μ : Cells} {p : Addr} {o : HO} (hp : H p = none) (mu : Mut (some o)) (h : Hold K own ads H σ ρ μ) : Hold K (plusOwn own p) ads (upd H p o) σ ρ μ := by
  refine ⟨fun i s e => ?_, ⟨h.c.len, h.c.nd, fun k a e => ?_, fun a ha q => ?_, fun b q => ?_⟩, h.len⟩
  · obtain ⟨v, h1, h2⟩ := h.e i s e
    refine ⟨v, h1, ?_⟩
    cases s with
    | pl d => exact Rep.stay (stayPlus hp) d v h2
    | ow ds =>
      obtain ⟨a, xs, e1, e2, e3, e4⟩ := h2
      exact ⟨a, xs, e1, by rw [upd_ne (ne_of_none e2 hp)]; exact e2, .inl e3, RepL.stay (stayPlus hp) _ _ e4⟩
  · obtain ⟨kvs, kds, h1, h2, h3⟩ := h.c.at k a e
    exact ⟨kvs, kds, h1, by rw [upd_ne (ne_of_none h2 hp)]; exact h2, h3.stay (stayPlus hp)⟩
  · rcases q with q | q
    · exact h.c.dis a ha q
    · subst q
      exact h.c.freshZ hp (.inr ha)
  · rcases q with q | q
    · obtain ⟨u, h1, h2⟩ := h.c.ownT b q
      exact ⟨u, by rw [upd_ne (ne_of_none h1 hp)]; exact h1, h2⟩
    · subst q
      exact ⟨o, upd_same, mu⟩
/-- the own list at p is changed -/
theorem stayWrite {own : Addr → Prop} {ads : List Addr} {H : Hp} {p : Addr} {o : HO} (h : own p) : Stay (Zo own ads) (Zo own ads) ads ads H (upd H p o) :=
  ⟨fun b u e z => by
    have ne : b ≠ p := by rintro rfl; exact z (.inl h)
    rw [upd_ne ne]; exact e, fun _ _ _ z => z, fun _ _ e => e⟩
theorem Hold.write {K : PySem.W.Frag} {own : Addr → Prop} {ads : List Addr} {H : Hp} {σ : L2.St} {ρ : Env} {μ : Cells} {p : Addr} {o : HO} (hp : own p) (mu : Mut (some o)) (hn : ∀ (i : Nat) (ds : List D), ρ[i]? = some (some (Sl.ow ds)) → σ[i]? ≠ some (some (V.ref p))) (h : Hold K own ads H σ ρ μ) : Hold K own ads (upd H p o) σ ρ μ := by
  refine ⟨fun i s e => ?_, ⟨h.c.len, h.c.nd, fun k a e => ?_, h.c.dis, fun b q => ?_⟩, h.len⟩
  · obtain ⟨v, h1, h2⟩ := h.e i s e
    refine ⟨v, h1, ?_⟩
    cases s with
    | pl d => exact Rep.stay (stayWrite hp) d v h2
    | ow ds =>
      obtain ⟨a, xs, e1, e2, e3, e4⟩ := h2
      subst e1
      have ne : a ≠ p := fun z => hn i ds e (by rw [h1, z])
      exact ⟨a, xs, rfl, by rw [upd_ne ne]; exact e2, e3, RepL.stay (stayWrite hp) _ _ e4⟩
  · obtain ⟨kvs, kds, h1, h2, h3⟩ := h.c.at k a e
    have ne : a ≠ p := fun z => h.c.dis a (List.mem_of_getElem? e) (z ▸ hp)
    exact ⟨kvs, kds, h1, by rw [upd_ne ne]; exact h2, h3.stay (stayWrite hp)⟩
  · by_cases hb : b = p
    · subst hb
      exact ⟨o, upd_same, mu⟩
    · obtain ⟨u, h1, h2⟩ := h.c.ownT b q
      exact ⟨u, by rw [upd_ne hb]; exact h1, h2⟩
theorem lc_read {K : PySem.W.Frag} {elt : E} {tg : Tg} {it : It} {cond : EO} (hnd : ∀ is, tg = .tp is → is.Nodup) (σ : L2.St) (H : Hp) (Q : VK) (h : tE K F (.lc elt tg it cond) σ H Q) : tLc (tI K F it) (tTg K tg) (tC' K F cond) (tE K F elt) tg.slots σ H Q := by
  obtain ⟨own, ads, ρ, μ, d, μ', h, he, q⟩ := h
  unfold ev at he
  obtain ⟨xs, μ1, e1, he⟩ := andThen_some he
  split at he
  · rename_i hz
    obtain ⟨ys, μ2, e2, he⟩ := andThen_some he
    cases he
    refine ⟨own, ads, ρ, μ, xs, μ1, h, e1, fun J H1 ads1 x1 h1 w1 => ?_⟩
    intro D' hD
    let P : Nat → Hp → Prop := fun i Hi => ∃ adsi μi acc yi rest, Hold K (plusOwn own D') adsi Hi σ ρ μi ∧ Ext ads1 H1 adsi Hi ∧ WalksR K (plusOwn own D') own adsi Hi J xs (it.lk ρ) ∧ Hi D' = some (.lst acc) ∧ RepL K (Zo (plusOwn own D') adsi) adsi Hi acc yi ∧
      lcGo tg (fun ρ' μ' => evc F cond ρ' μ') (fun ρ' μ' => if lk ρ' elt then none else ev F elt ρ' μ') ρ (xs.drop i) μi = some (rest, μ') ∧ ys = yi ++ rest ∧ acc.length ≤ i
    have hP0 : P 0 (upd H1 D' (.lst [])) := by
      refine ⟨ads1, μ1, [], [], ys, h1.plus hD True.intro, .fresh hD, ?_, upd_same, .nil, e2, rfl, Nat.le_refl _⟩
      exact w1.stay (stayPlus hD) fun hb a vs g2 g3 _ => ⟨hb, by rw [upd_ne (ne_of_none g2 hD)]; exact g2, g3⟩
    refine ⟨fun i m Hi => m = xs.length - i ∧ i ≤ xs.length ∧ P i Hi, ⟨xs.length, by simp, Nat.zero_le _, hP0⟩, ?_⟩
    rintro i m Hi ⟨rfl, hi, adsi, μi, acc, yi, rest, hh, xe, wi, hacc, hrep, hgo, hys, hlen⟩
    obtain ⟨t1, t2⟩ := wi.turn hh.c i
    by_cases hlt : i < xs.length
    · -- a turn
      have hd : xs[i]? = some xs[i] := by simp [hlt]
      obtain ⟨go, yl⟩ := t2 _ hd
      refine .inr ⟨go, P (i + 1), fun H' p => ⟨xs.length - (i + 1), by omega, rfl, hlt, p⟩, fun x H' y => ?_⟩
      obtain ⟨xz, cz, r3⟩ := yl x H' y
      replace hacc := xz.keep _ _ hacc fun z => hh.c.dis _ z (.inr rfl)
      replace hrep := hrep.ext xz
      replace xe := xe.trans xz
      replace wi := wi.ext (fun _ z => .inl z) hh.c xz
      replace hh : Hold K (plusOwn own D') adsi H' σ ρ μi := ⟨hh.e.ext hh.c xz, cz, hh.len⟩
      have hdrop : xs.drop i = xs[i] :: xs.drop (i + 1) := by rw [List.drop_eq_getElem_cons hlt]
      rw [hdrop] at hgo
      unfold lcGo at hgo
      split at hgo
      · cases hgo
      · rename_i ρ1 hb
        have hb' : bindT tg xs[i] (wipeR ρ tg.slots) = some ρ1 := by
          cases tg with
          | nm k =>
            have z : some (ρ.set k (some (Sl.pl xs[i]))) = some ρ1 := hb
            show some ((ρ.set k none).set k (some (Sl.pl xs[i]))) = some ρ1
            rw [List.set_set]
            exact z
          | tp is =>
            have nd := hnd is rfl
            revert hb
            show bindT (.tp is) xs[i] ρ = some ρ1 → bindT (.tp is) xs[i] (wipeR ρ is) = some ρ1
            unfold bindT
            cases xs[i] with
            | tup ds =>
              show (if ds.length = is.length then some (setAll is ds ρ) else none) = some ρ1 → (if ds.length = is.length then some (setAll is ds (wipeR ρ is)) else none) = some ρ1
              split
              · rename_i hl
                rw [setAll_wipeR is ds ρ nd hl]
                exact fun z => z
              · exact fun z => z
            | _ => exact fun z => z
        refine tg_ok (hh.wipe tg.slots) r3 hb' fun σ1 h1' w1' => ⟨by rw [w1', wipe_wipe fun _ z => z], ?_⟩
        -- σ again from σ1
        have back : ∀ {adsj : List Addr} {Hj : Hp} {μj : Cells}, Ext adsi H' adsj Hj → Hold K (plusOwn own D') adsj Hj σ1 ρ1 μj → Hold K (plusOwn own D') adsj Hj σ ρ μj := fun {adsj Hj μj} x2 h2 => ⟨hh.e.ext hh.c x2, h2.c, hh.len⟩
        cases hc : evc F cond ρ1 μi with
        | none => rw [hc] at hgo; cases hgo
        | some r =>
          obtain ⟨b, μj⟩ := r
          rw [hc] at hgo
          refine ⟨plusOwn own D', adsi, ρ1, μi, b, μj, h1', hc, fun Hj adsj x2 h2 => ?_⟩
          have accD : ∀ {Hj : Hp} {adsj : List Addr}, Ext adsi H' adsj Hj → Hj D' = some (.lst acc) := fun {Hj adsj} x2 => x2.keep _ _ hacc fun z => hh.c.dis _ z (.inr rfl)
          cases b with
          | false =>
            show P (i + 1) Hj
            exact ⟨adsj, μj, acc, yi, rest, back x2 h2, xe.trans x2, wi.ext (fun _ z => .inl z) hh.c x2, accD x2, hrep.ext x2, hgo, hys, by omega⟩
          | true =>
            show tE K F elt σ1 Hj fun y H4 => ∃ acc, H4 D' = some (.lst acc) ∧ acc.length < sizeLine ∧ P (i + 1) (upd H4 D' (.lst (acc ++ [y])))
            cases hl : lk ρ1 elt with
            | true =>
              simp only [hl, if_true] at hgo
              cases hgo
            | false =>
              simp only [hl, Bool.false_eq_true, if_false] at hgo
              cases hev : ev F elt ρ1 μj with
              | none => rw [hev] at hgo; cases hgo
              | some r =>
                obtain ⟨y1, μk⟩ := r
                rw [hev] at hgo
                simp only at hgo
                cases hrest : lcGo tg (fun ρ' μ' => evc F cond ρ' μ') (fun ρ' μ' => if lk ρ' elt then none else ev F elt ρ' μ') ρ (xs.drop (i + 1)) μk with
                | none => rw [hrest] at hgo; cases hgo
                | some r =>
                  obtain ⟨rest', μl⟩ := r
                  rw [hrest] at hgo
                  cases hgo
                  refine ⟨plusOwn own D', adsj, ρ1, μj, y1, μk, h2, hev, fun v Hk adsk x3 h3 r3' => ?_⟩
                  rw [hl] at r3'
                  have x4 := x2.trans x3
                  have hk := back x4 h3
                  have dk : Hk D' = some (.lst acc) := accD x4
                  have own' : plusOwn own D' D' := .inr rfl
                  have hn : ∀ (j : Nat) ds, ρ[j]? = some (some (.ow ds)) → σ[j]? ≠ some (some (.ref D')) := fun j ds ej es => by
                    obtain ⟨w, g1, g2⟩ := h1.e j _ ej
                    rw [es] at g1
                    cases g1
                    obtain ⟨a, zs, f1, f2, _⟩ := g2
                    cases f1
                    rw [hD] at f2
                    cases f2
                  refine ⟨acc, dk, ?_, adsk, μk, acc ++ [v], yi ++ [y1], rest', hk.write own' True.intro hn, ?_, ?_, upd_same, ?_, hrest, by rw [hys, List.append_assoc]; rfl, by rw [List.length_append]; simp; omega⟩
                  · rw [sizeLine_eq]; omega
                  · refine ⟨fun b o e m => ?_, fun b o e => ?_, (xe.trans x4).new, (xe.trans x4).pre⟩
                    · have ne : b ≠ D' := ne_of_none e hD
                      rw [upd_ne ne]
                      exact (xe.trans x4).keep b o e m
                    · have ne : b ≠ D' := ne_of_none e hD
                      rw [upd_ne ne]
                      exact (xe.trans x4).there b o e
                  · refine WalksR.stay (stayWrite own') (fun hb a vs g2 g3 _ => ?_) (wi.ext (fun _ z => .inl z) hh.c x4)
                    have ne : a ≠ D' := by
                      rintro rfl
                      obtain ⟨o, z1, _⟩ := h1.c.ownT _ g3
                      rw [hD] at z1
                      cases z1
                    exact ⟨hb, by rw [upd_ne ne]; exact g2, g3⟩
                  · exact .append (RepL.stay (stayWrite own') _ _ (hrep.ext x4)) (.cons (Rep.stay (stayWrite own') _ _ r3'.plain) .nil)
    · -- the end
      have e3 : i = xs.length := by omega
      subst e3
      rw [List.drop_length] at hgo
      unfold lcGo at hgo
      cases hgo
      rw [List.append_nil] at hys
      subst hys
      refine .inl ⟨t1 rfl, ?_⟩
      have anti : ∀ b, own b → plusOwn own D' b := fun b z => .inl z
      have hD' : ¬ Zo own adsi D' := fun z => by
        rcases z with z | z
        · obtain ⟨o, z1, _⟩ := h1.c.ownT _ z
          rw [hD] at z1; cases z1
        · exact hh.c.dis _ z (.inr rfl)
      refine q (.ref D') Hi adsi (x1.trans xe) ⟨h1.e.ext h1.c xe, hh.c.anti anti, hh.len⟩ (.inl (.lst (.inl ⟨.inl hacc, hD'⟩) (RepL.stay (antiOwn (K := K) anti) _ _ hrep)))
  · cases he
end
end FM

set_option Elab.async false
set_option linter.all false
set_option maxRecDepth 100000
set_option maxHeartbeats 4000000
/-! Ev11: dict displays; all expressions. -/
namespace FM
open PySem PySem.Spec PyProof.Rows L2
section
variable {X : Cx} {F : Fs}
/-! ### dict displays -/
def trsOf (K : PySem.W.Frag) (F : Fs) : List Str → Es → List (TE × TE)
  | k :: ks, .cons e es => (tC (.str k), tE K F e) :: trsOf K F ks es
  | _, _ => []
theorem pairs_read {K : PySem.W.Frag} {σ : L2.St} {ρ : Env} {own : Addr → Prop} : ∀ {ks : List Str} {es : Es} {ads : List Addr} {H : Hp} {μ μ' : Cells} {ds : List D} {Q : List (V × V) → Hp → Prop}, Hold K own ads H σ ρ μ → evs F es ρ μ = some (ds, μ') → lks ρ es = false → ds.length = ks.length →
    (∀ vs H' ads', Ext ads H ads' H' → Hold K own ads' H' σ ρ μ' → RepL K (Zo own ads') ads' H' vs ds → Q ((ks.map V.str).zip vs) H') → tPairs (trsOf K F ks es) σ H Q
  | [], .nil, _, _, _, _, _, _, h, e, _, _, k => by
    cases e
    exact k [] _ _ .refl h .nil
  | [], .cons _ _, _, _, _, _, ds, _, h, e, _, hl, k => by
    unfold evs at e
    obtain ⟨d, μ1, e1, e⟩ := andThen_some e
    obtain ⟨ds', μ2, e2, e⟩ := andThen_some e
    cases e
    cases hl
  | _ :: _, .nil, _, _, _, _, _, _, h, e, _, hl, k => by
    cases e
    cases hl
  | s :: ks, .cons x es, ads, H, μ, μ', ds, Q, h, e, hk, hl, k => by
    unfold evs at e
    obtain ⟨d, μ1, e1, e⟩ := andThen_some e
    obtain ⟨ds', μ2, e2, e⟩ := andThen_some e
    cases e
    have hk' : (lk ρ x || lks ρ es) = false := hk
    rw [Bool.or_eq_false_iff] at hk'
    show tE K F x σ H fun y H2 => tPairs (trsOf K F ks es) σ H2 fun ps H3 => Q ((V.str s, y) :: ps) H3
    refine ⟨own, ads, ρ, μ, d, μ1, h, e1, fun v H1 ads1 x1 h1 r1 => ?_⟩
    rw [hk'.1] at r1
    exact pairs_read h1 e2 hk'.2 (by simpa using hl) fun vs H2 ads2 x2 h2 l2 => k (v :: vs) H2 ads2 (x1.trans x2) h2 (.cons (r1.plain.ext x2) l2)
theorem mergeK_new : ∀ (kvs acc : List (Key × V)), (∀ p ∈ kvs, valV acc p.1 = none) → (kvs.map (·.1)).Nodup → mergeK acc kvs = acc ++ kvs
  | [], acc, _, _ => by rw [List.append_nil]; rfl
  | p :: kvs, acc, h, nd => by
    have n := List.nodup_cons.mp (show (p.1 :: kvs.map (·.1)).Nodup from nd)
    show mergeK (putK acc p.1 p.2) kvs = acc ++ p :: kvs
    rw [putK_new _ (h p List.mem_cons_self), mergeK_new kvs _ (fun q hq => ?_) n.2, List.append_assoc]
    · rfl
    · rw [valV_snoc _ _ _ _ (h p List.mem_cons_self)]
      rw [if_neg (fun e => n.1 (List.mem_map.mpr ⟨q, hq, e⟩))]
      exact h q (List.mem_cons_of_mem _ hq)
theorem zip_keys : ∀ (ks : List Str) (vs : List V), ks.length = vs.length → ((ks.map fun s => (Sum.inr s : Key)).zip vs).map (·.1) = ks.map Sum.inr ∧ ((ks.map fun s => (Sum.inr s : Key)).zip vs).map (·.2) = vs ∧ (ks.map V.str).zip vs = ((ks.map fun s => (Sum.inr s : Key)).zip vs).map fun kv => (kV kv.1, kv.2)
  | [], [], _ => ⟨rfl, rfl, rfl⟩
  | [], _ :: _, e => by cases e
  | _ :: _, [], e => by cases e
  | k :: ks, v :: vs, e => by
    obtain ⟨h1, h2, h3⟩ := zip_keys ks vs (by simpa using e)
    refine ⟨?_, ?_, ?_⟩
    · simp only [List.map_cons, List.zip_cons_cons, h1]
    · simp only [List.map_cons, List.zip_cons_cons, h2]
    · simp only [List.map_cons, List.zip_cons_cons, h3]; rfl
theorem zip_keysD : ∀ (ks : List Str) (ds : List D), ks.length = ds.length → ((ks.map fun s => (Sum.inr s : Key)).zip ds).map (·.1) = ks.map Sum.inr ∧ ((ks.map fun s => (Sum.inr s : Key)).zip ds).map (·.2) = ds
  | [], [], _ => ⟨rfl, rfl⟩
  | [], _ :: _, e => by cases e
  | _ :: _, [], e => by cases e
  | k :: ks, v :: vs, e => by
    obtain ⟨h1, h2⟩ := zip_keysD ks vs (by simpa using e)
    refine ⟨?_, ?_⟩
    · simp only [List.map_cons, List.zip_cons_cons, h1]
    · simp only [List.map_cons, List.zip_cons_cons, h2]
theorem nodup_inr : ∀ {ks : List Str}, ks.Nodup → (ks.map fun s => (Sum.inr s : Key)).Nodup
  | [], _ => .nil
  | k :: ks, h => by
    have n := List.nodup_cons.mp h
    refine List.nodup_cons.mpr ⟨fun m => ?_, nodup_inr n.2⟩
    obtain ⟨j, h1, h2⟩ := List.mem_map.mp m
    cases h2
    exact n.1 h1
theorem dict_read {K : PySem.W.Frag} {ks : List Str} {es : Es} (σ : L2.St) (H : Hp) (Q : VK) (h : tE K F (.dict ks es) σ H Q) : tDisp (trsOf K F ks es) σ H Q := by
  obtain ⟨own, ads, ρ, μ, d, μ', h, he, q⟩ := h
  unfold ev at he
  split at he
  · cases he
  · rename_i hl
    obtain ⟨ds, μ1, e1, he⟩ := andThen_some he
    split at he
    · rename_i hk
      cases he
      obtain ⟨hk1, hk2, hk3⟩ := hk
      intro p hp
      refine pairs_read (h.plus hp True.intro) e1 (by simpa using hl) hk1 fun vs H2 ads2 x2 h2 l2 => ?_
      have hn : p ∉ ads := fun m => h.c.freshZ hp (.inr m)
      have hp2 : H2 p = some (.dK []) := x2.keep p _ upd_same hn
      have hn2 : p ∉ ads2 := fun m => h2.c.dis p m (.inr rfl)
      obtain ⟨z1, z2, z3⟩ := zip_keys ks vs (by rw [l2.length]; exact hk1.symm)
      obtain ⟨w1, w2⟩ := zip_keysD ks ds hk1.symm
      refine ⟨hp2, (ks.map fun s => (Sum.inr s : Key)).zip vs, z3, ?_, ?_⟩
      · rw [List.length_zip, List.length_map]
        omega
      · have nd : (((ks.map fun s => (Sum.inr s : Key)).zip vs).map (·.1)).Nodup := by
          rw [z1]
          exact nodup_inr hk3
        rw [mergeK_new _ [] (fun _ _ => rfl) nd, List.nil_append]
        -- the heap behind
        have anti : ∀ b, own b → plusOwn own p b := fun b z => .inl z
        have x3 : Ext ads H (ads2 ++ [p]) (upd H2 p (.dK ((ks.map fun s => (Sum.inr s : Key)).zip vs))) := by
          refine ⟨fun b o e m => ?_, fun b o e => ?_, fun b m => ?_, fun k a e => ?_⟩
          · have ne : b ≠ p := ne_of_none e hp
            rw [upd_ne ne]
            exact x2.keep b o (by rw [upd_ne ne]; exact e) m
          · have ne : b ≠ p := ne_of_none e hp
            rw [upd_ne ne]
            exact x2.there b o (by rw [upd_ne ne]; exact e)
          · rcases List.mem_append.mp m with m | m
            · rcases x2.new b m with z | z
              · exact .inl z
              · refine .inr ?_
                have ne : b ≠ p := fun q => hn2 (q ▸ m)
                rw [upd_ne ne] at z
                exact z
            · rw [List.mem_singleton.mp m]
              exact .inr hp
          · have z := x2.pre k a e
            rw [List.getElem?_append_left (List.getElem?_eq_some_iff.mp z).1]
            exact z
        have st : Stay (Zo (plusOwn own p) ads2) (Zo own (ads2 ++ [p])) ads2 (ads2 ++ [p]) H2 (upd H2 p (.dK ((ks.map fun s => (Sum.inr s : Key)).zip vs))) := by
          refine ⟨fun b o e z => ?_, fun b o e z w => z ?_, fun k a e => ?_⟩
          · have ne : b ≠ p := fun w => z (.inl (.inr w))
            rw [upd_ne ne]
            exact e
          · rcases w with w | w
            · exact .inl (.inl w)
            · rcases List.mem_append.mp w with w | w
              · exact .inr w
              · exact .inl (.inr (List.mem_singleton.mp w))
          · rw [List.getElem?_append_left (List.getElem?_eq_some_iff.mp e).1]
            exact e
        have hown : ¬ own p := fun z => by
          obtain ⟨o, z1, _⟩ := h.c.ownT p z
          rw [hp] at z1; cases z1
        have c3 : CellsR K own (ads2 ++ [p]) (upd H2 p (.dK ((ks.map fun s => (Sum.inr s : Key)).zip vs))) (μ1 ++ [(ks.map Sum.inr).zip ds]) := by
          refine ⟨by rw [List.length_append, List.length_append, h2.c.len]; rfl, ?_, fun k a e => ?_, fun a m => ?_, fun b z => ?_⟩
          · rw [List.nodup_append]
            exact ⟨h2.c.nd, List.nodup_cons.mpr ⟨by simp, .nil⟩, fun a m b m2 => by
              rw [List.mem_singleton.mp m2]
              exact fun q => hn2 (q ▸ m)⟩
          · by_cases hlt : k < ads2.length
            · rw [List.getElem?_append_left hlt] at e
              obtain ⟨kvs, kds, f1, f2, f3⟩ := h2.c.at k a e
              have ne : a ≠ p := fun w => hn2 (w ▸ List.mem_of_getElem? e)
              exact ⟨kvs, kds, by rw [List.getElem?_append_left (by rw [← h2.c.len]; exact hlt)]; exact f1, by rw [upd_ne ne]; exact f2, f3.stay st⟩
            · have hk : k = ads2.length := by
                have := (List.getElem?_eq_some_iff.mp e).1
                rw [List.length_append] at this
                simp at this
                omega
              subst hk
              rw [List.getElem?_append_right (Nat.le_refl _), Nat.sub_self] at e
              cases e
              refine ⟨_, (ks.map fun s => (Sum.inr s : Key)).zip ds, ?_, upd_same, ?_⟩
              · rw [List.getElem?_append_right (by rw [h2.c.len]; exact Nat.le_refl _), h2.c.len, Nat.sub_self]
                rfl
              · refine ⟨?_, ?_⟩
                · rw [z1]; exact w1.symm
                · rw [z2]
                  have : (((ks.map Sum.inr).zip ds).map (·.2)) = ds := w2
                  rw [this]
                  exact l2.stay st
          · rcases List.mem_append.mp m with m | m
            · exact fun w => h2.c.dis a m (.inl w)
            · rw [List.mem_singleton.mp m]
              exact hown
          · obtain ⟨o, f1, f2⟩ := h2.c.ownT b (.inl z)
            have ne : b ≠ p := fun w => hown (w ▸ z)
            exact ⟨o, by rw [upd_ne ne]; exact f1, f2⟩
        refine q (.ref p) _ (ads2 ++ [p]) x3 ⟨h.e.ext h.c x3, c3, h.len⟩ (.inl (.cell ?_))
        rw [List.getElem?_append_right (by rw [h2.c.len]; exact Nat.le_refl _), h2.c.len, Nat.sub_self]
        rfl
    · cases he
end
theorem chkKs_len : ∀ {ks : List Str} {keys : List (Option Expr)}, chkKs ks keys = true → ks.length = keys.length ∧ keys.all (·.isSome) = true
  | [], [], _ => ⟨rfl, rfl⟩
  | [], _ :: _, h => absurd h Bool.false_ne_true
  | _ :: _, [], h => absurd h Bool.false_ne_true
  | k :: ks, o :: r, h => by
    cases o with
    | none => exact absurd h Bool.false_ne_true
    | some y =>
      cases y with
      | Constant c j p =>
        cases c with
        | str z =>
          have h' : (decide (k = z) && chkKs ks r) = true := h
          rw [Bool.and_eq_true] at h'
          obtain ⟨e1, e2⟩ := chkKs_len h'.2
          exact ⟨by rw [List.length_cons, List.length_cons, e1], by rw [List.all_cons, e2]; rfl⟩
        | _ => exact absurd h Bool.false_ne_true
      | _ => exact absurd h Bool.false_ne_true
theorem s_dict {X : Cx} {F : Fs} {ks : List Str} {es : Es} {keys : List (Option Expr)} {values : List Expr} {pos : Pos} (hk : chkKs ks keys = true) (hl : keys.length = values.length) (h0 : keys ≠ []) (pp : PPs X pos keys values (trsOf X.K F ks es)) :
    Both X F (.Dict keys values pos) (.dict ks es) := by
  obtain ⟨e1, e2⟩ := chkKs_len hk
  refine Both.mk' ⟨fun pins s σ H Q I h => ?_⟩ rfl
  have h15 : keys.length ≤ 15 := by
    obtain ⟨own, ads, ρ, μ, d, μ', _, he, _⟩ := h
    unfold ev at he
    split at he
    · cases he
    · obtain ⟨ds, μ1, _, he⟩ := andThen_some he
      split at he
      · rename_i hh
        rw [← e1]
        exact hh.2.1
      · cases he
  exact (pe_disp pp e2 hl h0 h15).run pins s σ H Q I (dict_read σ H Q h)
/-! ### all expressions -/
section
variable {N fs : List Str} {F : Fs} {n : Nat}
theorem and3 {a b c : Bool} (h : (a && b && c) = true) : a = true ∧ b = true ∧ c = true := by
  rw [Bool.and_eq_true, Bool.and_eq_true] at h
  exact ⟨h.1.1, h.1.2, h.2⟩
theorem and2 {a b : Bool} (h : (a && b) = true) : a = true ∧ b = true := by
  rw [Bool.and_eq_true] at h
  exact h
theorem chkEs_star : ∀ {es : Es} {sc : Scope} {xs : List Expr}, chkEs N fs es sc xs = true → ∀ x ∈ xs, notStar x = true
  | .nil, _, [], _, _, hx => nomatch hx
  | .nil, _, _ :: _, h, _, _ => by cases h
  | .cons _ _, _, [], h, _, _ => by cases h
  | .cons e es, sc, y :: ys, h, x, hx => by
    obtain ⟨h1, h2, h3⟩ := and3 (show (notStar y && chkE N fs e sc y && chkEs N fs es sc ys) = true from h)
    rcases List.mem_cons.mp hx with rfl | hx
    · exact h1
    · exact chkEs_star h3 x hx
theorem chkEs_nil {es : Es} {sc : Scope} (h : chkEs N fs es sc [] = true) : es = .nil := by
  cases es with
  | nil => rfl
  | cons _ _ => cases h
theorem s_lc {sc scope : Scope} {X : Cx} (G : GX N fs F n sc X) {elt : E} {tg : Tg} {it : It} {cond : EO} {x t i : Expr} {ifs : List Expr} {pos : Pos} (hb : blkC N sc scope (ownOf N tg.slots) = true) (hs : notSet i = true) (ht : chkTg N scope tg t = true)
    (hi : PI X t i (tI X.K F it)) (hc : ∀ X', GX N fs F n scope X' → PTs X' ifs (tC' X'.K F cond)) (he : ∀ X', GX N fs F n scope X' → Both X' F x elt) : Both X F (.ListComp x [⟨t, i, ifs, 0⟩] scope pos) (.lc elt tg it cond) := by
  have nd : ∀ is, tg = .tp is → is.Nodup := fun is e => by
    subst e
    cases t with
    | Tuple es k p =>
      have h' : (chkTs N scope is es && decide is.Nodup) = true := ht
      exact of_decide_eq_true (and2 h').2
    | _ => cases ht
  have core := pe_lc (X := X) (own := ownOf N tg.slots) (g := tTg X.K tg) (tt := tC' X.K F cond) (te := tE X.K F elt) (elt := x) (tg := t) (iter := i) (ifs := ifs) (scope := scope) (pos := pos) G.calm (by rw [G.hN]; exact G.nd) hi (G.blkOk hb)
    (fun s H C cl fp => s_tg G.blk ht) (fun s H C cl fp => hc _ G.blk) (fun s H C cl fp => (he _ G.blk).v) (folded_of hs _)
  rw [own_slots] at core
  exact Both.mk' (PE.imp core (lc_read nd)) rfl
theorem room100 {k : Nat} {A : Around} (r : Room k A) : A.units + 100 < cLine := by have := r.un; omega
theorem RepL.reverse {K : PySem.W.Frag} {Z : Addr → Prop} {ads : List Addr} {H : Hp} : ∀ {xs : List V} {ds : List D}, RepL K Z ads H xs ds → RepL K Z ads H xs.reverse ds.reverse
  | _, _, .nil => .nil
  | _, _, .cons r l => by
    rw [List.reverse_cons, List.reverse_cons]
    exact l.reverse.append (.cons r .nil)
theorem rep_strs {K : PySem.W.Frag} {Z : Addr → Prop} {ads : List Addr} {H : Hp} : ∀ vs : List Str, RepL K Z ads H (vs.map V.str) (vs.map D.str)
  | [] => .nil
  | v :: vs => .cons (.str v) (rep_strs vs)
theorem s_con {sc : Scope} {X : Cx} (G : GX N fs F n sc X) {y : Str} {vs : List Str} {pos : Pos} (h1 : gloB sc y = true) (h2 : (y == ("__debug__" : Str)) = false) (h3 : (y, vs) ∈ cons) : Both X F (.Name y pos) (.con y vs) := by
  obtain ⟨a, m1, m2⟩ := G.con _ h3
  refine Both.mk' (PE.imp (FA.pe_con (G.glo _ h1) m1 h2) ?_) rfl
  intro σ H Q ⟨own, ads, ρ, μ, d, μ', h, he, q⟩
  unfold ev at he
  cases he
  have t : TupAt X.K (Zo own ads) H a (vs.map V.str) := by
    rcases m2 (fun _ => none) with z | z
    · rcases z with z | ⟨_, z⟩ <;> cases z
    · exact .inr z
  exact q (.ref a) H ads .refl h (.inl (.tup t (rep_strs vs)))
theorem s_rev {X : Cx} {a : E} {x : Expr} {k : Nat} {p1 p2 p3 pos : Pos} (h : Both X F x a) : Both X F (.Subscript x (.Slice none none (some (.UnaryOp .USub (.Constant (.int 1) k p1) p2)) p3) pos) (.rev a) := by
  refine Both.mk' (PE.imp (FA.pe_revT h.v) ?_) rfl
  intro σ H Q ⟨own, ads, ρ, μ, d, μ', h, he, q⟩
  unfold ev at he
  obtain ⟨dx, μ1, e1, he⟩ := andThen_some he
  split at he
  · cases he
    refine ⟨own, ads, ρ, μ, _, _, h, e1, fun v H1 ads1 x1 h1 r1 => ?_⟩
    obtain ⟨b, xs, ev, t, l⟩ := r1.tup
    refine ⟨b, xs, ev, t.sq, fun p hp => ?_⟩
    exact q (.ref p) _ ads1 (x1.trans (.fresh hp)) ⟨h1.e.ext h1.c (.fresh hp), h1.c.fresh hp, h1.len⟩ (.inl (Rep.newTup h1.c hp l.reverse))
  · cases he
theorem kps_rep {K : PySem.W.Frag} {Z : Addr → Prop} {ads : List Addr} {H : Hp} : ∀ {xs : List V} {ds : List D} {ks : List (List Int)}, RepL K Z ads H xs ds → asKeys ds = some ks → ∃ ps : List FA.KP, xs = ps.map (fun p => V.ref p.1) ∧ (∀ p ∈ ps, FA.KPok K H p) ∧ ps.map (·.2.1) = ks
  | _, _, ks, .nil, e => by cases e; exact ⟨[], rfl, fun p h => (nomatch h), rfl⟩
  | _, d :: ds, ks, .cons r l, e => by
    unfold asKeys at e
    split at e
    · rename_i hd
      cases hd
    · rename_i js dv ds' hd
      split at e
      · rename_i ns hns
        obtain ⟨ks', e2, e3⟩ := Option.map_eq_some_iff.mp e
        subst e3
        cases hd
        obtain ⟨ps, q1, q2, q3⟩ := kps_rep l e2
        cases r with
        | @tup a xs _ t lt =>
          cases lt with
          | cons r1 lt =>
            cases lt with
            | @cons wv _ _ _ r2 lt =>
              cases lt
              cases r1 with
              | @tup b ys _ t2 l2 =>
                rw [asInts_ok hns] at l2
                have := l2.ints
                subst this
                refine ⟨(a, ns, b, wv) :: ps, by rw [q1]; rfl, fun p hp => ?_, by rw [List.map_cons, q3]⟩
                rcases List.mem_cons.mp hp with rfl | hp
                · exact ⟨t.sq, t2.sq⟩
                · exact q2 p hp
      · cases e
    · cases e
theorem s_ldict {sc : Scope} {X : Cx} (G : GX N fs F n sc X) {a : E} {x : Expr} {p p2 q pos : Pos} (h1 : gloB sc "len" = true) (h2 : gloB sc "dict" = true) (hs : notStar x = true) (h : Both X F x a) : Both X F (.Call (.Name "len" p) [.Call (.Name "dict" p2) [x] [] q] [] pos) (.ldict a) := by
  have n1 : X.mg "len" = none := G.bn _ (by decide +kernel)
  have n2 : X.mg "dict" = none := G.bn _ (by decide +kernel)
  refine Both.mk' (PE.imp (FA.pe_lenD (G.glo _ h1) n1 (G.glo _ h2) n2 h.v (room100 G.room) G.calm (starEach_cons hs _ _)) ?_) rfl
  intro σ H Q ⟨own, ads, ρ, μ, d, μ', h, he, q⟩
  unfold ev at he
  split at he
  · cases he
  · rename_i hl
    have hl' : lk ρ a = false := by simpa using hl
    obtain ⟨dx, μ1, e1, he⟩ := andThen_some he
    split at he
    · split at he
      · rename_i ks hk
        cases he
        refine ⟨own, ads, ρ, μ, _, _, h, e1, fun v H1 ads1 x1 h1 r1 => ?_⟩
        rw [hl'] at r1
        cases r1.plain with
        | lst t l =>
          obtain ⟨ps, q1, q2, q3⟩ := kps_rep l hk
          subst q1
          refine ⟨_, ps, rfl, t.sq, q2, ?_⟩
          rw [q3]
          exact q _ H1 ads1 x1 h1 (.inl (.int _))
      · cases he
    · cases he
theorem chk_rev {a : E} {sc : Scope} {x : Expr} (h : chkE N fs (.rev a) sc x = true) : ∃ y k p1 p2 p3 pos, x = .Subscript y (.Slice none none (some (.UnaryOp .USub (.Constant (.int 1) k p1) p2)) p3) pos ∧ chkE N fs a sc y = true := by
  unfold chkE at h
  split at h
  all_goals first | (cases h; done) | skip
  all_goals (try (rename_i hh; cases hh))
  all_goals (obtain ⟨h1, h2⟩ := and2 h; have e := of_decide_eq_true h1; subst e; exact ⟨_, _, _, _, _, _, rfl, h2⟩)
theorem chk_ldict {a : E} {sc : Scope} {x : Expr} (h : chkE N fs (.ldict a) sc x = true) : ∃ y p p2 q pos, x = .Call (.Name "len" p) [.Call (.Name "dict" p2) [y] [] q] [] pos ∧ gloB sc "len" = true ∧ gloB sc "dict" = true ∧ notStar y = true ∧ chkE N fs a sc y = true := by
  unfold chkE at h
  split at h
  all_goals first | (cases h; done) | skip
  all_goals (try (rename_i hh; cases hh))
  all_goals (obtain ⟨h0, h5, h6⟩ := and3 h; obtain ⟨h7, h3, h4⟩ := and3 h0; obtain ⟨h1, h2⟩ := and2 h7; have e := of_decide_eq_true h1; have e2 := of_decide_eq_true h3; subst e e2; exact ⟨_, _, _, _, _, rfl, h2, h4, h5, h6⟩)
mutual
theorem sE : ∀ (e : E) (sc : Scope) (x : Expr) (X : Cx), GX N fs F n sc X → chkE N fs e sc x = true → Both X F x e
  | .var i, sc, x, X, G, h => by
    cases x with
    | Name y pos => exact s_var G h
    | _ => exact absurd h Bool.false_ne_true
  | .int i, sc, x, X, G, h => by
    cases x with
    | Constant c k pos =>
      cases c with
      | int j =>
        have e : i = j := of_decide_eq_true h
        subst e
        exact s_int
      | _ => exact absurd h Bool.false_ne_true
    | _ => exact absurd h Bool.false_ne_true
  | .bl i, sc, x, X, G, h => by
    cases x with
    | Constant c k pos =>
      cases c with
      | bool j =>
        have e : i = j := of_decide_eq_true h
        subst e
        exact s_bl
      | _ => exact absurd h Bool.false_ne_true
    | _ => exact absurd h Bool.false_ne_true
  | .non, sc, x, X, G, h => by
    cases x with
    | Constant c k pos =>
      cases c with
      | none => exact s_non
      | _ => exact absurd h Bool.false_ne_true
    | _ => exact absurd h Bool.false_ne_true
  | .str i, sc, x, X, G, h => by
    cases x with
    | Constant c k pos =>
      cases c with
      | str j =>
        have e : i = j := of_decide_eq_true h
        subst e
        exact s_str
      | _ => exact absurd h Bool.false_ne_true
    | _ => exact absurd h Bool.false_ne_true
  | .op o a b, sc, x, X, G, h => by
    cases x with
    | BinOp y o' z pos =>
      obtain ⟨h1, h2, h3⟩ := and3 (show (decide (o = o') && chkE N fs a sc y && chkE N fs b sc z) = true from h)
      have e : o = o' := of_decide_eq_true h1
      subst e
      exact s_op (sE a sc y X G h2) (sE b sc z X G h3)
    | _ => exact absurd h Bool.false_ne_true
  | .neg a, sc, x, X, G, h => by
    cases x with
    | UnaryOp o y pos =>
      cases o with
      | USub => exact s_neg (sE a sc y X G h)
      | _ => exact absurd h Bool.false_ne_true
    | _ => exact absurd h Bool.false_ne_true
  | .cmp o a b, sc, x, X, G, h => by
    cases x with
    | Compare y os ys pos =>
      match os, ys, h with
      | [o'], [z], h =>
        obtain ⟨h0, h3⟩ := and2 (show (decide (o = o') && notSet z && chkE N fs a sc y && chkE N fs b sc z) = true from h)
        obtain ⟨h1, h2, h4⟩ := and3 h0
        have e : o = o' := of_decide_eq_true h1
        subst e
        exact s_cmp G (sE a sc y X G h4) (sE b sc z X G h3) h2
      | [], _, h => exact absurd h Bool.false_ne_true
      | [_], [], h => exact absurd h Bool.false_ne_true
      | [_], _ :: _ :: _, h => exact absurd h Bool.false_ne_true
      | _ :: _ :: _, _, h => exact absurd h Bool.false_ne_true
    | _ => exact absurd h Bool.false_ne_true
  | .chn o p a b c, sc, x, X, G, h => by
    cases x with
    | Compare y os ys pos =>
      match os, ys, h with
      | [o', p'], [z, w], h =>
        obtain ⟨h1, h2, h3⟩ := and3 (show (decide (o = o') && decide (p = p') && notSet z && notSet w && chkE N fs a sc y && chkE N fs b sc z && chkE N fs c sc w) = true from h)
        obtain ⟨h4, h5, h6⟩ := and3 h1
        obtain ⟨h7, h8, h9⟩ := and3 h4
        have e : o = o' := of_decide_eq_true h7
        have e2 : p = p' := of_decide_eq_true h8
        subst e e2
        exact s_chn G (sE a sc y X G h6) (sE b sc z X G h2) (sE c sc w X G h3) h5
      | [], _, h => exact absurd h Bool.false_ne_true
      | [_], _, h => exact absurd h Bool.false_ne_true
      | [_, _], [], h => exact absurd h Bool.false_ne_true
      | [_, _], [_], h => exact absurd h Bool.false_ne_true
      | [_, _], _ :: _ :: _ :: _, h => exact absurd h Bool.false_ne_true
      | _ :: _ :: _ :: _, _, h => exact absurd h Bool.false_ne_true
    | _ => exact absurd h Bool.false_ne_true
  | .and a b, sc, x, X, G, h => by
    cases x with
    | BoolOp o ys pos =>
      match o, ys, h with
      | .And, y :: z :: r, h =>
        obtain ⟨h1, h2⟩ := and2 (show (chkE N fs a sc y && (if r.isEmpty then chkE N fs b sc z else chkE N fs b sc (.BoolOp .And (z :: r) pos))) = true from h)
        cases r with
        | nil => exact s_and (sE a sc y X G h1) (.inl ⟨rfl, sE b sc z X G h2⟩)
        | cons u us => exact s_and (sE a sc y X G h1) (.inr ⟨(fun q => by cases q), sE b sc _ X G h2⟩)
      | .Or, _, h => exact absurd h Bool.false_ne_true
      | .And, [], h => exact absurd h Bool.false_ne_true
      | .And, [_], h => exact absurd h Bool.false_ne_true
    | _ => exact absurd h Bool.false_ne_true
  | .or a b, sc, x, X, G, h => by
    cases x with
    | BoolOp o ys pos =>
      match o, ys, h with
      | .Or, y :: z :: r, h =>
        obtain ⟨h1, h2⟩ := and2 (show (chkE N fs a sc y && (if r.isEmpty then chkE N fs b sc z else chkE N fs b sc (.BoolOp .Or (z :: r) pos))) = true from h)
        cases r with
        | nil => exact s_or (sE a sc y X G h1) (.inl ⟨rfl, sE b sc z X G h2⟩)
        | cons u us => exact s_or (sE a sc y X G h1) (.inr ⟨(fun q => by cases q), sE b sc _ X G h2⟩)
      | .And, _, h => exact absurd h Bool.false_ne_true
      | .Or, [], h => exact absurd h Bool.false_ne_true
      | .Or, [_], h => exact absurd h Bool.false_ne_true
    | _ => exact absurd h Bool.false_ne_true
  | .not a, sc, x, X, G, h => by
    cases x with
    | UnaryOp o y pos =>
      cases o with
      | Not => exact s_not (sE a sc y X G h)
      | _ => exact absurd h Bool.false_ne_true
    | _ => exact absurd h Bool.false_ne_true
  | .ife c a b, sc, x, X, G, h => by
    cases x with
    | IfExp z y w pos =>
      obtain ⟨h1, h2, h3⟩ := and3 (show (chkE N fs c sc z && chkE N fs a sc y && chkE N fs b sc w) = true from h)
      exact s_ife (sE c sc z X G h1) (sE a sc y X G h2) (sE b sc w X G h3)
    | _ => exact absurd h Bool.false_ne_true
  | .tup es, sc, x, X, G, h => by
    cases x with
    | Tuple ys k pos => exact s_tup (sEs es sc ys X G h)
    | _ => exact absurd h Bool.false_ne_true
  | .lst es, sc, x, X, G, h => by
    cases x with
    | List ys pos => exact s_lst (sEs es sc ys X G h)
    | _ => exact absurd h Bool.false_ne_true
  | .ix a b, sc, x, X, G, h => by
    cases x with
    | Subscript y z pos =>
      have h' : (notSlice z && chkE N fs a sc y && chkE N fs b sc z) = true := by
        cases z with
        | Slice l u st p2 =>
          exfalso
          cases st with
          | none => exact absurd h Bool.false_ne_true
          | some _ => exact absurd h Bool.false_ne_true
        | _ => exact h
      obtain ⟨h1, h2, h3⟩ := and3 h'
      exact s_ix G (sE a sc y X G h2) (sE b sc z X G h3) h1
    | _ => exact absurd h Bool.false_ne_true
  | .sl a lo hi, sc, x, X, G, h => by
    cases x with
    | Subscript y z pos =>
      cases z with
      | Slice l u st p2 =>
        cases st with
        | none =>
          obtain ⟨h1, h2, h3⟩ := and3 (show (chkE N fs a sc y && chkEO N fs lo sc l && chkEO N fs hi sc u) = true from h)
          exact s_sl (sE a sc y X G h1) (sEO lo sc l X G h2) (sEO hi sc u X G h3)
        | some _ => exact absurd h Bool.false_ne_true
      | _ => exact absurd h Bool.false_ne_true
    | _ => exact absurd h Bool.false_ne_true
  | .call f es, sc, x, X, G, h => by
    cases x with
    | Call y ys ks pos =>
      cases y with
      | Name g p =>
        cases ks with
        | nil =>
          obtain ⟨h0, h4⟩ := and2 (show (decide (fs[f]? = some g) && gloB sc g && !(g == ("__debug__" : Str)) && chkEs N fs es sc ys) = true from h)
          obtain ⟨h1, h2, h3⟩ := and3 h0
          exact s_call G (of_decide_eq_true h1) h2 (by simpa using h3) (chkEs_star h4) (fun e => by subst e; exact chkEs_nil h4) (sEs es sc ys X G h4)
        | cons _ _ => exact absurd h Bool.false_ne_true
      | _ => exact absurd h Bool.false_ne_true
    | _ => exact absurd h Bool.false_ne_true
  | .callB f es, sc, x, X, G, h => by
    cases x with
    | Call y ys ks pos =>
      cases y with
      | Name g p =>
        cases ks with
        | nil =>
          obtain ⟨h00, h5⟩ := and2 (show (decide (fs[f]? = some g) && gloB sc g && !(g == ("__debug__" : Str)) && chkEs N fs es sc ys && !ys.isEmpty) = true from h)
          obtain ⟨h0, h4⟩ := and2 h00
          obtain ⟨h1, h2, h3⟩ := and3 h0
          exact s_callB G (of_decide_eq_true h1) h2 (by simpa using h3) (chkEs_star h4) (fun e => by subst e; cases h5) (sEs es sc ys X G h4)
        | cons _ _ => exact absurd h Bool.false_ne_true
      | _ => exact absurd h Bool.false_ne_true
    | _ => exact absurd h Bool.false_ne_true
  | .bi b es, sc, x, X, G, h => by
    cases x with
    | Call y ys ks pos =>
      cases y with
      | Name g p =>
        cases ks with
        | nil =>
          obtain ⟨h0, h4⟩ := and2 (show (decide (g = b.name) && gloB sc g && !ys.isEmpty && chkEs N fs es sc ys) = true from h)
          obtain ⟨h1, h2, h3⟩ := and3 h0
          cases ys with
          | nil => cases h3
          | cons z zs => exact s_bi G (of_decide_eq_true h1) h2 (chkEs_star h4) (sEs es sc (z :: zs) X G h4)
        | cons _ _ => exact absurd h Bool.false_ne_true
      | _ => exact absurd h Bool.false_ne_true
    | _ => exact absurd h Bool.false_ne_true
  | .isi a t, sc, x, X, G, h => by
    cases x with
    | Call y ys ks pos =>
      cases y with
      | Name g p =>
        cases ks with
        | nil =>
          match ys, h with
          | [], h => exact absurd h Bool.false_ne_true
          | [_], h => exact absurd h Bool.false_ne_true
          | _ :: w :: _ :: _, h => cases w <;> exact absurd h Bool.false_ne_true
          | [z, w], h =>
            cases w with
            | Name k p2 =>
              obtain ⟨h1, h2, h3⟩ := and3 (show (decide (g = "isinstance") && gloB sc g && decide (k = t.py) && gloB sc k && notStar z && chkE N fs a sc z) = true from h)
              obtain ⟨h4, h5, h6⟩ := and3 h1
              obtain ⟨h7, h8⟩ := and2 h4
              have e : g = "isinstance" := of_decide_eq_true h7
              have e2 : k = t.py := of_decide_eq_true h5
              subst e e2
              exact s_isi G h8 h6 h2 (sE a sc z X G h3)
            | _ => exact absurd h Bool.false_ne_true
        | cons _ _ => (rcases ys with _ | ⟨a1, _ | ⟨a2, _ | ⟨a3, r⟩⟩⟩ <;> first | exact absurd h Bool.false_ne_true | (cases a2 <;> exact absurd h Bool.false_ne_true))
      | _ => exact absurd h Bool.false_ne_true
    | _ => exact absurd h Bool.false_ne_true
  | .me m o es, sc, x, X, G, h => by
    cases x with
    | Call y ys ks pos =>
      cases y with
      | Attribute z g apos =>
        cases ks with
        | nil =>
          obtain ⟨h1, h2, h3⟩ := and3 (show (decide (g = m.name) && (apos.endLine == pos.line) && baseOk z && chkE N fs o sc z && m.arOk ys && chkEs N fs es sc ys) = true from h)
          obtain ⟨h4, h5, h6⟩ := and3 h1
          obtain ⟨h7, h8⟩ := and2 h4
          have e : g = m.name := of_decide_eq_true h7
          subst e
          cases m with
          | bits =>
            cases ys with
            | nil =>
              obtain rfl := chkEs_nil h3
              exact s_bits (sE o sc z X G h6) h5 h8
            | cons _ _ => cases h2
          | partition =>
            clear h h1 h4 h7
            match ys, h2, h3 with
            | [w], h2, h3 => exact s_partition (sE o sc z X G h6) (sEs es sc [w] X G h3) (chkEs_star h3 w List.mem_cons_self) h5 h8
            | [], h2, h3 => cases h2
            | _ :: _ :: _, h2, h3 => cases h2
          | join =>
            clear h h1 h4 h7
            match ys, h2, h3 with
            | [w], h2, h3 => exact s_join (sE o sc z X G h6) (sEs es sc [w] X G h3) (chkEs_star h3 w List.mem_cons_self) h5 h8
            | [], h2, h3 => cases h2
            | _ :: _ :: _, h2, h3 => cases h2
        | cons _ _ => exact absurd h Bool.false_ne_true
      | _ => exact absurd h Bool.false_ne_true
    | _ => exact absurd h Bool.false_ne_true
  | .lc elt tg it cond, sc, x, X, G, h => by
    cases x with
    | ListComp y gs scope pos =>
      match gs, h with
      | [⟨t, i, ifs, k⟩], h =>
        obtain ⟨h1, h2, h3⟩ := and3 (show (decide (k = 0) && blkC N sc scope (ownOf N tg.slots) && (notSet i && zipOk it t) && chkTg N scope tg t && chkIt N fs it sc i && chkC N fs cond scope ifs && chkE N fs elt scope y) = true from h)
        obtain ⟨h4, h5, h6⟩ := and3 h1
        obtain ⟨h7, h8, h9⟩ := and3 h4
        have e : k = 0 := of_decide_eq_true h7
        subst e
        exact s_lc G h8 (and2 h9).1 h5 (sIt it sc i X t G h6 (and2 h9).2) (fun X' G' => sC cond scope ifs X' G' h2) (fun X' G' => sE elt scope y X' G' h3)
      | [], h => exact absurd h Bool.false_ne_true
      | ⟨_, _, _, _⟩ :: _ :: _, h => exact absurd h Bool.false_ne_true
    | _ => exact absurd h Bool.false_ne_true
  | .con y vs, sc, x, X, G, h => by
    cases x with
    | Name z pos =>
      obtain ⟨h0, h3, h4⟩ := and3 (show (decide (z = y) && gloB sc z && !(z == ("__debug__" : Str)) && decide ((y, vs) ∈ cons)) = true from h)
      obtain ⟨h1, h2⟩ := and2 h0
      have e : z = y := of_decide_eq_true h1
      subst e
      exact s_con G h2 (by simpa using h3) (of_decide_eq_true h4)
    | _ => exact absurd h Bool.false_ne_true
  | .rev a, sc, x, X, G, h => by
    obtain ⟨y, k, p1, p2, p3, pos, rfl, h2⟩ := chk_rev h
    exact s_rev (sE a sc y X G h2)
  | .ldict a, sc, x, X, G, h => by
    obtain ⟨y, p, p2, q, pos, rfl, h1, h2, h3, h4⟩ := chk_ldict h
    exact s_ldict G h1 h2 h3 (sE a sc y X G h4)
  | .bad, sc, x, X, G, h => by
    refine ⟨⟨fun pins s σ H Q I q => ?_⟩, ⟨fun pins s σ H Q I q => ?_⟩⟩
    · obtain ⟨_, _, _, _, _, _, _, he, _⟩ := q
      unfold ev at he
      cases he
    · obtain ⟨_, _, _, _, _, _, _, he, _⟩ := q
      unfold ev at he
      cases he
  | .dict ks es, sc, x, X, G, h => by
    cases x with
    | Dict keys values pos =>
      obtain ⟨h0, h4⟩ := and2 (show (chkKs ks keys && decide (keys.length = values.length) && !keys.isEmpty && chkEs N fs es sc values) = true from h)
      obtain ⟨h1, h2, h3⟩ := and3 h0
      have hl : keys.length = values.length := of_decide_eq_true h2
      have pp := sPP es ks sc keys values X pos G h1 h4 hl
      exact s_dict h1 hl (by intro e; subst e; cases h3) pp
    | _ => exact absurd h Bool.false_ne_true
theorem sPP : ∀ (es : Es) (ks : List Str) (sc : Scope) (keys : List (Option Expr)) (values : List Expr) (X : Cx) (pos : Pos), GX N fs F n sc X → chkKs ks keys = true → chkEs N fs es sc values = true → keys.length = values.length → PPs X pos keys values (trsOf X.K F ks es)
  | es, [], sc, [], [], X, pos, _, _, _, _ => by
    cases es <;> exact pps_nil
  | _, [], _, _ :: _, _, _, _, _, h, _, _ => absurd h Bool.false_ne_true
  | _, [], _, [], _ :: _, _, _, _, _, _, h => by cases h
  | _, _ :: _, _, [], _, _, _, _, h, _, _ => absurd h Bool.false_ne_true
  | .nil, _ :: _, _, _ :: _, [], _, _, _, _, _, h => by cases h
  | .nil, _ :: _, _, _ :: _, _ :: _, _, _, _, _, h, _ => absurd h Bool.false_ne_true
  | .cons e es, _ :: _, _, _ :: _, [], _, _, _, _, _, h => by cases h
  | .cons e es, k :: ks, sc, o :: keys, v :: values, X, pos, G, h1, h2, h3 => by
    obtain ⟨g1, g2, g3⟩ := and3 (show (notStar v && chkE N fs e sc v && chkEs N fs es sc values) = true from h2)
    cases o with
    | none => exact absurd h1 Bool.false_ne_true
    | some y =>
      cases y with
      | Constant c j p =>
        cases c with
        | str z =>
          obtain ⟨m1, m2⟩ := and2 (show (decide (k = z) && chkKs ks keys) = true from h1)
          have ek : k = z := of_decide_eq_true m1
          subst ek
          exact pps_cons pe_str (sE e sc v X G g2).v (sPP es ks sc keys values X pos G m2 g3 (by simpa using h3))
        | _ => exact absurd h1 Bool.false_ne_true
      | _ => exact absurd h1 Bool.false_ne_true
theorem sEs : ∀ (es : Es) (sc : Scope) (xs : List Expr) (X : Cx), GX N fs F n sc X → chkEs N fs es sc xs = true → PA X xs (tEs X.K F es)
  | .nil, sc, [], X, G, h => s_nil
  | .nil, sc, _ :: _, X, G, h => absurd h Bool.false_ne_true
  | .cons e es, sc, [], X, G, h => absurd h Bool.false_ne_true
  | .cons e es, sc, x :: xs, X, G, h => by
    obtain ⟨h1, h2, h3⟩ := and3 (show (notStar x && chkE N fs e sc x && chkEs N fs es sc xs) = true from h)
    exact s_cons (sE e sc x X G h2) (sEs es sc xs X G h3) h1
theorem sEO : ∀ (e : EO) (sc : Scope) (x : Option Expr) (X : Cx), GX N fs F n sc X → chkEO N fs e sc x = true → PO X x (tEO X.K F e)
  | .none, sc, none, X, G, h => s_onone
  | .none, sc, some _, X, G, h => absurd h Bool.false_ne_true
  | .some e, sc, none, X, G, h => absurd h Bool.false_ne_true
  | .some e, sc, some x, X, G, h => s_osome (sE e sc x X G h)
theorem sC : ∀ (e : EO) (sc : Scope) (x : List Expr) (X : Cx), GX N fs F n sc X → chkC N fs e sc x = true → PTs X x (tC' X.K F e)
  | .none, sc, [], X, G, h => s_cnone
  | .none, sc, _ :: _, X, G, h => absurd h Bool.false_ne_true
  | .some e, sc, [], X, G, h => absurd h Bool.false_ne_true
  | .some e, sc, [x], X, G, h => s_csome (sE e sc x X G h)
  | .some e, sc, _ :: _ :: _, X, G, h => absurd h Bool.false_ne_true
theorem sIt : ∀ (it : It) (sc : Scope) (x : Expr) (X : Cx) (tgx : Expr), GX N fs F n sc X → chkIt N fs it sc x = true → zipOk it tgx = true → PI X tgx x (tI X.K F it)
  | .zip2 a b, sc, x, X, tgx, G, h, hz => by
    cases tgx with
    | Tuple ts kk tp =>
      cases x with
      | Call y ys ks pos =>
        cases y with
        | Name g p =>
          cases ks with
          | nil =>
            match ys, h with
            | [], h => exact absurd h Bool.false_ne_true
            | [_], h => exact absurd h Bool.false_ne_true
            | _ :: _ :: _ :: _, h => exact absurd h Bool.false_ne_true
            | [z, w], h =>
              obtain ⟨h0, h4, h5⟩ := and3 (show (decide (g = "zip") && gloB sc g && notStar z && notStar w && chkE N fs a sc z && chkE N fs b sc w) = true from h)
              obtain ⟨h6, h2, h3⟩ := and3 h0
              obtain ⟨h1, h7⟩ := and2 h6
              have e : g = "zip" := of_decide_eq_true h1
              subst e
              exact s_zip2 G h7 h2 h3 (sE a sc z X G h4) (sE b sc w X G h5)
          | cons _ _ => (rcases ys with _ | ⟨a1, _ | ⟨a2, _ | ⟨a3, r⟩⟩⟩ <;> first | exact absurd h Bool.false_ne_true | (cases a2 <;> exact absurd h Bool.false_ne_true))
        | _ => exact absurd h Bool.false_ne_true
      | _ => exact absurd h Bool.false_ne_true
    | _ => exact absurd hz Bool.false_ne_true
  | .zip3 a b c, sc, x, X, tgx, G, h, hz => by
    cases tgx with
    | Tuple ts kk tp =>
      cases x with
      | Call y ys ks pos =>
        cases y with
        | Name g p =>
          cases ks with
          | nil =>
            match ys, h with
            | [], h => exact absurd h Bool.false_ne_true
            | [_], h => exact absurd h Bool.false_ne_true
            | [_, _], h => exact absurd h Bool.false_ne_true
            | _ :: _ :: _ :: _ :: _, h => exact absurd h Bool.false_ne_true
            | [z, w, o], h =>
              obtain ⟨h0, h4, h5⟩ := and3 (show (decide (g = "zip") && gloB sc g && notStar z && notStar w && notStar o && chkE N fs a sc z && chkE N fs b sc w && chkE N fs c sc o) = true from h)
              obtain ⟨h6, h8, h9⟩ := and3 h0
              obtain ⟨h10, h2, h3⟩ := and3 h6
              obtain ⟨h1, h7⟩ := and2 h10
              have e : g = "zip" := of_decide_eq_true h1
              subst e
              exact s_zip3 G h7 h2 h3 h8 (sE a sc z X G h9) (sE b sc w X G h4) (sE c sc o X G h5)
          | cons _ _ => (rcases ys with _ | ⟨a1, _ | ⟨a2, _ | ⟨a3, _ | ⟨a4, r⟩⟩⟩⟩ <;> first | exact absurd h Bool.false_ne_true | (cases a2 <;> first | exact absurd h Bool.false_ne_true | (cases a3 <;> exact absurd h Bool.false_ne_true)))
        | _ => exact absurd h Bool.false_ne_true
      | _ => exact absurd h Bool.false_ne_true
    | _ => exact absurd hz Bool.false_ne_true
  | .seq e, sc, x, X, tgx, G, h, _ => s_iseq (sE e sc x X G h)
  | .rng1 a, sc, x, X, tgx, G, h, _ => by
    cases x with
    | Call y ys ks pos =>
      cases y with
      | Name g p =>
        cases ks with
        | nil =>
          match ys, h with
          | [], h => exact absurd h Bool.false_ne_true
          | _ :: _ :: _, h => exact absurd h Bool.false_ne_true
          | [z], h =>
            obtain ⟨h0, h4⟩ := and2 (show (decide (g = "range") && gloB sc g && notStar z && chkE N fs a sc z) = true from h)
            obtain ⟨h1, h2, h3⟩ := and3 h0
            have e : g = "range" := of_decide_eq_true h1
            subst e
            exact s_rng1 G h2 h3 (sE a sc z X G h4)
        | cons _ _ => (rcases ys with _ | ⟨a1, _ | ⟨a2, _ | ⟨a3, r⟩⟩⟩ <;> first | exact absurd h Bool.false_ne_true | (cases a2 <;> exact absurd h Bool.false_ne_true))
      | _ => exact absurd h Bool.false_ne_true
    | _ => exact absurd h Bool.false_ne_true
  | .rng2 a b, sc, x, X, tgx, G, h, _ => by
    cases x with
    | Call y ys ks pos =>
      cases y with
      | Name g p =>
        cases ks with
        | nil =>
          match ys, h with
          | [], h => exact absurd h Bool.false_ne_true
          | [_], h => exact absurd h Bool.false_ne_true
          | _ :: _ :: _ :: _, h => exact absurd h Bool.false_ne_true
          | [z, w], h =>
            obtain ⟨h0, h4, h5⟩ := and3 (show (decide (g = "range") && gloB sc g && notStar z && notStar w && chkE N fs a sc z && chkE N fs b sc w) = true from h)
            obtain ⟨h6, h2, h3⟩ := and3 h0
            obtain ⟨h1, h7⟩ := and2 h6
            have e : g = "range" := of_decide_eq_true h1
            subst e
            exact s_rng2 G h7 h2 h3 (sE a sc z X G h4) (sE b sc w X G h5)
        | cons _ _ => (rcases ys with _ | ⟨a1, _ | ⟨a2, _ | ⟨a3, r⟩⟩⟩ <;> first | exact absurd h Bool.false_ne_true | (cases a2 <;> exact absurd h Bool.false_ne_true))
      | _ => exact absurd h Bool.false_ne_true
    | _ => exact absurd h Bool.false_ne_true
  | .rng3 a b c, sc, x, X, tgx, G, h, _ => by
    cases x with
    | Call y ys ks pos =>
      cases y with
      | Name g p =>
        cases ks with
        | nil =>
          match ys, h with
          | [], h => exact absurd h Bool.false_ne_true
          | [_], h => exact absurd h Bool.false_ne_true
          | [_, _], h => exact absurd h Bool.false_ne_true
          | _ :: _ :: _ :: _ :: _, h => exact absurd h Bool.false_ne_true
          | [z, w, o], h =>
            obtain ⟨h0, h4, h5⟩ := and3 (show (decide (g = "range") && gloB sc g && notStar z && notStar w && notStar o && chkE N fs a sc z && chkE N fs b sc w && chkE N fs c sc o) = true from h)
            obtain ⟨h6, h8, h9⟩ := and3 h0
            obtain ⟨h10, h2, h3⟩ := and3 h6
            obtain ⟨h1, h7⟩ := and2 h10
            have e : g = "range" := of_decide_eq_true h1
            subst e
            exact s_rng3 G h7 h2 h3 h8 (sE a sc z X G h9) (sE b sc w X G h4) (sE c sc o X G h5)
        | cons _ _ => (rcases ys with _ | ⟨a1, _ | ⟨a2, _ | ⟨a3, _ | ⟨a4, r⟩⟩⟩⟩ <;> first | exact absurd h Bool.false_ne_true | (cases a2 <;> first | exact absurd h Bool.false_ne_true | (cases a3 <;> exact absurd h Bool.false_ne_true)))
      | _ => exact absurd h Bool.false_ne_true
    | _ => exact absurd h Bool.false_ne_true
end
end
end FM

set_option Elab.async false
set_option linter.all false
set_option maxRecDepth 100000
set_option maxHeartbeats 4000000
/-! Ev12: statements. -/
namespace FM
open PySem PySem.Spec PyProof.Rows L2

/-! ### the frame -/
/-- what the frame's slots own, and what was own ahead of the call -/
def ownF (own0 : Addr → Prop) (σ : L2.St) (ρ : Env) : Addr → Prop := fun b => own0 b ∨ ∃ (i : Nat) (ds : List D), ρ[i]? = some (some (Sl.ow ds)) ∧ σ[i]? = some (some (V.ref b))
/-- what a def's body keeps: base: the state at its entry; pn, pa: what a loop around wants kept -/
structure Base where
  own0 : Addr → Prop
  ads0 : List Addr
  H0 : Hp
  pn : Addr → HO → Prop
  pa : List Addr
structure FI (K : PySem.W.Frag) (B : Base) (ads : List Addr) (H : Hp) (σ : L2.St) (ρ : Env) (μ : Cells) : Prop where
  hold : Hold K (ownF B.own0 σ ρ) ads H σ ρ μ
  ext : Ext B.ads0 B.H0 ads H
  dist : ∀ (i j : Nat) (ds es : List D) (b : Addr), ρ[i]? = some (some (Sl.ow ds)) → ρ[j]? = some (some (Sl.ow es)) → σ[i]? = some (some (V.ref b)) → σ[j]? = some (some (V.ref b)) → i = j
  new : ∀ (i : Nat) (ds : List D) (b : Addr), ρ[i]? = some (some (Sl.ow ds)) → σ[i]? = some (some (V.ref b)) → B.H0 b = none
  own0T : ∀ b, B.own0 b → ∃ o, B.H0 b = some o
  pin : ∀ b o, B.pn b o → H b = some o ∧ ¬ Zo (ownF B.own0 σ ρ) ads b
  pre : ∀ (k : Nat) (a : Addr), B.pa[k]? = some a → ads[k]? = some a
section
variable {K : PySem.W.Frag} {B : Base} {ads ads' : List Addr} {H H' : Hp} {σ : L2.St} {ρ : Env} {μ μ' : Cells}
/-- behind an expression -/
theorem FI.step (f : FI K B ads H σ ρ μ) (e : Ext ads H ads' H') (h : Hold K (ownF B.own0 σ ρ) ads' H' σ ρ μ') : FI K B ads' H' σ ρ μ' where
  hold := h
  ext := f.ext.trans e
  dist := f.dist
  new := f.new
  own0T := f.own0T
  pin := fun b o p => by
    obtain ⟨h1, h2⟩ := f.pin b o p
    exact ⟨e.keep b o h1 fun m => h2 (.inr m), e.stay.free b o h1 h2⟩
  pre := fun k a q => e.pre k a (f.pre k a q)
theorem ownF_set {own0 : Addr → Prop} {i : Nat} {v : Option V} {d : D} {b : Addr} (h : ownF own0 (σ.set i v) (ρ.set i (some (.pl d))) b) : ownF own0 σ ρ b := by
  rcases h with h | ⟨j, ds, h1, h2⟩
  · exact .inl h
  · by_cases hj : i = j
    · subst hj
      rw [List.getElem?_set] at h1
      simp at h1
    · rw [List.getElem?_set_ne hj] at h1 h2
      exact .inr ⟨j, ds, h1, h2⟩
theorem ownF_set' {own0 : Addr → Prop} {i : Nat} {d : D} {b : Addr} (h : ownF own0 σ (ρ.set i (some (.pl d))) b) : ownF own0 σ ρ b := by
  rcases h with h | ⟨j, ds, h1, h2⟩
  · exact .inl h
  · by_cases hj : i = j
    · subst hj
      rw [List.getElem?_set] at h1
      simp at h1
    · rw [List.getElem?_set_ne hj] at h1
      exact .inr ⟨j, ds, h1, h2⟩
theorem set_ow {i j : Nat} {d : D} {ds : List D} (h : (ρ.set i (some (Sl.pl d)))[j]? = some (some (Sl.ow ds))) : i ≠ j ∧ ρ[j]? = some (some (Sl.ow ds)) := by
  by_cases hj : i = j
  · subst hj
    rw [List.getElem?_set] at h
    simp at h
  · rw [List.getElem?_set_ne hj] at h
    exact ⟨hj, h⟩
/-- the environment, seen with fewer own lists -/
theorem Hold.anti {own own' : Addr → Prop} (h : ∀ b, own' b → own b) (k : ∀ (i : Nat) (ds : List D) (b : Addr), ρ[i]? = some (some (Sl.ow ds)) → σ[i]? = some (some (V.ref b)) → own' b) (x : Hold K own ads H σ ρ μ) : Hold K own' ads H σ ρ μ := by
  refine ⟨fun i s e => ?_, x.c.anti h, x.len⟩
  obtain ⟨v, h1, h2⟩ := x.e i s e
  refine ⟨v, h1, h2.anti h fun ds e1 a e2 => ?_⟩
  subst e1 e2
  exact k i ds a e h1
/-- a plain datum is stored -/
theorem FI.setPl {i : Nat} {v : V} {d : D} (f : FI K B ads H σ ρ μ) (r : Rep K (Zo (ownF B.own0 σ ρ) ads) ads H v d) : FI K B ads H (σ.set i (some v)) (ρ.set i (some (.pl d))) μ where
  hold := (f.hold.set r).anti (fun b h => ownF_set h) fun j ds b h1 h2 => .inr ⟨j, ds, h1, h2⟩
  ext := f.ext
  dist := fun j k ds es b h1 h2 h3 h4 => by
    obtain ⟨n1, g1⟩ := set_ow h1
    obtain ⟨n2, g2⟩ := set_ow h2
    rw [List.getElem?_set_ne n1] at h3
    rw [List.getElem?_set_ne n2] at h4
    exact f.dist j k ds es b g1 g2 h3 h4
  new := fun j ds b h1 h2 => by
    obtain ⟨n1, g1⟩ := set_ow h1
    rw [List.getElem?_set_ne n1] at h2
    exact f.new j ds b g1 h2
  own0T := f.own0T
  pin := fun b o p => by
    obtain ⟨h1, h2⟩ := f.pin b o p
    exact ⟨h1, fun z => h2 (z.elim (fun z => .inl (ownF_set z)) .inr)⟩
  pre := f.pre
/-- an owned list is let go: it is plain from now on -/
theorem FI.frz {i : Nat} {ds : List D} (f : FI K B ads H σ ρ μ) (hi : ρ[i]? = some (some (Sl.ow ds))) : FI K B ads H σ (ρ.set i (some (.pl (.lst ds)))) μ := by
  obtain ⟨v, e1, a, xs, e2, e3, e4, e5⟩ := f.hold.e i _ hi
  subst e2
  have fewer : ∀ b, ownF B.own0 σ (ρ.set i (some (.pl (.lst ds)))) b → ownF B.own0 σ ρ b := fun b h => ownF_set' h
  have na : ¬ Zo (ownF B.own0 σ (ρ.set i (some (.pl (.lst ds))))) ads a := by
    intro z
    rcases z with (z | ⟨j, es, z1, z2⟩) | z
    · obtain ⟨o, z1⟩ := f.own0T a z
      rw [f.new i ds a hi e1] at z1
      cases z1
    · obtain ⟨n1, g1⟩ := set_ow z1
      exact n1 (f.dist i j ds es a hi g1 e1 z2)
    · exact f.hold.c.dis a z e4
  refine ⟨?_, f.ext, fun j k ds es b h1 h2 h3 h4 => ?_, fun j ds b h1 h2 => ?_, f.own0T, fun b o p => ?_, f.pre⟩
  · refine ⟨fun j s e => ?_, f.hold.c.anti fewer, by rw [List.length_set]; exact f.hold.len⟩
    by_cases hj : i = j
    · subst hj
      have hl := (List.getElem?_eq_some_iff.mp hi).1
      rw [List.getElem?_set_self hl] at e
      cases e
      exact ⟨_, e1, .lst (.inl ⟨.inl e3, na⟩) (RepL.stay (antiOwn (K := K) fewer) _ _ e5)⟩
    · rw [List.getElem?_set_ne hj] at e
      obtain ⟨w, g1, g2⟩ := f.hold.e j s e
      refine ⟨w, g1, g2.anti fewer fun es e1 a e2 => ?_⟩
      subst e1 e2
      exact .inr ⟨j, es, by rw [List.getElem?_set_ne hj]; exact e, g1⟩
  · exact f.dist j k ds es b (set_ow h1).2 (set_ow h2).2 h3 h4
  · exact f.new j ds b (set_ow h1).2 h2
  · obtain ⟨h1, h2⟩ := f.pin b o p
    exact ⟨h1, fun z => h2 (z.elim (fun z => .inl (fewer _ z)) .inr)⟩
/-- a new list of one's own -/
theorem FI.own {i : Nat} {p : Addr} (f : FI K B ads H σ ρ μ) (hp : H p = none) (hi : isOw ρ i = false) : FI K B ads (upd H p (.lst [])) (σ.set i (some (.ref p))) (ρ.set i (some (.ow []))) μ := by
  have hp0 : B.H0 p = none := by
    cases q : B.H0 p with
    | none => rfl
    | some o => obtain ⟨o', q'⟩ := f.ext.there p o q; rw [hp] at q'; cases q'
  have not : ∀ (j : Nat) (ds : List D), ρ[j]? = some (some (Sl.ow ds)) → i ≠ j := fun j ds e z => by
    subst z
    unfold isOw at hi
    rw [e] at hi
    cases hi
  have notp : ∀ (j : Nat) (ds : List D), ρ[j]? = some (some (Sl.ow ds)) → σ[j]? ≠ some (some (V.ref p)) := fun j ds e z => by
    obtain ⟨v, e1, a, xs, e2, e3, _⟩ := f.hold.e j _ e
    rw [z] at e1
    cases e1
    cases e2
    rw [hp] at e3
    cases e3
  have look : ∀ {j : Nat} {ds : List D}, (ρ.set i (some (Sl.ow [])))[j]? = some (some (Sl.ow ds)) → (i = j ∧ ds = [] ∧ j < ρ.length) ∨ (i ≠ j ∧ ρ[j]? = some (some (Sl.ow ds))) := fun {j ds} e => by
    by_cases hj : i = j
    · subst hj
      have hl := (List.getElem?_eq_some_iff.mp e).1
      rw [List.length_set] at hl
      rw [List.getElem?_set_self hl] at e
      cases e
      exact .inl ⟨rfl, rfl, hl⟩
    · rw [List.getElem?_set_ne hj] at e
      exact .inr ⟨hj, e⟩
  have fewer : ∀ b, ownF B.own0 (σ.set i (some (V.ref p))) (ρ.set i (some (Sl.ow []))) b → plusOwn (ownF B.own0 σ ρ) p b := fun b h => by
    rcases h with h | ⟨j, ds, h1, h2⟩
    · exact .inl (.inl h)
    · rcases look h1 with ⟨e1, _, hl⟩ | ⟨e1, e2⟩
      · subst e1
        rw [List.getElem?_set_self (by rw [← f.hold.len]; exact hl)] at h2
        cases h2
        exact .inr rfl
      · rw [List.getElem?_set_ne e1] at h2
        exact .inl (.inr ⟨j, ds, e2, h2⟩)
  have hh := f.hold.plus (p := p) (o := .lst []) hp True.intro
  refine ⟨?_, f.ext.trans (.fresh hp), fun j k ds es b h1 h2 h3 h4 => ?_, fun j ds b h1 h2 => ?_, f.own0T, fun b o q => ?_, f.pre⟩
  · refine ⟨fun j s e => ?_, hh.c.anti fewer, by rw [List.length_set, List.length_set]; exact f.hold.len⟩
    by_cases hj : i = j
    · subst hj
      have hl := (List.getElem?_eq_some_iff.mp e).1
      rw [List.length_set] at hl
      rw [List.getElem?_set_self hl] at e
      cases e
      exact ⟨_, List.getElem?_set_self (by rw [← f.hold.len]; exact hl), p, [], rfl, upd_same, .inr ⟨i, [], List.getElem?_set_self hl, List.getElem?_set_self (by rw [← f.hold.len]; exact hl)⟩, .nil⟩
    · rw [List.getElem?_set_ne hj] at e
      obtain ⟨w, g1, g2⟩ := hh.e j s e
      refine ⟨w, by rw [List.getElem?_set_ne hj]; exact g1, g2.anti fewer fun es e1 a e2 => ?_⟩
      subst e1 e2
      exact .inr ⟨j, es, by rw [List.getElem?_set_ne hj]; exact e, by rw [List.getElem?_set_ne hj]; exact g1⟩
  · rcases look h1 with ⟨a1, _, l1⟩ | ⟨a1, a2⟩
    · subst a1
      rw [List.getElem?_set_self (by rw [← f.hold.len]; exact l1)] at h3
      cases h3
      rcases look h2 with ⟨b1, _, _⟩ | ⟨b1, b2⟩
      · exact b1
      · rw [List.getElem?_set_ne b1] at h4
        exact absurd h4 (notp k es b2)
    · rw [List.getElem?_set_ne a1] at h3
      rcases look h2 with ⟨b1, _, l2⟩ | ⟨b1, b2⟩
      · subst b1
        rw [List.getElem?_set_self (by rw [← f.hold.len]; exact l2)] at h4
        cases h4
        exact absurd h3 (notp j ds a2)
      · rw [List.getElem?_set_ne b1] at h4
        exact f.dist j k ds es b a2 b2 h3 h4
  · rcases look h1 with ⟨a1, _, l1⟩ | ⟨a1, a2⟩
    · subst a1
      rw [List.getElem?_set_self (by rw [← f.hold.len]; exact l1)] at h2
      cases h2
      exact hp0
    · rw [List.getElem?_set_ne a1] at h2
      exact f.new j ds b a2 h2
  · obtain ⟨h1, h2⟩ := f.pin b o q
    have ne : b ≠ p := ne_of_none h1 hp
    refine ⟨by rw [upd_ne ne]; exact h1, fun z => ?_⟩
    rcases z with z | z
    · rcases fewer b z with z | z
      · exact h2 (.inl z)
      · exact ne z
    · exact h2 (.inr z)
/-- a list of one's own with new items -/
theorem FI.wr {i : Nat} {a : Addr} {ds en : List D} {xs ys : List V} (f : FI K B ads H σ ρ μ) (hi : ρ[i]? = some (some (Sl.ow ds))) (hs : σ[i]? = some (some (V.ref a))) (ha : H a = some (.lst xs)) (hl : RepL K (Zo (ownF B.own0 σ ρ) ads) ads H ys en) :
    FI K B ads (upd H a (.lst ys)) σ (ρ.set i (some (.ow en))) μ := by
  have own : ownF B.own0 σ ρ a := .inr ⟨i, ds, hi, hs⟩
  have hlen := (List.getElem?_eq_some_iff.mp hi).1
  have look : ∀ {j : Nat} {es : List D}, (ρ.set i (some (Sl.ow en)))[j]? = some (some (Sl.ow es)) → ∃ es', ρ[j]? = some (some (Sl.ow es')) := fun {j es} e => by
    by_cases hj : i = j
    · subst hj
      exact ⟨ds, hi⟩
    · rw [List.getElem?_set_ne hj] at e
      exact ⟨es, e⟩
  have same : ∀ b, ownF B.own0 σ (ρ.set i (some (Sl.ow en))) b → ownF B.own0 σ ρ b := fun b h => by
    rcases h with h | ⟨j, es, h1, h2⟩
    · exact .inl h
    · obtain ⟨es', e⟩ := look h1
      exact .inr ⟨j, es', e, h2⟩
  have back : ∀ (j : Nat) (es : List D) (b : Addr), ρ[j]? = some (some (Sl.ow es)) → σ[j]? = some (some (V.ref b)) → ownF B.own0 σ (ρ.set i (some (Sl.ow en))) b := fun j es b e1 e2 => by
    by_cases hj : i = j
    · subst hj
      exact .inr ⟨i, _, List.getElem?_set_self hlen, e2⟩
    · exact .inr ⟨j, es, by rw [List.getElem?_set_ne hj]; exact e1, e2⟩
  have e0 : ∀ b o, B.H0 b = some o → b ≠ a := fun b o e z => by
    subst z
    rw [f.new i ds b hi hs] at e
    cases e
  refine ⟨?_, ⟨fun b o e m => ?_, fun b o e => ?_, f.ext.new, f.ext.pre⟩, fun j k es gs b h1 h2 h3 h4 => ?_, fun j es b h1 h2 => ?_, f.own0T, fun b o q => ?_, f.pre⟩
  · refine ⟨fun j s e => ?_, ⟨f.hold.c.len, f.hold.c.nd, fun k b e => ?_, fun b m z => f.hold.c.dis b m (same _ z), fun b z => ?_⟩, by rw [List.length_set]; exact f.hold.len⟩
    · by_cases hj : i = j
      · subst hj
        rw [List.getElem?_set_self hlen] at e
        cases e
        refine ⟨_, hs, a, ys, rfl, upd_same, back i ds a hi hs, ?_⟩
        exact RepL.stay (antiOwn (K := K) same) _ _ (RepL.stay (stayWrite own) _ _ hl)
      · rw [List.getElem?_set_ne hj] at e
        obtain ⟨w, g1, g2⟩ := f.hold.e j s e
        refine ⟨w, g1, ?_⟩
        cases s with
        | pl d' => exact Rep.stay (antiOwn (K := K) same) _ _ (Rep.stay (stayWrite own) _ _ g2)
        | ow es =>
          obtain ⟨a', zs, f1, f2, f3, f4⟩ := g2
          subst f1
          have ne : a' ≠ a := fun z => hj (f.dist i j ds es a hi e hs (z ▸ g1))
          exact ⟨a', zs, rfl, by rw [upd_ne ne]; exact f2, back j es a' e g1, RepL.stay (antiOwn (K := K) same) _ _ (RepL.stay (stayWrite own) _ _ f4)⟩
    · obtain ⟨kvs, kds, g1, g2, g3⟩ := f.hold.c.at k b e
      have ne : b ≠ a := fun z => f.hold.c.dis b (List.mem_of_getElem? e) (z ▸ own)
      exact ⟨kvs, kds, g1, by rw [upd_ne ne]; exact g2, (g3.stay (stayWrite own)).stay (antiOwn (K := K) same)⟩
    · by_cases hb : b = a
      · subst hb
        exact ⟨_, upd_same, True.intro⟩
      · obtain ⟨o, g1, g2⟩ := f.hold.c.ownT b (same _ z)
        exact ⟨o, by rw [upd_ne hb]; exact g1, g2⟩
  · rw [upd_ne (e0 b o e)]
    exact f.ext.keep b o e m
  · rw [upd_ne (e0 b o e)]
    exact f.ext.there b o e
  · obtain ⟨es', g1⟩ := look h1
    obtain ⟨gs', g2⟩ := look h2
    exact f.dist j k es' gs' b g1 g2 h3 h4
  · obtain ⟨es', g1⟩ := look h1
    exact f.new j es' b g1 h2
  · obtain ⟨h1, h2⟩ := f.pin b o q
    have ne : b ≠ a := fun z => h2 (.inl (z ▸ own))
    exact ⟨by rw [upd_ne ne]; exact h1, fun z => h2 (z.elim (fun z => .inl (same _ z)) .inr)⟩
/-- an item appended to a list of one's own -/
theorem FI.app {i : Nat} {a : Addr} {ds : List D} {xs : List V} {v : V} {d : D} (f : FI K B ads H σ ρ μ) (hi : ρ[i]? = some (some (Sl.ow ds))) (hs : σ[i]? = some (some (V.ref a))) (ha : H a = some (.lst xs)) (hl : RepL K (Zo (ownF B.own0 σ ρ) ads) ads H xs ds) (r : Rep K (Zo (ownF B.own0 σ ρ) ads) ads H v d) :
    FI K B ads (upd H a (.lst (xs ++ [v]))) σ (ρ.set i (some (.ow (ds ++ [d])))) μ := f.wr hi hs ha (hl.append (.cons r .nil))
theorem stayCell {own : Addr → Prop} {p : Addr} {o : HO} (h : p ∈ ads) : Stay (Zo own ads) (Zo own ads) ads ads H (upd H p o) :=
  ⟨fun b u e z => by
    have ne : b ≠ p := by rintro rfl; exact z (.inr h)
    rw [upd_ne ne]; exact e, fun _ _ _ z => z, fun _ _ e => e⟩
theorem ix_inj {N : List Addr} (hN : N.Nodup) {i j : Nat} {x : Addr} (a : N[i]? = some x) (b : N[j]? = some x) : i = j := by
  obtain ⟨h1, e1⟩ := List.getElem?_eq_some_iff.mp a
  obtain ⟨h2, e2⟩ := List.getElem?_eq_some_iff.mp b
  exact (List.getElem_inj hN).mp (e1.trans e2.symm)
/-- a cell is changed -/
theorem FI.cell {n : Nat} {a : Addr} {c : Cell} {kvs : List (Key × V)} (f : FI K B ads H σ ρ μ) (ha : ads[n]? = some a) (hk : RepKV K (Zo (ownF B.own0 σ ρ) ads) ads H kvs c) : FI K B ads (upd H a (.dK kvs)) σ ρ (μ.set n c) := by
  have mem := List.mem_of_getElem? ha
  obtain ⟨kv0, kd0, k1, k2, k3⟩ := f.hold.c.at n a ha
  have hn : n < μ.length := (List.getElem?_eq_some_iff.mp k1).1
  refine ⟨⟨fun i s e => ?_, ⟨by rw [List.length_set]; exact f.hold.c.len, f.hold.c.nd, fun k b e => ?_, f.hold.c.dis, fun b z => ?_⟩, f.hold.len⟩, ⟨fun b o e m => ?_, fun b o e => ?_, f.ext.new, f.ext.pre⟩, f.dist, f.new, f.own0T, fun b o q => ?_, f.pre⟩
  · obtain ⟨v, h1, h2⟩ := f.hold.e i s e
    refine ⟨v, h1, ?_⟩
    cases s with
    | pl d => exact Rep.stay (stayCell mem) _ _ h2
    | ow ds =>
      obtain ⟨b, zs, f1, f2, f3, f4⟩ := h2
      have ne : b ≠ a := fun z => f.hold.c.dis a mem (z ▸ f3)
      exact ⟨b, zs, f1, by rw [upd_ne ne]; exact f2, f3, RepL.stay (stayCell mem) _ _ f4⟩
  · by_cases hb : k = n
    · subst hb
      rw [ha] at e
      cases e
      exact ⟨kvs, c, List.getElem?_set_self hn, upd_same, hk.stay (stayCell mem)⟩
    · obtain ⟨kv, kd, g1, g2, g3⟩ := f.hold.c.at k b e
      have ne : b ≠ a := fun z => hb (ix_inj f.hold.c.nd e (z ▸ ha))
      exact ⟨kv, kd, by rw [List.getElem?_set_ne (Ne.symm hb)]; exact g1, by rw [upd_ne ne]; exact g2, g3.stay (stayCell mem)⟩
  · obtain ⟨o, g1, g2⟩ := f.hold.c.ownT b z
    have ne : b ≠ a := fun w => f.hold.c.dis a mem (w ▸ z)
    exact ⟨o, by rw [upd_ne ne]; exact g1, g2⟩
  · by_cases hb : b = a
    · subst hb
      rcases f.ext.new b mem with z | z
      · exact absurd z m
      · rw [z] at e; cases e
    · rw [upd_ne hb]
      exact f.ext.keep b o e m
  · by_cases hb : b = a
    · subst hb
      exact ⟨_, upd_same⟩
    · rw [upd_ne hb]
      exact f.ext.there b o e
  · obtain ⟨h1, h2⟩ := f.pin b o q
    have ne : b ≠ a := fun z => h2 (.inr (z ▸ mem))
    exact ⟨by rw [upd_ne ne]; exact h1, h2⟩
end
end FM

set_option Elab.async false
set_option linter.all false
set_option maxRecDepth 100000
set_option maxHeartbeats 4000000
/-! Ev13: the look at statements; every statement sound. -/
namespace FM
open PySem PySem.Spec PyProof.Rows L2

/-! ### the look -/
def isComp : Expr → Bool
  | .ListComp _ _ _ _ => true
  | .SetComp _ _ _ _ => true
  | .DictComp _ _ _ _ _ => true
  | _ => false
def isStar : Expr → Bool
  | .Starred .. => true
  | _ => false
/-- the names of a swap, as the model finds them -/
def swapNames (sc : Scope) (ts : List Expr) : List Str := ts.filterMap fun
  | .Name id pos => if sc.names.lookup id == some .local && pos.line == (ts.head?.map (·.pos.line)).getD 0 then some id else none
  | _ => none
def swapC (sc : Scope) (ts vs : List Expr) : Option (Option (List Str)) :=
  if (!(ts.length == 2 || ts.length == 3) || vs.length != ts.length) = true then some none
  else if vs.any isStar = true then some none
  else if ((swapNames sc ts).length != ts.length || (swapNames sc ts).eraseDups.length != (swapNames sc ts).length) = true then some none
  else if vs.all (foldedForSure 8) = true then some none
  else if vs.all (constantsAlone 8) = true then none
  else some (some (swapNames sc ts))
theorem swapC_ok {env : PySem.Env} {sc : Scope} (hsc : env.scope = sc) (hk : env.blockKind = .function) {ts vs : List Expr} {k k2 : Nat} {p p2 : Pos} {r : Option (List Str)} (h : swapC sc ts vs = some r) :
    swappedStores [.Tuple ts k p] (.Tuple vs k2 p2) env = pure r := by
  subst hsc
  unfold swapC at h
  unfold swappedStores
  simp only [hk]
  split at h
  · rename_i c
    cases h
    rw [if_pos]
    rw [Bool.or_eq_true]
    exact .inl c
  · rename_i c
    rw [if_neg (by rw [Bool.or_eq_true]; rintro (z | z); exact c z; cases z)]
    split at h
    · rename_i c2
      cases h
      rw [if_pos (by exact c2)]
    · rename_i c2
      rw [if_neg (by exact c2)]
      split at h
      · rename_i c3
        cases h
        exact if_pos c3
      · rename_i c3
        refine (if_neg c3).trans ?_
        split at h
        · rename_i c4
          cases h
          exact if_pos c4
        · rename_i c4
          refine (if_neg c4).trans ?_
          split at h
          · cases h
          · rename_i c5
            cases h
            exact if_neg c5

def opAS : Operator → Bool
  | .Add => true
  | .Sub => true
  | _ => false
/-- whether a stored comprehension is told to its name before its variables are let go -/
def swB (sc : Scope) (x : Str) (px : Pos) : Expr → Bool
  | .ListComp _ _ scope p => (sc.names.lookup x == some .local) && px.line == p.line && !(scope.names.any fun (n, k) => n == x && (k == .local || k == .cell))
  | _ => false
def isLC : Expr → Bool
  | .ListComp _ _ _ _ => true
  | _ => false
def asgOk (sc : Scope) (x : Str) (px : Pos) (v : Expr) : Bool := !isComp v || isLC v
def pairB (f g : Expr → Bool) : Expr → Bool
  | .Tuple [va, vb] _ _ => f va && g vb
  | _ => false
def swapOk (sc : Scope) (ts : List Expr) : Expr → Bool
  | .Tuple vs _ _ => decide (swapC sc ts vs = some none)
  | _ => true
def parOk (N : List Str) (sc : Scope) (i j : Nat) : Expr → Expr → Bool
  | .Tuple [.Name x px, .Name y py] _ _, .Tuple [va, vb] _ _ => decide (swapC sc [.Name x px, .Name y py] [va, vb] = some (some [x, y])) && decide (N[i]? = some x) && decide (N[j]? = some y) && decide (sc.names.lookup x = some .local) && decide (sc.names.lookup y = some .local) && notStar va && notStar vb && decide (i ≠ j)
  | _, _ => false
def par3Ok (N : List Str) (sc : Scope) (i j k : Nat) : Expr → Expr → Bool
  | .Tuple [.Name x px, .Name y py, .Name z pz] _ _, .Tuple [va, vb, vc] _ _ => decide (swapC sc [.Name x px, .Name y py, .Name z pz] [va, vb, vc] = some (some [x, y, z])) && decide (N[i]? = some x) && decide (N[j]? = some y) && decide (N[k]? = some z) && decide (sc.names.lookup x = some .local) && decide (sc.names.lookup y = some .local) && decide (sc.names.lookup z = some .local) && notStar va && notStar vb && notStar vc && decide (i ≠ j) && decide (i ≠ k) && decide (j ≠ k)
  | _, _ => false
def tripB (f g h : Expr → Bool) : Expr → Bool
  | .Tuple [va, vb, vc] _ _ => f va && g vb && h vc
  | _ => false
def isNilL : Expr → Bool
  | .List [] _ => true
  | _ => false
def isIntC (n : Int) : Expr → Bool
  | .Constant (.int j) _ _ => decide (n = j)
  | _ => false
def par4B (sc : Scope) (f g h : Expr → Bool) : Expr → Expr → Bool
  | .Tuple ts _ _, .Tuple [va, vb, vc, .List [] lp] _ _ => decide (swapC sc ts [va, vb, vc, .List [] lp] = some none) && (notStar va && notStar vb && notStar vc) && (f va && g vb && h vc)
  | _, _ => false
def tsB (N : List Str) (sc : Scope) (is : List Nat) : Expr → Bool
  | .Tuple ts _ _ => chkTs N sc is ts
  | _ => false
mutual
def chkS (N fs : List Str) (sc : Scope) : S → Stmt → Bool
  | .bad, _ => true
  | .asg i e, .Assign [.Name x px] v _ => decide (N[i]? = some x) && locB sc x && chkE N fs e sc v && asgOk sc x px v
  | .own i, .Assign [.Name x _] (.List [] _) _ => decide (N[i]? = some x) && locB sc x
  | .asgT is e, .Assign [.Tuple ts _ _] v _ => chkTs N sc is ts && chkE N fs e sc v && swapOk sc ts v
  | .par i j a b, .Assign [t] v _ => parOk N sc i j t v && pairB (chkE N fs a sc) (chkE N fs b sc) v
  | .par3 i j k a b c, .Assign [t] v _ => par3Ok N sc i j k t v && tripB (chkE N fs a sc) (chkE N fs b sc) (chkE N fs c sc) v
  | .par3L i j k a b, .Assign [t] v _ => par3Ok N sc i j k t v && tripB (chkE N fs a sc) (chkE N fs b sc) isNilL v
  | .par3M i j k a n, .Assign [t] v _ => par3Ok N sc i j k t v && tripB (chkE N fs a sc) isNilL (isIntC n) v
  | .par4L i j k l a b c, .Assign [t] v _ => tsB N sc [i, j, k, l] t && par4B sc (chkE N fs a sc) (chkE N fs b sc) (chkE N fs c sc) t v
  | .aug i o e, .AugAssign (.Name x _) o' v _ => decide (o = o') && opAS o && decide (N[i]? = some x) && locB sc x && chkE N fs e sc v
  | .app i e, .Expr (.Call (.Attribute (.Name x _) g apos) [v] [] cpos) _ => decide (g = "append") && nameIs N sc i x && (apos.endLine == cpos.line) && notStar v && chkE N fs e sc v
  | .ext i e, .Expr (.Call (.Attribute (.Name x _) g apos) [v] [] cpos) _ => decide (g = "extend") && nameIs N sc i x && (apos.endLine == cpos.line) && notStar v && chkE N fs e sc v
  | .ins i k e, .Expr (.Call (.Attribute (.Name x _) g apos) [u, v] [] cpos) _ => decide (g = "insert") && nameIs N sc i x && (apos.endLine == cpos.line) && notStar u && notStar v && chkE N fs k sc u && chkE N fs e sc v
  | .daug o k op e, .AugAssign (.Subscript a b _) op' v _ => decide (op = op') && opAS op && notSlice b && chkE N fs o sc a && chkE N fs k sc b && chkE N fs e sc v
  | .ret e, .Return (some v) _ => chkE N fs e sc v
  | .ifs c a b, .If x ys zs _ => chkE N fs c sc x && chkSs N fs sc a ys && chkSs N fs sc b zs
  | .whl c b, .While x ys [] _ => chkE N fs c sc x && chkSs N fs sc b ys
  | .for_ tg it b, .For t i ys [] _ => chkTg N sc tg t && chkIt N fs it sc i && (notSet i && zipOk it t) && chkSs N fs sc b ys
  | .expr e, .Expr v _ => !isComp v && chkE N fs e sc v
  | .pass, .Pass _ => true
  | .brk, .Break _ => true
  | .cont, .Continue _ => true
  | _, _ => false
def chkSs (N fs : List Str) (sc : Scope) : Ss → List Stmt → Bool
  | .nil, [] => true
  | .cons (.frz _) ss, xs => chkSs N fs sc ss xs
  | .cons s ss, x :: xs => chkS N fs sc s x && chkSs N fs sc ss xs
  | _, _ => false
end

/-! ### readings -/
def PostR (K : PySem.W.Frag) (B : Base) (Dn : Ends) : Res → Prop
  | .nx ρ μ => ∀ σ' H' ads', FI K B ads' H' σ' ρ μ → Dn.nx σ' H'
  | .bk ρ μ => ∀ σ' H' ads', FI K B ads' H' σ' ρ μ → Dn.bk σ' H'
  | .ct ρ μ => ∀ σ' H' ads', FI K B ads' H' σ' ρ μ → Dn.ct σ' H'
  | .rt d μ => ∀ v H' ads', Ext B.ads0 B.H0 ads' H' → CellsR K B.own0 ads' H' μ → Rep K (Zo B.own0 ads') ads' H' v d → Dn.rt v H'
def tX (K : PySem.W.Frag) (run : Env → Cells → Option Res) : TS := fun Dn σ H => ∃ B ads ρ μ r, FI K B ads H σ ρ μ ∧ run ρ μ = some r ∧ PostR K B Dn r
theorem PS.imp {X : Cx} {e : Stmt} {t t' : TS} (h : PS X e t) (i : ∀ Dn σ H, t' Dn σ H → t Dn σ H) : PS X e t' := ⟨fun pins s σ H Dn I q => h.run pins s σ H Dn I (i _ _ _ q)⟩
theorem PSs.imp {X : Cx} {e : List Stmt} {t t' : TS} (h : PSs X e t) (i : ∀ Dn σ H, t' Dn σ H → t Dn σ H) : PSs X e t' := ⟨fun pins s σ H Dn I q => h.run pins s σ H Dn I (i _ _ _ q)⟩
section
variable {N fs : List Str} {F : Fs} {n : Nat} {sc : Scope} {X : Cx} {W : Nat}
/-- at a def's own level -/
structure GS (N fs : List Str) (F : Fs) (n : Nat) (sc : Scope) (X : Cx) : Prop where
  g : GX N fs F n sc X
  hsc : X.env.scope = sc
  kind : sc.kind = .function
theorem GS.block (G : GS N fs F n sc X) : X.env.blockKind = .function := by
  unfold PySem.Env.blockKind
  rw [G.hsc, G.kind]
  rfl
theorem sw_plain {v : Expr} (h : isComp v = false) (t : Option Expr) (l : Nat) (env : PySem.Env) : swapsWith v t l env = pure false := by
  cases v <;> first | rfl | cases h
theorem sw_one {v t : Expr} (h : isComp v = false) (l : Nat) (env : PySem.Env) : swapsWithSole [t] v l env = pure false := sw_plain h _ l env
theorem sw_list (G : GS N fs F n sc X) {x : Str} {px p : Pos} {elt : Expr} {gs : List Comprehension} {scope : Scope} {l : Nat} : swapsWith (.ListComp elt gs scope p) (some (.Name x px)) l X.env = pure (swB sc x px (.ListComp elt gs scope p)) := by
  unfold swapsWith
  have hk : X.env.kindOf x = sc.names.lookup x := by rw [← G.hsc]; rfl
  simp only [G.block, hk]
  rfl
theorem asg_read {e : E} {i : Nat} (Dn : Ends) (σ : L2.St) (H : Hp) (h : tX X.K (exec F W (.asg i e)) Dn σ H) : tAsg (tE X.K F e) (gName i) Dn σ H := by
  obtain ⟨B, ads, ρ, μ, r, f, he, q⟩ := h
  unfold exec at he
  split at he
  · cases he
  · rename_i hl
    obtain ⟨d, μ1, e1, he⟩ := andThen_some he
    cases he
    rw [Bool.or_eq_true, not_or] at hl
    have hl1 : lk ρ e = false := by simpa using hl.1
    refine ⟨_, ads, ρ, μ, d, μ1, f.hold, e1, fun v H1 ads1 x1 h1 r1 => ?_⟩
    rw [hl1] at r1
    exact q _ H1 ads1 ((f.step x1 h1).setPl r1.plain)
theorem s_asg (G : GS N fs F n sc X) {i : Nat} {e : E} {x : Str} {px pos : Pos} {v : Expr} (hi : N[i]? = some x) (hx : locB sc x = true) (hv : chkE N fs e sc v = true) (ho : asgOk sc x px v = true) : PS X (.Assign [.Name x px] v pos) (tX X.K (exec F W (.asg i e))) := by
  obtain ⟨l1, l2⟩ := G.g.loc x hx
  have hN : X.N.Nodup := by rw [G.g.hN]; exact G.g.nd
  have hi' : X.N[i]? = some x := by rw [G.g.hN]; exact hi
  unfold asgOk at ho
  by_cases hc : isComp v = false
  · exact PS.imp (ps_set hN hi' l1 (sE e sc v X G.g hv).v (sw_plain hc _ _ _) l2) asg_read
  · have hs : isLC v = true := by
      rw [Bool.or_eq_true] at ho
      rcases ho with ho | ho
      · rw [Bool.not_eq_true'] at ho
        exact absurd ho hc
      · exact ho
    cases v with
    | ListComp y gs scope p =>
      by_cases hs : swB sc x px (.ListComp y gs scope p) = false
      · refine PS.imp (ps_set hN hi' l1 (sE e sc _ X G.g hv).v (by rw [sw_list G, hs]) l2) asg_read
      have hs : swB sc x px (.ListComp y gs scope p) = true := by simpa using hs
      have hs' : ((sc.names.lookup x == some .local) && px.line == p.line && !(scope.names.any fun (n, k) => n == x && (k == .local || k == .cell))) = true := hs
      obtain ⟨z1, z2, z3⟩ := and3 hs'
      have hl : X.env.scope.names.lookup x = some .local := by rw [G.hsc]; exact eq_of_beq z1
      cases e with
      | lc elt tg it cond =>
        match gs, hv, hs with
        | [⟨t, i2, ifs, k⟩], hv, hs =>
          obtain ⟨h1, h2, h3⟩ := and3 (show (decide (k = 0) && blkC N sc scope (ownOf N tg.slots) && (notSet i2 && zipOk it t) && chkTg N scope tg t && chkIt N fs it sc i2 && chkC N fs cond scope ifs && chkE N fs elt scope y) = true from hv)
          obtain ⟨h4, h5, h6⟩ := and3 h1
          obtain ⟨h7, h8, h9⟩ := and3 h4
          have ek : k = 0 := of_decide_eq_true h7
          subst ek
          have nd : ∀ is, tg = .tp is → is.Nodup := fun is e => by
            subst e
            cases t with
            | Tuple es k p =>
              have h' : (chkTs N scope is es && decide is.Nodup) = true := h5
              exact of_decide_eq_true (and2 h').2
            | _ => cases h5
          have sw : swapsWith (.ListComp y [⟨t, i2, ifs, 0⟩] scope p) (some (.Name x px)) pos.line X.env = pure true := by
            rw [sw_list G, hs]
          have core := ps_setLc (X := X) (i := i) (own := ownOf N tg.slots) (g := tTg X.K tg) (tt := tC' X.K F cond) (te := tE X.K F elt) (elt := y) (tg := t) (iter := i2) (ifs := ifs) (scope := scope) (pos := p) (spos := pos) (py := px) G.g.calm hN hi' hl sw (sIt it sc i2 X t G.g h6 (and2 h9).2) (G.g.blkOk h8)
            (fun s H C cl fp => s_tg G.g.blk h5) (fun s H C cl fp => sC cond scope ifs _ G.g.blk h2) (fun s H C cl fp => (sE elt scope y _ G.g.blk h3).v) (folded_of (and2 h9).1 _)
          rw [own_slots] at core
          refine PS.imp core fun Dn σ H h => ?_
          have z := asg_read Dn σ H h
          exact lc_read nd σ H _ z
        | [], hv, _ => exact absurd hv Bool.false_ne_true
        | ⟨_, _, _, _⟩ :: _ :: _, hv, _ => exact absurd hv Bool.false_ne_true
      | bad =>
        constructor
        intros
        rename_i q
        obtain ⟨_, _, _, _, _, _, he, _⟩ := q
        unfold exec at he
        split at he
        · cases he
        · unfold ev at he
          cases he
      | _ => exact absurd hv Bool.false_ne_true
    | _ => exact absurd hs Bool.false_ne_true
end
end FM

set_option Elab.async false
set_option linter.all false
set_option maxRecDepth 100000
set_option maxHeartbeats 4000000
/-! Ev14: the other statements. -/
namespace FM
open PySem PySem.Spec PyProof.Rows L2
section
variable {N fs : List Str} {F : Fs} {n : Nat} {sc : Scope} {X : Cx} {W : Nat}
theorem s_own (G : GS N fs F n sc X) {i : Nat} {x : Str} {px p2 pos : Pos} (hi : N[i]? = some x) (hx : locB sc x = true) : PS X (.Assign [.Name x px] (.List [] p2) pos) (tX X.K (exec F W (.own i))) := by
  obtain ⟨l1, l2⟩ := G.g.loc x hx
  refine PS.imp (ps_set (by rw [G.g.hN]; exact G.g.nd) (by rw [G.g.hN]; exact hi) l1 (pe_lst pa_nil) rfl l2) fun Dn σ H ⟨B, ads, ρ, μ, r, f, he, q⟩ => ?_
  unfold exec at he
  split at he
  · cases he
  · rename_i hl
    cases he
    exact ⟨Nat.zero_le _, fun p hp => q _ _ ads (f.own hp (by simpa using hl))⟩
/-- the targets' slots, for statements -/
theorem FI.names {K : PySem.W.Frag} {B : Base} {ads : List Addr} {H : Hp} {μ : Cells} {Q : L2.St → Hp → Prop} : ∀ {is : List Nat} {ds : List D} {vs : List V} {σ : L2.St} {ρ : Env}, FI K B ads H σ ρ μ → RepL K (Zo (ownF B.own0 σ ρ) ads) ads H vs ds → ds.length = is.length →
    (∀ σ1, FI K B ads H σ1 (setAll is ds ρ) μ → Q σ1 H) → gNames is vs σ H Q
  | [], [], _, σ, ρ, f, r, _, k => by
    cases r
    exact ⟨rfl, k σ f⟩
  | [], _ :: _, _, _, _, _, _, e, _ => by cases e
  | _ :: _, [], _, _, _, _, _, e, _ => by cases e
  | i :: is, d :: ds, _, σ, ρ, f, r, e, k => by
    cases r with
    | @cons v _ vs _ r1 r2 =>
      refine ⟨v, vs, rfl, ?_⟩
      show gNames is vs (σ.set i (some v)) H Q
      exact FI.names (f.setPl r1) (RepL.stay (antiOwn (K := K) fun b h => ownF_set h) _ _ r2) (by simpa using e) k
theorem FI.tg {K : PySem.W.Frag} {B : Base} {ads : List Addr} {H : Hp} {σ : L2.St} {ρ ρ1 : Env} {μ : Cells} {Q : L2.St → Hp → Prop} {tg : Tg} {v : V} {d : D} (f : FI K B ads H σ ρ μ) (r : Rep K (Zo (ownF B.own0 σ ρ) ads) ads H v d) (e : bindT tg d ρ = some ρ1)
    (k : ∀ σ1, FI K B ads H σ1 ρ1 μ → Q σ1 H) : tTg K tg v σ H Q := by
  cases tg with
  | nm i =>
    have e' : some (ρ.set i (some (.pl d))) = some ρ1 := e
    cases e'
    exact k _ (f.setPl r)
  | tp is =>
    cases d with
    | tup ds =>
      have e' : (if ds.length = is.length then some (setAll is ds ρ) else none) = some ρ1 := e
      split at e'
      · rename_i hl
        cases e'
        cases r with
        | tup t l => exact ⟨_, _, rfl, t.sq, by rw [l.length]; exact hl, FI.names f l hl k⟩
      · cases e'
    | _ => cases e
theorem pg_or {t : Expr} {g g' : TG} (h : PG X t g) (h' : PG X t g') : PG X t (fun v σ H Q => g v σ H Q ∨ g' v σ H Q) := ⟨fun pins s σ H v u Q I r q => q.elim (h.run pins s σ H v u Q I r) (h'.run pins s σ H v u Q I r)⟩
theorem sw_tup (ts : List Expr) (k : Nat) (p : Pos) (v : Expr) (l : Nat) (env : PySem.Env) : swapsWithSole [.Tuple ts k p] v l env = pure false := by
  cases v <;> rfl
theorem s_asgT (G : GS N fs F n sc X) {is : List Nat} {e : E} {ts : List Expr} {k : Nat} {p pos : Pos} {v : Expr} (ht : chkTs N sc is ts = true) (hv : chkE N fs e sc v = true)
    (hw : swappedStores [.Tuple ts k p] v X.env = pure none) : PS X (.Assign [.Tuple ts k p] v pos) (tX X.K (exec F W (.asgT is e))) := by
  obtain ⟨g1, g2, g3⟩ := s_ts G.g ht
  refine PS.imp (ps_asg (sE e sc v X G.g hv).v (pg_or (pg_tup G.g.calm g1 g2 g3) (pg_unl G.g.calm g1 g2 g3)) (sw_tup _ _ _ _ _ _) hw rfl) fun Dn σ H ⟨B, ads, ρ, μ, r, f, he, q⟩ => ?_
  unfold exec at he
  split at he
  · cases he
  · rename_i hl
    obtain ⟨d, μ1, e1, he⟩ := andThen_some he
    split at he
    · split at he
      · rename_i ds hds
        cases he
        rw [Bool.or_eq_true, not_or] at hl
        have hl1 : lk ρ e = false := by simpa using hl.1
        refine ⟨_, ads, ρ, μ, _, μ1, f.hold, e1, fun v H1 ads1 x1 h1 r1 => ?_⟩
        obtain ⟨a, xs, ev, t, l⟩ := r1.tup
        exact .inl ⟨a, xs, ev, t.sq, by rw [l.length]; exact hds, FI.names (f.step x1 h1) l hds fun σ1 f1 => q σ1 H1 ads1 f1⟩
      · cases he
    · split at he
      · rename_i ds hds
        cases he
        rw [Bool.or_eq_true, not_or] at hl
        have hl1 : lk ρ e = false := by simpa using hl.1
        refine ⟨_, ads, ρ, μ, _, μ1, f.hold, e1, fun v H1 ads1 x1 h1 r1 => ?_⟩
        rw [hl1] at r1
        obtain ⟨a, xs, ev, t, l⟩ := (RepB.of (b := false) r1.plain).lst
        exact .inr ⟨a, xs, ev, t, by rw [l.length]; exact hds, FI.names (f.step x1 h1) l hds fun σ1 f1 => q σ1 H1 ads1 f1⟩
      · cases he
    · cases he
def augF : Operator → Int → Int → Int
  | .Sub, i, j => i - j
  | _, i, j => i + j
theorem aug_go {i : Nat} {o : Operator} {e : E} {ρ : Env} {μ : Cells} {r : Res} (he : exec F W (.aug i o e) ρ μ = some r) : ∃ a b μ1, ρ[i]? = some (some (Sl.pl (.int a))) ∧ ev F e ρ μ = some (.int b, μ1) ∧ opAS o = true ∧ r = .nx (ρ.set i (some (.pl (.int (augF o a b))))) μ1 := by
  unfold exec at he
  split at he
  · rename_i a hρ
    obtain ⟨d, μ1, e1, he⟩ := andThen_some he
    split at he
    · cases he
      exact ⟨a, _, _, hρ, e1, rfl, rfl⟩
    · cases he
      exact ⟨a, _, _, hρ, e1, rfl, rfl⟩
    · cases he
  · cases he
theorem s_aug (G : GS N fs F n sc X) {i : Nat} {o : Operator} {e : E} {x : Str} {px pos : Pos} {v : Expr} (hi : N[i]? = some x) (hx : locB sc x = true) (ho : opAS o = true) (hv : chkE N fs e sc v = true) : PS X (.AugAssign (.Name x px) o v pos) (tX X.K (exec F W (.aug i o e))) := by
  obtain ⟨l1, l2⟩ := G.g.loc x hx
  have hN : X.N.Nodup := by rw [G.g.hN]; exact G.g.nd
  have hi' : X.N[i]? = some x := by rw [G.g.hN]; exact hi
  have read : ∀ (Dn : Ends) (σ : L2.St) (H : Hp), tX X.K (exec F W (.aug i o e)) Dn σ H → tAug i (tE X.K F e) (ipI (augF o)) Dn σ H := by
    intro Dn σ H ⟨B, ads, ρ, μ, r, f, he, q⟩
    obtain ⟨a, b, μ1, hρ, e1, _, rfl⟩ := aug_go he
    obtain ⟨w, g1, g2⟩ := f.hold.e i _ hρ
    have ew : w = .int a := by
      have z : Rep X.K (Zo (ownF B.own0 σ ρ) ads) ads H w (.int a) := g2
      cases z; rfl
    subst ew
    refine ⟨_, g1, _, ads, ρ, μ, _, μ1, f.hold, e1, fun v H1 ads1 x1 h1 r1 => ⟨a, b, rfl, r1.int, ?_⟩⟩
    exact q _ H1 ads1 ((f.step x1 h1).setPl (.int _))
  cases o with
  | Add => exact PS.imp (ps_aug hN hi' l1 (sE e sc v X G.g hv).v ip_add l2) read
  | Sub => exact PS.imp (ps_aug hN hi' l1 (sE e sc v X G.g hv).v ip_sub l2) read
  | _ => cases ho
theorem s_app (G : GS N fs F n sc X) {i : Nat} {e : E} {x : Str} {px apos cpos pos : Pos} {v : Expr} (hx : nameIs N sc i x = true) (hl : (apos.endLine == cpos.line) = true) (hs : notStar v = true) (hv : chkE N fs e sc v = true) :
    PS X (.Expr (.Call (.Attribute (.Name x px) "append" apos) [v] [] cpos) pos) (tX X.K (exec F W (.app i e))) := by
  have hx' := hx
  unfold nameIs at hx'
  rw [Bool.and_eq_true, Bool.and_eq_true, Bool.and_eq_true, decide_eq_true_eq] at hx'
  obtain ⟨⟨⟨h1, h2⟩, h3⟩, h4⟩ := hx'
  have pvx : PE X (.Name x px) (tVar i) := pe_var (i := i) (by rw [G.g.hN]; exact h1) (G.g.vis x h2) (by simpa using h3) (by simpa using h4)
  have core := pe_bm (X := X) (apos := apos) (cpos := cpos) PySem.F.plainAttrs_list PySem.F.slot_list_append PySem.F.type_list_append mt_append pvx (pa_cons (sE e sc v X G.g hv).v pa_nil (starEach_cons hs _ _)) rfl (one_arg hs _ _) hl (starEach_cons hs _ _) rfl
  refine PS.imp (ps_expr core rfl) fun Dn σ H ⟨B, ads, ρ, μ, r, f, he, q⟩ => ?_
  unfold exec at he
  split at he
  · rename_i ds hρ
    split at he
    · cases he
    · rename_i hle
      obtain ⟨d, μ1, e1, he⟩ := andThen_some he
      split at he
      · rename_i hz
        cases he
        obtain ⟨w, g1, a, xs, g2, g3, g4, g5⟩ := f.hold.e i _ hρ
        subst g2
        have hle' : lk ρ e = false := by simpa using hle
        refine ⟨_, g1, .inl ⟨rfl, xs, .of g3⟩, _, ads, ρ, μ, d, μ1, f.hold, e1, fun v H1 ads1 x1 h1 r1 => ?_⟩
        rw [hle'] at r1
        have ha := x1.keep a _ g3 fun m => f.hold.c.dis a m g4
        have l := g5.ext x1
        refine ⟨a, xs, v, rfl, rfl, ha, by rw [l.length]; exact hz, ?_⟩
        exact q _ _ ads1 ((f.step x1 h1).app hρ g1 ha l r1.plain)
      · cases he
  · cases he
theorem s_ext (G : GS N fs F n sc X) {i : Nat} {e : E} {x : Str} {px apos cpos pos : Pos} {v : Expr} (hx : nameIs N sc i x = true) (hl : (apos.endLine == cpos.line) = true) (hs : notStar v = true) (hv : chkE N fs e sc v = true) :
    PS X (.Expr (.Call (.Attribute (.Name x px) "extend" apos) [v] [] cpos) pos) (tX X.K (exec F W (.ext i e))) := by
  have hx' := hx
  unfold nameIs at hx'
  rw [Bool.and_eq_true, Bool.and_eq_true, Bool.and_eq_true, decide_eq_true_eq] at hx'
  obtain ⟨⟨⟨h1, h2⟩, h3⟩, h4⟩ := hx'
  have pvx : PE X (.Name x px) (tVar i) := pe_var (i := i) (by rw [G.g.hN]; exact h1) (G.g.vis x h2) (by simpa using h3) (by simpa using h4)
  have core := pe_bm (X := X) (apos := apos) (cpos := cpos) PySem.F.plainAttrs_list PySem.F.slot_list_extend PySem.F.type_list_extend FA.mt_extT pvx (pa_cons (sE e sc v X G.g hv).v pa_nil (starEach_cons hs _ _)) rfl (one_arg hs _ _) hl (starEach_cons hs _ _) rfl
  refine PS.imp (ps_expr core rfl) fun Dn σ H ⟨B, ads, ρ, μ, r, f, he, q⟩ => ?_
  unfold exec at he
  split at he
  · rename_i ds hρ
    split at he
    · cases he
    · rename_i hle
      obtain ⟨d, μ1, e1, he⟩ := andThen_some he
      split at he
      · rename_i es
        split at he
        · rename_i hz
          cases he
          obtain ⟨w, g1, a, xs, g2, g3, g4, g5⟩ := f.hold.e i _ hρ
          subst g2
          refine ⟨_, g1, .inl ⟨rfl, xs, .of g3⟩, _, ads, ρ, μ, _, μ1, f.hold, e1, fun v H1 ads1 x1 h1 r1 => ?_⟩
          obtain ⟨b, zs, ev, t, l2⟩ := r1.tup
          have ha := x1.keep a _ g3 fun m => f.hold.c.dis a m g4
          have l := g5.ext x1
          refine ⟨a, b, xs, zs, rfl, by rw [ev], ha, t.sq, by rw [l.length, l2.length]; exact hz, ?_⟩
          exact q _ _ ads1 ((f.step x1 h1).wr hρ g1 ha (l.append l2))
        · cases he
      · cases he
  · cases he
theorem RepL.takeR {K : PySem.W.Frag} {Z : Addr → Prop} {ads : List Addr} {H : Hp} : ∀ {xs : List V} {ds : List D} (_ : RepL K Z ads H xs ds) (n : Nat), RepL K Z ads H (xs.take n) (ds.take n)
  | _, _, _, 0 => .nil
  | _, _, .nil, n + 1 => .nil
  | _, _, .cons r l, n + 1 => .cons r (l.takeR n)
theorem RepL.dropR {K : PySem.W.Frag} {Z : Addr → Prop} {ads : List Addr} {H : Hp} : ∀ {xs : List V} {ds : List D} (_ : RepL K Z ads H xs ds) (n : Nat), RepL K Z ads H (xs.drop n) (ds.drop n)
  | _, _, l, 0 => l
  | _, _, .nil, n + 1 => .nil
  | _, _, .cons r l, n + 1 => l.dropR n
theorem s_ins (G : GS N fs F n sc X) {i : Nat} {k e : E} {x : Str} {px apos cpos pos : Pos} {u v : Expr} (hx : nameIs N sc i x = true) (hl : (apos.endLine == cpos.line) = true) (hs : notStar u = true) (hs2 : notStar v = true) (hu : chkE N fs k sc u = true) (hv : chkE N fs e sc v = true) :
    PS X (.Expr (.Call (.Attribute (.Name x px) "insert" apos) [u, v] [] cpos) pos) (tX X.K (exec F W (.ins i k e))) := by
  have hx' := hx
  unfold nameIs at hx'
  rw [Bool.and_eq_true, Bool.and_eq_true, Bool.and_eq_true, decide_eq_true_eq] at hx'
  obtain ⟨⟨⟨h1, h2⟩, h3⟩, h4⟩ := hx'
  have pvx : PE X (.Name x px) (tVar i) := pe_var (i := i) (by rw [G.g.hN]; exact h1) (G.g.vis x h2) (by simpa using h3) (by simpa using h4)
  have core := pe_bm (X := X) (apos := apos) (cpos := cpos) PySem.F.plainAttrs_list PySem.F.slot_list_insert PySem.F.type_list_insert mt_insert pvx (pa_cons (sE k sc u X G.g hu).v (pa_cons (sE e sc v X G.g hv).v pa_nil (starEach_cons hs2 _ _)) (starEach_cons hs _ _)) rfl (by rw [starEach_cons hs, starEach_cons hs2]; rfl) hl (by rw [starEach_cons hs, starEach_cons hs2]) (by rw [starEach_cons hs2]; rfl)
  refine PS.imp (ps_expr core rfl) fun Dn σ H ⟨B, ads, ρ, μ, r, f, he, q⟩ => ?_
  unfold exec at he
  split at he
  · rename_i ds hρ
    split at he
    · cases he
    · rename_i hle
      obtain ⟨dk, μ1, e1, he⟩ := andThen_some he
      obtain ⟨d, μ2, e2, he⟩ := andThen_some he
      split at he
      · split at he
        · rename_i hz
          cases he
          obtain ⟨w, g1, a, xs, g2, g3, g4, g5⟩ := f.hold.e i _ hρ
          subst g2
          rw [Bool.or_eq_true, not_or] at hle
          have hle' : lk ρ e = false := by simpa using hle.1
          refine ⟨_, g1, .inl ⟨rfl, xs, .of g3⟩, _, ads, ρ, μ, _, μ1, f.hold, e1, fun v1 H1 ads1 x1 h1 r1 => ⟨_, ads1, ρ, μ1, d, μ2, h1, e2, fun v H2 ads2 x2 h2 r2 => ?_⟩⟩
          rw [hle'] at r2
          have ev := r1.int
          subst ev
          have x12 := x1.trans x2
          have ha := x12.keep a _ g3 fun m => f.hold.c.dis a m g4
          have l := g5.ext x12
          refine ⟨a, xs, _, v, rfl, rfl, ha, by rw [l.length]; exact hz.1, hz.2.1, hz.2.2, ?_⟩
          exact q _ _ ads2 ((f.step x12 h2).wr hρ g1 ha (((l.takeR _).append (.cons r2.plain .nil)).append (l.dropR _)))
        · cases he
      · cases he
  · cases he
theorem augStore_of {b : Expr} (h : notSlice b = true) (ov iv new : Value) : augStore b ov iv new = (do holding [new, ov, iv] (setItem ov iv new); release [new, ov, iv] []; pure .next) := by
  cases b <;> first | rfl | cases h
theorem putC_rep {K : PySem.W.Frag} {Z : Addr → Prop} {ads : List Addr} {H : Hp} {k : Key} {v : V} {d : D} (r : Rep K Z ads H v d) {kvs : List (Key × V)} {c : Cell} (h : RepKV K Z ads H kvs c) : RepKV K Z ads H (putK kvs k v) (putC c k d) := by
  have any : ∀ (kvs : List (Key × V)) (c : Cell), kvs.map (·.1) = c.map (·.1) → (kvs.any fun kv => decide (kv.1 = k)) = (c.any fun kv => decide (kv.1 = k)) := by
    intro kvs
    induction kvs with
    | nil => intro c e; cases c with
      | nil => rfl
      | cons _ _ => cases e
    | cons p kvs ih => intro c e; cases c with
      | nil => cases e
      | cons q c =>
        have e' : p.1 :: kvs.map (·.1) = q.1 :: c.map (·.1) := e
        injection e' with e1 e2
        rw [List.any_cons, List.any_cons, e1, ih c e2]
  have map : ∀ (kvs : List (Key × V)) (c : Cell), RepKV K Z ads H kvs c → RepKV K Z ads H (kvs.map fun kv => if kv.1 = k then (kv.1, v) else kv) (c.map fun kv => if kv.1 = k then (kv.1, d) else kv) := by
    intro kvs
    induction kvs with
    | nil => intro c e; cases c with
      | nil => exact ⟨rfl, .nil⟩
      | cons _ _ => cases e.1
    | cons p kvs ih => intro c e; cases c with
      | nil => cases e.1
      | cons q c =>
        have e1 : p.1 :: kvs.map (·.1) = q.1 :: c.map (·.1) := e.1
        have e2 : RepL K Z ads H (p.2 :: kvs.map (·.2)) (q.2 :: c.map (·.2)) := e.2
        injection e1 with e3 e4
        cases e2 with
        | cons g1 g2 =>
          obtain ⟨i1, i2⟩ := ih c ⟨e4, g2⟩
          by_cases hk : p.1 = k
          · have hk' : q.1 = k := e3 ▸ hk
            simp only [List.map_cons, hk, hk', if_true]
            exact ⟨by simp only [List.map_cons, i1], .cons r i2⟩
          · have hk' : ¬ q.1 = k := fun z => hk (e3.trans z)
            simp only [List.map_cons, hk, hk', if_false]
            exact ⟨by simp only [List.map_cons, i1, e3], .cons g1 i2⟩
  unfold putK putC
  rw [any kvs c h.1]
  split
  · exact map kvs c h
  · refine ⟨?_, ?_⟩
    · rw [List.map_append, List.map_append, h.1]
      rfl
    · rw [List.map_append, List.map_append]
      exact h.2.append (.cons r .nil)
theorem daug_go {o k e : E} {op : Operator} {ρ : Env} {μ : Cells} {r : Res} (he : exec F W (.daug o k op e) ρ μ = some r) : ∃ m μ1 y μ2 q c i j μ3 c3, ev F o ρ μ = some (.cell m, μ1) ∧ ev F k ρ μ1 = some (y, μ2) ∧ keyD y = some q ∧ μ2[m]? = some c ∧ valC c q = some (.int i) ∧
    ev F e ρ μ2 = some (.int j, μ3) ∧ μ3[m]? = some c3 ∧ c3.length < sizeLine ∧ opAS op = true ∧ r = .nx ρ (μ3.set m (putC c3 q (.int (augF op i j)))) := by
  unfold exec at he
  obtain ⟨x, μ1, e1, he⟩ := andThen_some he
  obtain ⟨y, μ2, e2, he⟩ := andThen_some he
  cases x with
  | cell m =>
    cases hq : keyD y with
    | none => simp only [hq] at he; cases he
    | some q =>
      simp only [hq] at he
      cases hc : μ2[m]? with
      | none => simp only [hc, Option.bind_none] at he; cases he
      | some c =>
        simp only [hc, Option.bind_some] at he
        cases hv : valC c q with
        | none => simp only [hv] at he; cases he
        | some old =>
          simp only [hv] at he
          cases old with
          | int i =>
            obtain ⟨z, μ3, e3, he⟩ := andThen_some he
            split at he
            · split at he
              · rename_i hl
                cases he
                exact ⟨m, μ1, y, μ2, q, c, i, _, μ3, _, e1, e2, hq, hc, hv, e3, by assumption, hl, rfl, rfl⟩
              · cases he
            · split at he
              · rename_i hl
                cases he
                exact ⟨m, μ1, y, μ2, q, c, i, _, μ3, _, e1, e2, hq, hc, hv, e3, by assumption, hl, rfl, rfl⟩
              · cases he
            · cases he
          | _ => cases he
  | _ => cases he
theorem s_daug (G : GS N fs F n sc X) {o k e : E} {op : Operator} {a b v : Expr} {p2 pos : Pos} (hs : notSlice b = true) (ho : chkE N fs o sc a = true) (hk : chkE N fs k sc b = true) (hv : chkE N fs e sc v = true) : PS X (.AugAssign (.Subscript a b p2) op v pos) (tX X.K (exec F W (.daug o k op e))) := by
  have read : ∀ (rd : V → V → Hp → VK → Prop), (∀ i j H Q, opAS op = true → Q (.int (augF op i j)) H → rd (.int i) (.int j) H Q) → ∀ (Dn : Ends) (σ : L2.St) (H : Hp), tX X.K (exec F W (.daug o k op e)) Dn σ H → sDAug (tE X.K F o) (tE X.K F k) (tE X.K F e) rd Dn σ H := by
    intro rd hrd Dn σ H ⟨B, ads, ρ, μ, r, f, he, q⟩
    obtain ⟨m, μ1, y, μ2, qk, c, i, j, μ3, c3, e1, e2, e3, e4, e5, e6, e7, e8, e9, rfl⟩ := daug_go he
    refine ⟨_, ads, ρ, μ, _, μ1, f.hold, e1, fun v H1 ads1 x1 h1 r1 => ⟨_, ads1, ρ, μ1, y, μ2, h1, e2, fun w H2 ads2 x2 h2 r2 => ?_⟩⟩
    obtain ⟨ad, ev, ha⟩ := (r1.ext h1.c x2).cell
    obtain ⟨kvs, kds, k1, k2, k3⟩ := h2.c.at m ad ha
    rw [e4] at k1
    cases k1
    obtain ⟨old, k4, k5⟩ := valC_rep k3 e5
    have eo : old = .int i := by cases k5; rfl
    subst eo
    have ew := keyD_V r2 e3
    subst ew
    refine ⟨ad, .int i, ev, by rw [← k4]; exact DGet.k k2, _, ads2, ρ, μ2, _, μ3, h2, e6, fun u H3 ads3 x3 h3 r3 => ?_⟩
    have eu := r3.int
    subst eu
    have ha3 := x3.pre m ad ha
    obtain ⟨kvs3, kds3, m1, m2, m3⟩ := h3.c.at m ad ha3
    rw [e7] at m1
    cases m1
    have hlen : kvs3.length = c3.length := by
      have := congrArg List.length m3.1
      rw [List.length_map, List.length_map] at this
      exact this
    refine hrd i j H3 _ e9 ⟨_, DPut.k m2 (by rw [hlen]; exact e8), ?_⟩
    exact q σ _ ads3 ((f.step ((x1.trans x2).trans x3) h3).cell ha3 (putC_rep (.int _) m3))
  cases op with
  | Add => exact PS.imp (ps_daug (hu_of G.g.room) (sE o sc a X G.g ho).v (sE k sc b X G.g hk).v (sE e sc v X G.g hv).v in_add (augStore_of hs)) (read _ fun i j H Q _ q => ⟨i, j, rfl, rfl, q⟩)
  | Sub => exact PS.imp (ps_daug (hu_of G.g.room) (sE o sc a X G.g ho).v (sE k sc b X G.g hk).v (sE e sc v X G.g hv).v in_sub (augStore_of hs)) (read _ fun i j H Q _ q => ⟨i, j, rfl, rfl, q⟩)
  | _ => exact ⟨fun pins s σ H Dn I h => by
      exfalso
      obtain ⟨B, ads, ρ, μ, r, f, he, q⟩ := h
      obtain ⟨m, μ1, y, μ2, qk, c, i, j, μ3, c3, e1, e2, e3, e4, e5, e6, e7, e8, e9, _⟩ := daug_go he
      cases e9⟩
theorem s_ret (G : GS N fs F n sc X) {e : E} {v : Expr} {pos : Pos} (hv : chkE N fs e sc v = true) : PS X (.Return (some v) pos) (tX X.K (exec F W (.ret e))) := by
  refine PS.imp (ps_ret (sE e sc v X G.g hv).v) fun Dn σ H ⟨B, ads, ρ, μ, r, f, he, q⟩ => ?_
  unfold exec at he
  split at he
  · cases he
  · rename_i hl
    obtain ⟨d, μ1, e1, he⟩ := andThen_some he
    cases he
    refine ⟨_, ads, ρ, μ, d, μ1, f.hold, e1, fun v H1 ads1 x1 h1 r1 => ?_⟩
    have hl' : lk ρ e = false := by simpa using hl
    rw [hl'] at r1
    have anti : ∀ b, B.own0 b → ownF B.own0 σ ρ b := fun b z => .inl z
    exact q v H1 ads1 (f.ext.trans x1) (h1.c.anti anti) (Rep.stay (antiOwn (K := X.K) anti) _ _ r1.plain)
theorem s_ifs (G : GS N fs F n sc X) {c : E} {a b : Ss} {x : Expr} {ys zs : List Stmt} {pos : Pos} (hc : chkE N fs c sc x = true) (ha : PSs X ys (tX X.K (execs F W a))) (hb : PSs X zs (tX X.K (execs F W b))) : PS X (.If x ys zs pos) (tX X.K (exec F W (.ifs c a b))) := by
  refine PS.imp (ps_if (sE c sc x X G.g hc).t ha hb) fun Dn σ H ⟨B, ads, ρ, μ, r, f, he, q⟩ => ?_
  unfold exec at he
  obtain ⟨k, μ1, e1, he⟩ := onBl_some he
  refine ⟨_, ads, ρ, μ, k, μ1, f.hold, e1, fun H1 ads1 x1 h1 => ?_⟩
  cases k with
  | true => exact ⟨B, ads1, ρ, μ1, r, f.step x1 h1, he, q⟩
  | false => exact ⟨B, ads1, ρ, μ1, r, f.step x1 h1, he, q⟩
theorem passes (G : GS N fs F n sc X) : PassesOwn (model X.prog X.w) X.A X.env X.xe := by
  rw [G.g.nox]
  exact PassesOwn.never
theorem s_whl (G : GS N fs F n sc X) {c : E} {b : Ss} {x : Expr} {ys : List Stmt} {pos : Pos} (hc : chkE N fs c sc x = true) (hb : PSs X ys (tX X.K (execs F W b))) : PS X (.While x ys [] pos) (tX X.K (exec F W (.whl c b))) := by
  refine PS.imp (ps_while (passes G) (sE c sc x X G.g hc).t hb) fun Dn σ H ⟨B, ads, ρ, μ, r, f, he, q⟩ => ?_
  unfold exec at he
  refine ⟨fun m σ H => ∃ ads ρ μ, FI X.K B ads H σ ρ μ ∧ whileF (fun ρ' μ' => onBl (ev F c ρ' μ') fun x μ1 => some (x, μ1)) (fun ρ' μ' => execs F W b ρ' μ') m ρ μ = some r, ⟨W, ads, ρ, μ, f, he⟩, ?_⟩
  clear f he
  rintro m σ H ⟨ads, ρ, μ, f, he⟩
  cases m with
  | zero => cases he
  | succ m =>
    unfold whileF at he
    split at he
    · cases he
    · rename_i μ1 hc1
      cases he
      obtain ⟨k, μ2, e1, e2⟩ := onBl_some hc1
      cases e2
      refine ⟨_, ads, ρ, μ, false, _, f.hold, e1, fun H1 ads1 x1 h1 => ?_⟩
      exact q σ H1 ads1 (f.step x1 h1)
    · rename_i μ1 hc1
      obtain ⟨k, μ2, e1, e2⟩ := onBl_some hc1
      cases e2
      refine ⟨_, ads, ρ, μ, true, _, f.hold, e1, fun H1 ads1 x1 h1 => ?_⟩
      refine ⟨fun σ H => ∃ ads ρ μ, FI X.K B ads H σ ρ μ ∧ whileF (fun ρ' μ' => onBl (ev F c ρ' μ') fun x μ1 => some (x, μ1)) (fun ρ' μ' => execs F W b ρ' μ') m ρ μ = some r, fun σ' H' z => ⟨m, Nat.lt_succ_self m, z⟩, ?_⟩
      split at he
      · cases he
      · rename_i ρ2 μ2 hb2
        exact ⟨B, ads1, ρ, _, _, f.step x1 h1, hb2, fun σ' H' ads' f' => ⟨ads', _, _, f', he⟩⟩
      · rename_i ρ2 μ2 hb2
        exact ⟨B, ads1, ρ, _, _, f.step x1 h1, hb2, fun σ' H' ads' f' => ⟨ads', _, _, f', he⟩⟩
      · rename_i ρ2 μ2 hb2
        cases he
        exact ⟨B, ads1, ρ, _, _, f.step x1 h1, hb2, fun σ' H' ads' f' => q σ' H' ads' f'⟩
      · rename_i d μ2 hb2
        cases he
        exact ⟨B, ads1, ρ, _, _, f.step x1 h1, hb2, q⟩
theorem s_for (G : GS N fs F n sc X) {tg : Tg} {it : It} {b : Ss} {t i : Expr} {ys : List Stmt} {pos : Pos} (ht : chkTg N sc tg t = true) (hi : chkIt N fs it sc i = true) (hzo : zipOk it t = true) (hs : notSet i = true) (hb : PSs X ys (tX X.K (execs F W b))) : PS X (.For t i ys [] pos) (tX X.K (exec F W (.for_ tg it b))) := by
  refine PS.imp (ps_for (passes G) G.g.calm (sIt it sc i X t G.g hi hzo) (s_tg G.g ht) hb (folded_of hs _)) fun Dn σ H ⟨B, ads, ρ, μ, r, f, he, q⟩ => ?_
  unfold exec at he
  obtain ⟨xs, μ1, e1, he⟩ := andThen_some he
  split at he
  · cases he
  · rename_i hl
    have hl' : it.lk ρ = false := by simpa using hl
    refine ⟨_, ads, ρ, μ, xs, μ1, f.hold, e1, fun J H1 ads1 x1 h1 w1 => ?_⟩
    rw [hl'] at w1
    have f1 := f.step x1 h1
    let B' : Base := { B with pn := fun b o => H1 b = some o ∧ ¬ Zo (ownF B.own0 σ ρ) ads1 b, pa := ads1 }
    have f' : FI X.K B' ads1 H1 σ ρ μ1 := ⟨f1.hold, f1.ext, f1.dist, f1.new, f1.own0T, fun b o z => z, fun k a z => z⟩
    have unpin : ∀ {ads' H' σ' ρ' μ'}, FI X.K B' ads' H' σ' ρ' μ' → FI X.K B ads' H' σ' ρ' μ' := fun {ads' H' σ' ρ' μ'} g => ⟨g.hold, g.ext, g.dist, g.new, g.own0T, fun b o z => g.pin b o (f1.pin b o z), fun k a z => g.pre k a (f1.pre k a z)⟩
    refine ⟨fun i m σ' H' => m = xs.length - i ∧ i ≤ xs.length ∧ ∃ ads' ρ' μ', FI X.K B' ads' H' σ' ρ' μ' ∧ forF tg (fun ρ' μ' => execs F W b ρ' μ') (xs.drop i) ρ' μ' = some r, ⟨xs.length, by simp, Nat.zero_le _, ads1, ρ, μ1, f', he⟩, ?_⟩
    rintro i m σ' H' ⟨rfl, hi, ads', ρ', μ', g, hgo⟩
    have st : Stay (Zo (ownF B.own0 σ ρ) ads1) (Zo (ownF B.own0 σ' ρ') ads') ads1 ads' H1 H' := ⟨fun b o z1 z2 => (g.pin b o ⟨z1, z2⟩).1, fun b o z1 z2 => (g.pin b o ⟨z1, z2⟩).2, g.pre⟩
    have w' : WalksR X.K (ownF B.own0 σ' ρ') (ownF B.own0 σ' ρ') ads' H' J xs false := by
      exact w1.stay st fun hb => by cases hb
    obtain ⟨t1, t2⟩ := w'.turn g.hold.c i
    by_cases hlt : i < xs.length
    · have hd : xs[i]? = some xs[i] := by simp [hlt]
      obtain ⟨go, yl⟩ := t2 _ hd
      have hdrop : xs.drop i = xs[i] :: xs.drop (i + 1) := by rw [List.drop_eq_getElem_cons hlt]
      rw [hdrop] at hgo
      unfold forF at hgo
      refine .inr ⟨go, fun σ' H' => ∃ ads' ρ' μ', FI X.K B' ads' H' σ' ρ' μ' ∧ forF tg (fun ρ' μ' => execs F W b ρ' μ') (xs.drop (i + 1)) ρ' μ' = some r, fun σ2 H2 z => ⟨xs.length - (i + 1), by omega, rfl, hlt, z⟩, fun x H2 y => ?_⟩
      obtain ⟨xz, cz, r3⟩ := yl x H2 y
      replace g := g.step xz ⟨g.hold.e.ext g.hold.c xz, cz, g.hold.len⟩
      split at hgo
      · cases hgo
      · rename_i ρ1 hb1
        refine g.tg r3 hb1 fun σ1 g1 => ?_
        split at hgo
        · cases hgo
        · rename_i ρ2 μ2 hb2
          exact ⟨B', ads', ρ1, μ', _, g1, hb2, fun σ2 H2 ads2 g2 => ⟨ads2, _, _, g2, hgo⟩⟩
        · rename_i ρ2 μ2 hb2
          exact ⟨B', ads', ρ1, μ', _, g1, hb2, fun σ2 H2 ads2 g2 => ⟨ads2, _, _, g2, hgo⟩⟩
        · rename_i ρ2 μ2 hb2
          cases hgo
          exact ⟨B', ads', ρ1, μ', _, g1, hb2, fun σ2 H2 ads2 g2 => q σ2 H2 ads2 (unpin g2)⟩
        · rename_i d μ2 hb2
          cases hgo
          exact ⟨B', ads', ρ1, μ', _, g1, hb2, q⟩
    · have e3 : i = xs.length := by omega
      subst e3
      rw [List.drop_length] at hgo
      unfold forF at hgo
      cases hgo
      exact .inl ⟨t1 rfl, q σ' H' ads' (unpin g)⟩
theorem s_expr (G : GS N fs F n sc X) {e : E} {v : Expr} {pos : Pos} (hc : isComp v = false) (hv : chkE N fs e sc v = true) : PS X (.Expr v pos) (tX X.K (exec F W (.expr e))) := by
  refine PS.imp (ps_expr (sE e sc v X G.g hv).v (sw_plain hc _ _ _)) fun Dn σ H ⟨B, ads, ρ, μ, r, f, he, q⟩ => ?_
  unfold exec at he
  obtain ⟨d, μ1, e1, he⟩ := andThen_some he
  cases he
  exact ⟨_, ads, ρ, μ, d, μ1, f.hold, e1, fun v H1 ads1 x1 h1 r1 => q σ H1 ads1 (f.step x1 h1)⟩
theorem s_pass {pos : Pos} : PS X (.Pass pos) (tX X.K (exec F W .pass)) := PS.imp ps_pass fun Dn σ H ⟨B, ads, ρ, μ, r, f, he, q⟩ => by
  cases he
  exact q σ H ads f
theorem s_brk {pos : Pos} : PS X (.Break pos) (tX X.K (exec F W .brk)) := PS.imp ps_break fun Dn σ H ⟨B, ads, ρ, μ, r, f, he, q⟩ => by
  cases he
  exact q σ H ads f
theorem s_cont {pos : Pos} : PS X (.Continue pos) (tX X.K (exec F W .cont)) := PS.imp ps_continue fun Dn σ H ⟨B, ads, ρ, μ, r, f, he, q⟩ => by
  cases he
  exact q σ H ads f
end
end FM

set_option Elab.async false
set_option linter.all false
set_option maxRecDepth 100000
set_option maxHeartbeats 4000000
/-! Ev15: all statements; defs; the whole program; the law. -/
namespace FM
open PySem PySem.Spec PyProof.Rows L2
/-! ### how arguments bind -/
theorem zip_look : ∀ {ps : List Str} {us : List Value}, us.length = ps.length → ∀ n ∈ ps, ((ps.zip us).lookup n).isNone = false
  | [], _, _, n, h => nomatch h
  | p :: ps, [], e, _, _ => by cases e
  | p :: ps, u :: us, e, n, h => by
    rw [List.zip_cons_cons, List.lookup_cons]
    cases hn : n == p with
    | true => rfl
    | false =>
      have : n ∈ ps := by
        rcases List.mem_cons.mp h with q | q
        · subst q; simp at hn
        · exact q
      exact zip_look (by simpa using e) n this
theorem filterMap_same {α β : Type} {f g : α → Option β} : ∀ {l : List α}, (∀ m ∈ l, f m = g m) → l.filterMap f = l.filterMap g
  | [], _ => rfl
  | a :: l, h => by
    rw [List.filterMap_cons, List.filterMap_cons, h a List.mem_cons_self, filterMap_same fun m hm => h m (List.mem_cons_of_mem _ hm)]
theorem zip_find : ∀ {ps : List Str} {us : List Value}, ps.Nodup → us.length = ps.length → (ps.filterMap fun n => ((ps.zip us).lookup n).map (n, ·)) = ps.zip us
  | [], [], _, _ => rfl
  | [], _ :: _, _, e => by cases e
  | _ :: _, [], _, e => by cases e
  | p :: ps, u :: us, nd, e => by
    have n := List.nodup_cons.mp nd
    have ih := zip_find (ps := ps) (us := us) n.2 (by simpa using e)
    have z : (ps.filterMap fun n => (((p, u) :: ps.zip us).lookup n).map (n, ·)) = ps.filterMap fun n => ((ps.zip us).lookup n).map (n, ·) := filterMap_same fun m hm => by
      have ne : (m == p) = false := by
        rw [beq_eq_false_iff_ne]
        rintro rfl
        exact n.1 hm
      rw [List.lookup_cons, ne]
    rw [List.zip_cons_cons, List.filterMap_cons]
    simp only [List.lookup_cons, beq_self_eq_true, Option.map_some]
    congr 1
    exact z.trans ih
theorem binds_gen {x qual : Str} {body : List Stmt} {scope : Scope} {kV doc pm cdv ct : Value} {an : Option Addr} (as : List Arg) (us : List Value) (nd : (as.map (·.arg)).Nodup) (hl : us.length = (as.map (·.arg)).length) :
  bindArgs (PySem.W.fnOf x qual { posonlyargs := [], args := as, vararg := none, kwonlyargs := [], kw_defaults := [], kwarg := none, defaults := [] } body scope .none kV doc pm an cdv ct) ⟨us, []⟩ = pure ((as.map (·.arg)).zip us) := by
  have hf : ((as.map (·.arg)).filter fun n => (((as.map (·.arg)).zip us).lookup n).isNone) = [] := by
    rw [List.filter_eq_nil_iff]
    intro n hn
    rw [zip_look hl n hn]
    exact Bool.false_ne_true
  have hz := zip_find nd hl
  generalize hps : as.map (·.arg) = ps at *
  have h1 : decide (us.length > ps.length) = false := by rw [decide_eq_false_iff_not]; omega
  unfold bindArgs
  simp only [hps, List.map_nil, List.nil_append, List.forIn_nil, pure_bind, seqItems?, notAStandIn, h1, Bool.false_and, Bool.false_eq_true, if_false, Option.getD_none, List.length_nil, Nat.zero_sub, List.drop_nil, Nat.sub_zero, List.take_length, hf, List.isEmpty_nil, Bool.not_true, List.drop_length, List.zip_nil_left, List.append_nil, hz]

section
variable {N fs : List Str} {F : Fs} {n : Nat} {sc : Scope} {X : Cx} {W : Nat}
/-! ### all statements -/
theorem swap_none (G : GS N fs F n sc X) {ts : List Expr} {k : Nat} {p : Pos} {v : Expr} (h : swapOk sc ts v = true) : swappedStores [.Tuple ts k p] v X.env = pure none := by
  cases v with
  | Tuple vs k2 p2 => exact swapC_ok G.hsc G.block (of_decide_eq_true h)
  | _ => rfl
theorem parOk_ok {i j : Nat} {t v : Expr} (h : parOk N sc i j t v = true) : ∃ x px y py kt pt va vb k2 pt2, t = .Tuple [.Name x px, .Name y py] kt pt ∧ v = .Tuple [va, vb] k2 pt2 ∧ swapC sc [.Name x px, .Name y py] [va, vb] = some (some [x, y]) ∧ N[i]? = some x ∧ N[j]? = some y ∧
    sc.names.lookup x = some .local ∧ sc.names.lookup y = some .local ∧ notStar va = true ∧ notStar vb = true ∧ i ≠ j := by
  unfold parOk at h
  split at h
  · simp only [Bool.and_eq_true, decide_eq_true_eq] at h
    obtain ⟨⟨⟨⟨⟨⟨⟨h1, h2⟩, h3⟩, h4⟩, h5⟩, h6⟩, h7⟩, h8⟩ := h
    exact ⟨_, _, _, _, _, _, _, _, _, _, rfl, rfl, h1, h2, h3, h4, h5, h6, h7, h8⟩
  · cases h
theorem s_par (G : GS N fs F n sc X) {i j : Nat} {a b : E} {x y : Str} {px py pt pt2 pos : Pos} {kt k2 : Nat} {va vb : Expr} (hw : swapC sc [.Name x px, .Name y py] [va, vb] = some (some [x, y])) (hi : N[i]? = some x) (hj : N[j]? = some y)
    (hx : sc.names.lookup x = some .local) (hy : sc.names.lookup y = some .local) (n1 : notStar va = true) (n2 : notStar vb = true) (hij : i ≠ j) (ha : Both X F va a) (hb : Both X F vb b) : PS X (.Assign [.Tuple [.Name x px, .Name y py] kt pt] (.Tuple [va, vb] k2 pt2) pos) (tX X.K (exec F W (.par i j a b))) := by
  have core := ps_par (X := X) (pos := pos) (px := px) (py := py) (pt := pt) (pt2 := pt2) (kt := kt) (k2 := k2) G.g.calm (by rw [G.g.hN]; exact G.g.nd) (by rw [G.g.hN]; exact hi) (by rw [G.g.hN]; exact hj) hij (by rw [G.hsc]; exact hx) (by rw [G.hsc]; exact hy)
    (pa_cons ha.v (pa_cons hb.v pa_nil (starEach_cons n2 _ _)) (starEach_cons n1 _ _)) (swapC_ok G.hsc G.block hw) rfl
  refine PS.imp core fun Dn σ H ⟨B, ads, ρ, μ, r, f, he, q⟩ => ?_
  unfold exec at he
  split at he
  · cases he
  · rename_i hl
    obtain ⟨d1, μ1, e1, he⟩ := andThen_some he
    obtain ⟨d2, μ2, e2, he⟩ := andThen_some he
    cases he
    simp only [Bool.or_eq_true, not_or, Bool.not_eq_true] at hl
    refine ⟨_, ads, ρ, μ, d1, μ1, f.hold, e1, fun v H1 ads1 x1 h1 r1 => ⟨_, ads1, ρ, μ1, d2, _, h1, e2, fun w H2 ads2 x2 h2 r2 => ⟨v, w, rfl, ?_⟩⟩⟩
    have r1' := r1.ext h1.c x2
    rw [hl.1.1.1.1] at r1'
    rw [hl.1.1.1.2] at r2
    have f2 := f.step (x1.trans x2) h2
    have f3 := f2.setPl (i := i) r1'.plain
    exact q _ H2 ads2 (f3.setPl (Rep.stay (antiOwn (K := X.K) fun b h => ownF_set h) _ _ r2.plain))
theorem par3Ok_ok {i j k : Nat} {t v : Expr} (h : par3Ok N sc i j k t v = true) : ∃ x px y py z pz kt pt va vb vc k2 pt2, t = .Tuple [.Name x px, .Name y py, .Name z pz] kt pt ∧ v = .Tuple [va, vb, vc] k2 pt2 ∧ swapC sc [.Name x px, .Name y py, .Name z pz] [va, vb, vc] = some (some [x, y, z]) ∧ N[i]? = some x ∧ N[j]? = some y ∧ N[k]? = some z ∧
    sc.names.lookup x = some .local ∧ sc.names.lookup y = some .local ∧ sc.names.lookup z = some .local ∧ notStar va = true ∧ notStar vb = true ∧ notStar vc = true ∧ i ≠ j ∧ i ≠ k ∧ j ≠ k := by
  unfold par3Ok at h
  split at h
  · simp only [Bool.and_eq_true, decide_eq_true_eq] at h
    obtain ⟨⟨⟨⟨⟨⟨⟨⟨⟨⟨⟨⟨h1, h2⟩, h3⟩, h4⟩, h5⟩, h6⟩, h7⟩, h8⟩, h9⟩, h10⟩, h11⟩, h12⟩, h13⟩ := h
    exact ⟨_, _, _, _, _, _, _, _, _, _, _, _, _, rfl, rfl, h1, h2, h3, h4, h5, h6, h7, h8, h9, h10, h11, h12, h13⟩
  · cases h
theorem s_par3 (G : GS N fs F n sc X) {i j k : Nat} {x y z : Str} {px py pz pt pt2 pos : Pos} {kt k2 : Nat} {va vb vc : Expr} {ta : TA} (hw : swapC sc [.Name x px, .Name y py, .Name z pz] [va, vb, vc] = some (some [x, y, z])) (hi : N[i]? = some x) (hj : N[j]? = some y) (hk : N[k]? = some z)
    (hx : sc.names.lookup x = some .local) (hy : sc.names.lookup y = some .local) (hz : sc.names.lookup z = some .local) (hij : i ≠ j) (hik : i ≠ k) (hjk : j ≠ k) (ha : PA X [va, vb, vc] ta) : PS X (.Assign [.Tuple [.Name x px, .Name y py, .Name z pz] kt pt] (.Tuple [va, vb, vc] k2 pt2) pos) (tPar3 i j k ta) :=
  ps_par3 (X := X) (pos := pos) (px := px) (py := py) (pz := pz) (pt := pt) (pt2 := pt2) (kt := kt) (k2 := k2) G.g.calm (by rw [G.g.hN]; exact G.g.nd) (by rw [G.g.hN]; exact hi) (by rw [G.g.hN]; exact hj) (by rw [G.g.hN]; exact hk) hij hik hjk (by rw [G.hsc]; exact hx) (by rw [G.hsc]; exact hy) (by rw [G.hsc]; exact hz)
    ha (swapC_ok G.hsc G.block hw) rfl
theorem frz_go {i : Nat} {ss : Ss} {ρ : Env} {μ : Cells} {r : Res} (he : execs F W (.cons (.frz i) ss) ρ μ = some r) : ∃ ds, ρ[i]? = some (some (Sl.ow ds)) ∧ execs F W ss (ρ.set i (some (.pl (.lst ds)))) μ = some r := by
  unfold execs exec at he
  cases h : ρ[i]? with
  | none => simp only [h] at he; cases he
  | some o =>
    cases o with
    | none => simp only [h] at he; cases he
    | some s =>
      cases s with
      | pl d => simp only [h] at he; cases he
      | ow ds =>
        simp only [h] at he
        exact ⟨ds, rfl, he⟩
theorem cons_go {s : S} {ss : Ss} {ρ : Env} {μ : Cells} {r : Res} (he : execs F W (.cons s ss) ρ μ = some r) : ∃ r1, exec F W s ρ μ = some r1 ∧ ((∃ ρ1 μ1, r1 = .nx ρ1 μ1 ∧ execs F W ss ρ1 μ1 = some r) ∨ ((∀ ρ1 μ1, r1 ≠ .nx ρ1 μ1) ∧ r = r1)) := by
  unfold execs at he
  cases h : exec F W s ρ μ with
  | none => rw [h] at he; cases he
  | some r1 =>
    rw [h] at he
    refine ⟨r1, rfl, ?_⟩
    cases r1 with
    | nx ρ1 μ1 => exact .inl ⟨ρ1, μ1, rfl, he⟩
    | bk ρ1 μ1 => cases he; exact .inr ⟨fun _ _ e => (by cases e), rfl⟩
    | ct ρ1 μ1 => cases he; exact .inr ⟨fun _ _ e => (by cases e), rfl⟩
    | rt d μ1 => cases he; exact .inr ⟨fun _ _ e => (by cases e), rfl⟩
theorem chkSs_cons {s : S} {ss : Ss} {sts : List Stmt} (hs : ∀ i, s ≠ .frz i) (h : chkSs N fs sc (.cons s ss) sts = true) : ∃ x xs, sts = x :: xs ∧ chkS N fs sc s x = true ∧ chkSs N fs sc ss xs = true := by
  cases sts with
  | nil =>
    exfalso
    cases s <;> first | exact absurd h Bool.false_ne_true | exact hs _ rfl
  | cons x xs =>
    have h' : (chkS N fs sc s x && chkSs N fs sc ss xs) = true := by
      cases s <;> first | exact h | exact absurd rfl (hs _)
    obtain ⟨h1, h2⟩ := and2 h'
    exact ⟨x, xs, rfl, h1, h2⟩
theorem isOw_setPl {ρ : Env} {i l : Nat} {d : D} (h : isOw ρ l = false) : isOw (ρ.set i (some (.pl d))) l = false := by
  unfold isOw
  by_cases e : i = l
  · subst e
    by_cases hl : i < ρ.length
    · rw [List.getElem?_set_self hl]; rfl
    · rw [List.getElem?_eq_none (by simpa using hl)]
  · rw [List.getElem?_set_ne e]
    exact h
theorem s_par4L (G : GS N fs F n sc X) {i j k l : Nat} {a b c : E} {ts : List Expr} {kt k2 : Nat} {pt pt2 lp pos : Pos} {va vb vc : Expr} (ht : chkTs N sc [i, j, k, l] ts = true) (hw : swapC sc ts [va, vb, vc, .List [] lp] = some none)
    (n1 : notStar va = true) (n2 : notStar vb = true) (n3 : notStar vc = true) (ha : chkE N fs a sc va = true) (hb : chkE N fs b sc vb = true) (hc : chkE N fs c sc vc = true) :
    PS X (.Assign [.Tuple ts kt pt] (.Tuple [va, vb, vc, .List [] lp] k2 pt2) pos) (tX X.K (exec F W (.par4L i j k l a b c))) := by
  obtain ⟨g1, g2, g3⟩ := s_ts G.g ht
  have args := pa_cons (sE a sc va X G.g ha).v (pa_cons (sE b sc vb X G.g hb).v (pa_cons (sE c sc vc X G.g hc).v (pa_cons (pe_lst (pos := lp) pa_nil) pa_nil (starEach_cons rfl _ _)) (starEach_cons n3 _ _)) (starEach_cons n2 _ _)) (starEach_cons n1 _ _)
  refine PS.imp (ps_asg (pe_tup args) (pg_tup G.g.calm g1 g2 g3) (sw_tup _ _ _ _ _ _) (swapC_ok G.hsc G.block hw) rfl) fun Dn σ H ⟨B, ads, ρ, μ, r, f, he, q⟩ => ?_
  unfold exec at he
  split at he
  · cases he
  · rename_i hl
    obtain ⟨x, μ1, e1, he⟩ := andThen_some he
    obtain ⟨y, μ2, e2, he⟩ := andThen_some he
    obtain ⟨z, μ3, e3, he⟩ := andThen_some he
    cases he
    rw [Bool.or_eq_true, not_or, Bool.or_eq_true, not_or, Bool.or_eq_true, not_or] at hl
    obtain ⟨⟨⟨l1, l2⟩, l3⟩, l4⟩ := hl
    have l1 : lk ρ a = false := by simpa using l1
    have l2 : lk ρ b = false := by simpa using l2
    have l3 : lk ρ c = false := by simpa using l3
    have l4 : isOw ρ l = false := by simpa using l4
    refine ⟨_, ads, ρ, μ, x, μ1, f.hold, e1, fun v1 H1 ads1 x1 h1 r1 => ⟨_, ads1, ρ, μ1, y, μ2, h1, e2, fun v2 H2 ads2 x2 h2 r2 => ⟨_, ads2, ρ, μ2, z, μ3, h2, e3, fun v3 H3 ads3 x3 h3 r3 => ?_⟩⟩⟩
    rw [l1] at r1
    rw [l2] at r2
    rw [l3] at r3
    refine ⟨Nat.zero_le _, fun L hL => ?_⟩
    refine ⟨by show 4 ≤ sizeLine; decide, fun T hT => ?_⟩
    have f3 := f.step ((x1.trans x2).trans x3) h3
    have rl : RepL X.K (Zo (ownF B.own0 σ ρ) ads3) ads3 H3 [v1, v2, v3] [x, y, z] := .cons (r1.plain.ext (x2.trans x3)) (.cons (r2.plain.ext x3) (.cons r3.plain .nil))
    have nm : gNames [i, j, k] [v1, v2, v3] σ H3 (fun σ1 H => FI X.K B ads3 H σ1 (setAll [i, j, k] [x, y, z] ρ) μ3) := FI.names f3 rl rfl fun σ1 f1 => f1
    obtain ⟨_, _, q1, _, _, q2, _, _, q3, q4, fA⟩ := nm
    cases q1
    cases q2
    cases q3
    have fB := fA.own (p := L) hL (isOw_setPl (isOw_setPl (isOw_setPl l4)))
    have fC := fB.step (H' := upd (upd H3 L (.lst [])) T (.tup [v1, v2, v3, .ref L])) (.fresh hT) ⟨fB.hold.e.ext fB.hold.c (.fresh hT), fB.hold.c.fresh hT, fB.hold.len⟩
    exact ⟨T, _, rfl, .inl (.inl upd_same), rfl, _, _, rfl, _, _, rfl, _, _, rfl, _, _, rfl, rfl, q _ _ ads3 fC⟩
mutual
theorem sS : ∀ (s : S) (st : Stmt), GS N fs F n sc X → chkS N fs sc s st = true → PS X st (tX X.K (exec F W s))
  | .asg i e, st, G, h => by
    cases st with
    | Assign ts v pos =>
      match ts, h with
      | [t], h =>
        cases t with
        | Name x px =>
          obtain ⟨h1, h2, h3⟩ := and3 (show (decide (N[i]? = some x) && locB sc x && chkE N fs e sc v && asgOk sc x px v) = true from h)
          obtain ⟨h4, h5⟩ := and2 h1
          exact s_asg G (of_decide_eq_true h4) h5 h2 h3
        | _ => exact absurd h Bool.false_ne_true
      | [], h => exact absurd h Bool.false_ne_true
      | t :: _ :: _, h => cases t <;> exact absurd h Bool.false_ne_true
    | _ => exact absurd h Bool.false_ne_true
  | .own i, st, G, h => by
    cases st with
    | Assign ts v pos =>
      match ts, h with
      | [t], h =>
        cases t with
        | Name x px =>
          cases v with
          | List es p2 =>
            cases es with
            | nil =>
              obtain ⟨h4, h5⟩ := and2 (show (decide (N[i]? = some x) && locB sc x) = true from h)
              exact s_own G (of_decide_eq_true h4) h5
            | cons _ _ => exact absurd h Bool.false_ne_true
          | _ => exact absurd h Bool.false_ne_true
        | _ => exact absurd h Bool.false_ne_true
      | [], h => exact absurd h Bool.false_ne_true
      | t :: _ :: _, h => cases t <;> exact absurd h Bool.false_ne_true
    | _ => exact absurd h Bool.false_ne_true
  | .asgT is e, st, G, h => by
    cases st with
    | Assign ts v pos =>
      match ts, h with
      | [t], h =>
        cases t with
        | Tuple es k p =>
          obtain ⟨h1, h2, h3⟩ := and3 (show (chkTs N sc is es && chkE N fs e sc v && swapOk sc es v) = true from h)
          exact s_asgT G h1 h2 (swap_none G h3)
        | _ => exact absurd h Bool.false_ne_true
      | [], h => exact absurd h Bool.false_ne_true
      | t :: _ :: _, h => cases t <;> exact absurd h Bool.false_ne_true
    | _ => exact absurd h Bool.false_ne_true
  | .par i j a b, st, G, h => by
    cases st with
    | Assign ts v pos =>
      match ts, h with
      | [t], h =>
        have h0 : (parOk N sc i j t v && pairB (chkE N fs a sc) (chkE N fs b sc) v) = true := h
        obtain ⟨h1, h2⟩ := and2 h0
        obtain ⟨x, px, y, py, kt, pt, va, vb, k2, pt2, e1, e2, g1, g2, g3, g4, g5, g6, g7, g8⟩ := parOk_ok h1
        subst e1 e2
        obtain ⟨h3, h4⟩ := and2 (show (chkE N fs a sc va && chkE N fs b sc vb) = true from h2)
        exact s_par G g1 g2 g3 g4 g5 g6 g7 g8 (sE a sc va X G.g h3) (sE b sc vb X G.g h4)
      | [], h => exact absurd h Bool.false_ne_true
      | t :: _ :: _, h => cases t <;> exact absurd h Bool.false_ne_true
    | _ => exact absurd h Bool.false_ne_true
  | .par3 i j k a b c, st, G, h => by
    cases st with
    | Assign ts v pos =>
      match ts, h with
      | [t], h =>
        have h0 : (par3Ok N sc i j k t v && tripB (chkE N fs a sc) (chkE N fs b sc) (chkE N fs c sc) v) = true := h
        obtain ⟨h1, h2⟩ := and2 h0
        obtain ⟨x, px, y, py, z, pz, kt, pt, va, vb, vc, k2, pt2, e1, e2, g1, g2, g3, g4, g5, g6, g7, g8, g9, g10, g11, g12, g13⟩ := par3Ok_ok h1
        subst e1 e2
        obtain ⟨h3, h4, h5⟩ := and3 (show (chkE N fs a sc va && chkE N fs b sc vb && chkE N fs c sc vc) = true from h2)
        have ha := sE a sc va X G.g h3
        have hb := sE b sc vb X G.g h4
        have hc := sE c sc vc X G.g h5
        refine PS.imp (s_par3 G g1 g2 g3 g4 g5 g6 g7 g11 g12 g13 (pa_cons ha.v (pa_cons hb.v (pa_cons hc.v pa_nil (starEach_cons g10 _ _)) (starEach_cons g9 _ _)) (starEach_cons g8 _ _))) fun Dn σ H ⟨B, ads, ρ, μ, r, f, he, q⟩ => ?_
        unfold exec at he
        split at he
        · cases he
        · rename_i hl
          obtain ⟨d1, μ1, e1, he⟩ := andThen_some he
          obtain ⟨d2, μ2, e2, he⟩ := andThen_some he
          obtain ⟨d3, μ3, e3, he⟩ := andThen_some he
          cases he
          simp only [Bool.or_eq_true, not_or, Bool.not_eq_true] at hl
          obtain ⟨⟨⟨⟨l1, l2⟩, l3⟩, _⟩, _⟩ := hl
          refine ⟨_, ads, ρ, μ, d1, μ1, f.hold, e1, fun v H1 ads1 x1 h1 r1 => ⟨_, ads1, ρ, μ1, d2, _, h1, e2, fun w H2 ads2 x2 h2 r2 => ⟨_, ads2, ρ, μ2, d3, _, h2, e3, fun u H3 ads3 x3 h3 r3 => ⟨v, w, u, rfl, ?_⟩⟩⟩⟩
          have r1' := r1.ext h1.c (x2.trans x3)
          have r2' := r2.ext h2.c x3
          rw [l1] at r1'
          rw [l2] at r2'
          rw [l3] at r3
          have f2 := f.step ((x1.trans x2).trans x3) h3
          have f3 := f2.setPl (i := i) r1'.plain
          have f4 := f3.setPl (i := j) (Rep.stay (antiOwn (K := X.K) fun b h => ownF_set h) _ _ r2'.plain)
          exact q _ H3 ads3 (f4.setPl (Rep.stay (antiOwn (K := X.K) fun b h => ownF_set h) _ _ (Rep.stay (antiOwn (K := X.K) fun b h => ownF_set h) _ _ r3.plain)))
      | [], h => exact absurd h Bool.false_ne_true
      | t :: _ :: _, h => cases t <;> exact absurd h Bool.false_ne_true
    | _ => exact absurd h Bool.false_ne_true
  | .par3L i j k a b, st, G, h => by
    cases st with
    | Assign ts v pos =>
      match ts, h with
      | [t], h =>
        have h0 : (par3Ok N sc i j k t v && tripB (chkE N fs a sc) (chkE N fs b sc) isNilL v) = true := h
        obtain ⟨h1, h2⟩ := and2 h0
        obtain ⟨x, px, y, py, z, pz, kt, pt, va, vb, vc, k2, pt2, e1, e2, g1, g2, g3, g4, g5, g6, g7, g8, g9, g10, g11, g12, g13⟩ := par3Ok_ok h1
        subst e1 e2
        obtain ⟨h3, h4, h5⟩ := and3 (show (chkE N fs a sc va && chkE N fs b sc vb && isNilL vc) = true from h2)
        have ha := sE a sc va X G.g h3
        have hb := sE b sc vb X G.g h4
        obtain ⟨p3, rfl⟩ : ∃ p3, vc = .List [] p3 := by
          cases vc with
          | List es p3 => cases es with
            | nil => exact ⟨p3, rfl⟩
            | cons _ _ => cases h5
          | _ => cases h5
        refine PS.imp (s_par3 G g1 g2 g3 g4 g5 g6 g7 g11 g12 g13 (pa_cons ha.v (pa_cons hb.v (pa_cons (pe_lst pa_nil) pa_nil (starEach_cons g10 _ _)) (starEach_cons g9 _ _)) (starEach_cons g8 _ _))) fun Dn σ H ⟨B, ads, ρ, μ, r, f, he, q⟩ => ?_
        unfold exec at he
        split at he
        · cases he
        · rename_i hl
          obtain ⟨d1, μ1, e1, he⟩ := andThen_some he
          obtain ⟨d2, μ2, e2, he⟩ := andThen_some he
          cases he
          simp only [Bool.or_eq_true, not_or, Bool.not_eq_true] at hl
          obtain ⟨⟨⟨l1, l2⟩, ⟨⟨_, _⟩, l4⟩⟩, _⟩ := hl
          refine ⟨_, ads, ρ, μ, d1, μ1, f.hold, e1, fun v H1 ads1 x1 h1 r1 => ⟨_, ads1, ρ, μ1, d2, _, h1, e2, fun w H2 ads2 x2 h2 r2 => ⟨Nat.zero_le _, fun p hp => ⟨v, w, _, rfl, ?_⟩⟩⟩⟩
          have r1' := r1.ext h1.c x2
          rw [l1] at r1'
          rw [l2] at r2
          have f2 := f.step (x1.trans x2) h2
          have f3 := f2.setPl (i := i) r1'.plain
          have f4 := f3.setPl (i := j) (Rep.stay (antiOwn (K := X.K) fun b h => ownF_set h) _ _ r2.plain)
          refine q _ _ ads2 (f4.own hp ?_)
          unfold isOw at l4 ⊢
          rw [List.getElem?_set_ne g13, List.getElem?_set_ne g12]
          exact l4
      | [], h => exact absurd h Bool.false_ne_true
      | t :: _ :: _, h => cases t <;> exact absurd h Bool.false_ne_true
    | _ => exact absurd h Bool.false_ne_true
  | .par3M i j k a n1, st, G, h => by
    cases st with
    | Assign ts v pos =>
      match ts, h with
      | [t], h =>
        have h0 : (par3Ok N sc i j k t v && tripB (chkE N fs a sc) isNilL (isIntC n1) v) = true := h
        obtain ⟨h1, h2⟩ := and2 h0
        obtain ⟨x, px, y, py, z, pz, kt, pt, va, vb, vc, k2, pt2, e1, e2, g1, g2, g3, g4, g5, g6, g7, g8, g9, g10, g11, g12, g13⟩ := par3Ok_ok h1
        subst e1 e2
        obtain ⟨h3, h4, h5⟩ := and3 (show (chkE N fs a sc va && isNilL vb && isIntC n1 vc) = true from h2)
        have ha := sE a sc va X G.g h3
        obtain ⟨p3, rfl⟩ : ∃ p3, vb = .List [] p3 := by
          cases vb with
          | List es p3 => cases es with
            | nil => exact ⟨p3, rfl⟩
            | cons _ _ => cases h4
          | _ => cases h4
        obtain ⟨cp, cq, rfl⟩ : ∃ cp cq, vc = .Constant (.int n1) cp cq := by
          unfold isIntC at h5
          split at h5
          · rename_i m cq cp
            rw [of_decide_eq_true h5]
            exact ⟨_, _, rfl⟩
          · cases h5
        refine PS.imp (s_par3 G g1 g2 g3 g4 g5 g6 g7 g11 g12 g13 (pa_cons ha.v (pa_cons (pe_lst pa_nil) (pa_cons pe_int pa_nil (starEach_cons g10 _ _)) (starEach_cons g9 _ _)) (starEach_cons g8 _ _))) fun Dn σ H ⟨B, ads, ρ, μ, r, f, he, q⟩ => ?_
        unfold exec at he
        split at he
        · cases he
        · rename_i hl
          obtain ⟨d1, μ1, e1, he⟩ := andThen_some he
          cases he
          simp only [Bool.or_eq_true, not_or, Bool.not_eq_true] at hl
          obtain ⟨⟨l1, ⟨⟨_, l3⟩, _⟩⟩, _⟩ := hl
          refine ⟨_, ads, ρ, μ, d1, _, f.hold, e1, fun v H1 ads1 x1 h1 r1 => ⟨Nat.zero_le _, fun p hp => ⟨v, _, _, rfl, ?_⟩⟩⟩
          have r1' := r1
          rw [l1] at r1'
          have f2 := f.step x1 h1
          have f3 := f2.setPl (i := i) r1'.plain
          have f4 := f3.own (i := j) hp (by
            unfold isOw at l3 ⊢
            rw [List.getElem?_set_ne g11]
            exact l3)
          exact q _ _ ads1 (f4.setPl (.int _))
      | [], h => exact absurd h Bool.false_ne_true
      | t :: _ :: _, h => cases t <;> exact absurd h Bool.false_ne_true
    | _ => exact absurd h Bool.false_ne_true
  | .par4L i j k l a b c, st, G, h => by
    cases st with
    | Assign ts v pos =>
      match ts, h with
      | [t], h =>
        obtain ⟨h1, h2⟩ := and2 (show (tsB N sc [i, j, k, l] t && par4B sc (chkE N fs a sc) (chkE N fs b sc) (chkE N fs c sc) t v) = true from h)
        unfold par4B at h2
        split at h2
        · rename_i ts' va vb vc lp
          obtain ⟨h3, h4, h5⟩ := and3 h2
          obtain ⟨h6, h7, h8⟩ := and3 h4
          obtain ⟨h9, h10, h11⟩ := and3 h5
          exact s_par4L G h1 (of_decide_eq_true h3) h6 h7 h8 h9 h10 h11
        · cases h2
      | [], h => exact absurd h Bool.false_ne_true
      | t :: _ :: _, h => cases t <;> exact absurd h Bool.false_ne_true
    | _ => exact absurd h Bool.false_ne_true
  | .aug i o e, st, G, h => by
    cases st with
    | AugAssign t o' v pos =>
      cases t with
      | Name x px =>
        obtain ⟨h1, h2, h3⟩ := and3 (show (decide (o = o') && opAS o && decide (N[i]? = some x) && locB sc x && chkE N fs e sc v) = true from h)
        obtain ⟨h4, h5, h6⟩ := and3 h1
        have e1 : o = o' := of_decide_eq_true h4
        subst e1
        exact s_aug G (of_decide_eq_true h6) h2 h5 h3
      | _ => exact absurd h Bool.false_ne_true
    | _ => exact absurd h Bool.false_ne_true
  | .app i e, st, G, h => by
    cases st with
    | Expr v pos =>
      cases v with
      | Call f as ks cpos =>
        cases f with
        | Attribute b g apos =>
          cases b with
          | Name x px =>
            match as, ks, h with
            | [v], [], h =>
              obtain ⟨h1, h2, h3⟩ := and3 (show (decide (g = "append") && nameIs N sc i x && (apos.endLine == cpos.line) && notStar v && chkE N fs e sc v) = true from h)
              obtain ⟨h4, h5, h6⟩ := and3 h1
              have e1 : g = "append" := of_decide_eq_true h4
              subst e1
              exact s_app G h5 h6 h2 h3
            | [], _, h => exact absurd h Bool.false_ne_true
            | [_], _ :: _, h => exact absurd h Bool.false_ne_true
            | _ :: _ :: _, _, h => exact absurd h Bool.false_ne_true
          | _ => exact absurd h Bool.false_ne_true
        | _ => exact absurd h Bool.false_ne_true
      | _ => exact absurd h Bool.false_ne_true
    | _ => exact absurd h Bool.false_ne_true
  | .ext i e, st, G, h => by
    cases st with
    | Expr v pos =>
      cases v with
      | Call f as ks cpos =>
        cases f with
        | Attribute b g apos =>
          cases b with
          | Name x px =>
            match as, ks, h with
            | [v], [], h =>
              obtain ⟨h0, h7, h8⟩ := and3 (show (decide (g = "extend") && nameIs N sc i x && (apos.endLine == cpos.line) && notStar v && chkE N fs e sc v) = true from h)
              obtain ⟨h1, h2, h3⟩ := and3 h0
              have e1 : g = "extend" := of_decide_eq_true h1
              subst e1
              exact s_ext G h2 h3 h7 h8
            | [], _, h => exact absurd h Bool.false_ne_true
            | [_], _ :: _, h => exact absurd h Bool.false_ne_true
            | _ :: _ :: _, _, h => exact absurd h Bool.false_ne_true
          | _ => exact absurd h Bool.false_ne_true
        | _ => exact absurd h Bool.false_ne_true
      | _ => exact absurd h Bool.false_ne_true
    | _ => exact absurd h Bool.false_ne_true
  | .ins i k e, st, G, h => by
    cases st with
    | Expr v pos =>
      cases v with
      | Call f as ks cpos =>
        cases f with
        | Attribute b g apos =>
          cases b with
          | Name x px =>
            match as, ks, h with
            | [u, v], [], h =>
              obtain ⟨h0, h7, h8⟩ := and3 (show (decide (g = "insert") && nameIs N sc i x && (apos.endLine == cpos.line) && notStar u && notStar v && chkE N fs k sc u && chkE N fs e sc v) = true from h)
              obtain ⟨h1, h2, h3⟩ := and3 h0
              obtain ⟨h4, h5, h6⟩ := and3 h1
              have e1 : g = "insert" := of_decide_eq_true h4
              subst e1
              exact s_ins G h5 h6 h2 h3 h7 h8
            | [], _, h => exact absurd h Bool.false_ne_true
            | [_], _, h => exact absurd h Bool.false_ne_true
            | [_, _], _ :: _, h => exact absurd h Bool.false_ne_true
            | _ :: _ :: _ :: _, _, h => exact absurd h Bool.false_ne_true
          | _ => exact absurd h Bool.false_ne_true
        | _ => exact absurd h Bool.false_ne_true
      | _ => exact absurd h Bool.false_ne_true
    | _ => exact absurd h Bool.false_ne_true
  | .daug o k op e, st, G, h => by
    cases st with
    | AugAssign t o' v pos =>
      cases t with
      | Subscript a b p2 =>
        obtain ⟨h1, h2, h3⟩ := and3 (show (decide (op = o') && opAS op && notSlice b && chkE N fs o sc a && chkE N fs k sc b && chkE N fs e sc v) = true from h)
        obtain ⟨h4, h5, h6⟩ := and3 h1
        obtain ⟨h7, h8⟩ := and2 h4
        have e1 : op = o' := of_decide_eq_true h7
        subst e1
        exact s_daug G h5 h6 h2 h3
      | _ => exact absurd h Bool.false_ne_true
    | _ => exact absurd h Bool.false_ne_true
  | .ret e, st, G, h => by
    cases st with
    | Return v pos =>
      cases v with
      | none => exact absurd h Bool.false_ne_true
      | some v => exact s_ret G h
    | _ => exact absurd h Bool.false_ne_true
  | .ifs c a b, st, G, h => by
    cases st with
    | If x ys zs pos =>
      obtain ⟨h1, h2, h3⟩ := and3 (show (chkE N fs c sc x && chkSs N fs sc a ys && chkSs N fs sc b zs) = true from h)
      exact s_ifs G h1 (sSs a ys G h2) (sSs b zs G h3)
    | _ => exact absurd h Bool.false_ne_true
  | .whl c b, st, G, h => by
    cases st with
    | While x ys zs pos =>
      cases zs with
      | nil =>
        obtain ⟨h1, h2⟩ := and2 (show (chkE N fs c sc x && chkSs N fs sc b ys) = true from h)
        exact s_whl G h1 (sSs b ys G h2)
      | cons _ _ => exact absurd h Bool.false_ne_true
    | _ => exact absurd h Bool.false_ne_true
  | .for_ tg it b, st, G, h => by
    cases st with
    | For t i ys zs pos =>
      cases zs with
      | nil =>
        obtain ⟨h1, h2, h3⟩ := and3 (show (chkTg N sc tg t && chkIt N fs it sc i && (notSet i && zipOk it t) && chkSs N fs sc b ys) = true from h)
        obtain ⟨h4, h5⟩ := and2 h1
        exact s_for G h4 h5 (and2 h2).2 (and2 h2).1 (sSs b ys G h3)
      | cons _ _ => exact absurd h Bool.false_ne_true
    | _ => exact absurd h Bool.false_ne_true
  | .expr e, st, G, h => by
    cases st with
    | Expr v pos =>
      obtain ⟨h1, h2⟩ := and2 (show (!isComp v && chkE N fs e sc v) = true from h)
      exact s_expr G (by simpa using h1) h2
    | _ => exact absurd h Bool.false_ne_true
  | .pass, st, G, h => by
    cases st with
    | Pass pos => exact s_pass
    | _ => exact absurd h Bool.false_ne_true
  | .brk, st, G, h => by
    cases st with
    | Break pos => exact s_brk
    | _ => exact absurd h Bool.false_ne_true
  | .cont, st, G, h => by
    cases st with
    | Continue pos => exact s_cont
    | _ => exact absurd h Bool.false_ne_true
  | .bad, st, G, h => by
    constructor
    intros
    rename_i q
    obtain ⟨_, _, _, _, _, _, he, _⟩ := q
    unfold exec at he
    cases he
  | .frz i, st, G, h => absurd h Bool.false_ne_true
theorem sSs : ∀ (ss : Ss) (sts : List Stmt), GS N fs F n sc X → chkSs N fs sc ss sts = true → PSs X sts (tX X.K (execs F W ss))
  | .nil, [], G, h => PSs.imp pss_nil fun Dn σ H ⟨B, ads, ρ, μ, r, f, he, q⟩ => by
    cases he
    exact q σ H ads f
  | .nil, _ :: _, G, h => absurd h Bool.false_ne_true
  | .cons s ss, sts, G, h => by
    by_cases hs : ∃ i, s = .frz i
    · obtain ⟨i, rfl⟩ := hs
      refine PSs.imp (sSs ss sts G h) fun Dn σ H ⟨B, ads, ρ, μ, r, f, he, q⟩ => ?_
      obtain ⟨ds, hρ, he⟩ := frz_go he
      exact ⟨B, ads, _, μ, r, f.frz hρ, he, q⟩
    · obtain ⟨x, xs, rfl, h1, h2⟩ := chkSs_cons (fun i e => hs ⟨i, e⟩) h
      refine PSs.imp (pss_cons (sS s x G h1) (sSs ss xs G h2)) fun Dn σ H ⟨B, ads, ρ, μ, r, f, he, q⟩ => ?_
      obtain ⟨r1, e1, he⟩ := cons_go he
      rcases he with ⟨ρ1, μ1, rfl, he⟩ | ⟨hn, rfl⟩
      · exact ⟨B, ads, ρ, μ, _, f, e1, fun σ' H' ads' f' => ⟨B, ads', ρ1, μ1, r, f', he, q⟩⟩
      · refine ⟨B, ads, ρ, μ, r, f, e1, ?_⟩
        cases r with
        | nx ρ1 μ1 => exact absurd rfl (hn ρ1 μ1)
        | bk ρ1 μ1 => exact q
        | ct ρ1 μ1 => exact q
        | rt d μ1 => exact q
end
end
end FM

set_option Elab.async false
set_option linter.all false
set_option maxRecDepth 100000
set_option maxHeartbeats 4000000
/-! Ev16: defs, the whole program, the law. -/
namespace FM
open PySem PySem.Spec PyProof.Rows L2

/-! ### a def -/
/-- a def's text: its statement, its slots (parameters first), its parameters, its body in the little language -/
structure FD where
  name : Str
  st : Stmt
  N : List Str
  ps : List Str
  body : Ss
def FD.fn (d : FD) : Fn := ⟨d.ps.length, d.N.length, d.body⟩
def plainArgs : Arguments → List Str → Bool
  | ⟨[], as, none, [], [], none, []⟩, ps => decide (as.map (·.arg) = ps)
  | _, _ => false
def scopeOk (N ps : List Str) (sc : Scope) : Bool :=
  (match sc.kind with | .function => true | _ => false) && !sc.isCoroutine && !sc.isGenerator && decide N.Nodup && decide (N.take ps.length = ps) && (ps.all fun x => locB sc x) && (sc.names.all fun y => match y.2 with | .free => false | _ => true)
def FD.chk (fs : List Str) (d : FD) : Bool := scopeOk d.N d.ps (defScope d.st) && plainArgs (defArgs d.st) d.ps && chkSs d.N fs (defScope d.st) d.body (defBody d.st)
theorem scopeOk_ok {N ps : List Str} {sc : Scope} (h : scopeOk N ps sc = true) : FnScope N ps sc := by
  unfold scopeOk at h
  simp only [Bool.and_eq_true, decide_eq_true_eq, List.all_eq_true] at h
  obtain ⟨⟨⟨⟨⟨⟨h1, h2⟩, h3⟩, h4⟩, h5⟩, h6⟩, h7⟩ := h
  refine ⟨?_, by simpa using h2, by simpa using h3, h4, h5, fun x hx => ?_, fun y hy => ?_⟩
  · split at h1
    · assumption
    · cases h1
  · have z := h6 x hx
    unfold locB at z
    split at z
    · exact .inl (by assumption)
    · exact .inr (by assumption)
    · cases z
  · have z := h7 y hy
    intro e
    simp only [e] at z
    cases z
theorem plainArgs_ok {as : Arguments} {ps : List Str} (h : plainArgs as ps = true) : ∃ l, as = { posonlyargs := [], args := l, vararg := none, kwonlyargs := [], kw_defaults := [], kwarg := none, defaults := [] } ∧ l.map (·.arg) = ps := by
  unfold plainArgs at h
  split at h
  · exact ⟨_, rfl, of_decide_eq_true h⟩
  · cases h
section
variable {P : Program} {w : World} {K : PySem.W.Frag} {mg : Str → Option Value} {base : Heap} {fs : List Str} {W : Nat}
theorem env0_get {ds : List D} {m : Nat} {i : Nat} {s : Sl} (e : (ds.map (fun d => some (Sl.pl d)) ++ List.replicate m none)[i]? = some (some s)) : ∃ d, s = .pl d ∧ ds[i]? = some d := by
  by_cases hi : i < ds.length
  · rw [List.getElem?_append_left (by simpa using hi), List.getElem?_map] at e
    cases h : ds[i]? with
    | none => rw [h] at e; cases e
    | some d => rw [h] at e; cases e; exact ⟨d, rfl, rfl⟩
  · rw [List.getElem?_append_right (by simpa using hi), List.getElem?_replicate] at e
    split at e <;> cases e
theorem start_ok {d : FD} {own : Addr → Prop} {ads : List Addr} {H : Hp} {vs : List V} {ds : List D} {μ : Cells} (l : RepL K (Zo own ads) ads H vs ds) (c : CellsR K own ads H μ) (h1 : ds.length = d.fn.ar) (h2 : d.fn.ar ≤ d.fn.sl) :
    FI K ⟨own, ads, H, fun _ _ => False, []⟩ ads H (L2.start d.N vs) (ds.map (fun d => some (Sl.pl d)) ++ List.replicate (d.fn.sl - d.fn.ar) none) μ := by
  have no : ∀ (i : Nat) (es : List D), (ds.map (fun d => some (Sl.pl d)) ++ List.replicate (d.fn.sl - d.fn.ar) none)[i]? ≠ some (some (Sl.ow es)) := fun i es e => by
    obtain ⟨d, e1, _⟩ := env0_get e
    cases e1
  have fewer : ∀ b, ownF own (L2.start d.N vs) (ds.map (fun d => some (Sl.pl d)) ++ List.replicate (d.fn.sl - d.fn.ar) none) b → own b := fun b h => by
    rcases h with h | ⟨i, es, e, _⟩
    · exact h
    · exact absurd e (no i es)
  refine ⟨⟨fun i s e => ?_, c.anti fewer, ?_⟩, .refl, fun i j es gs b e _ _ _ => absurd e (no i es), fun i es b e _ => absurd e (no i es), fun b h => ?_, fun b o z => z.elim, fun k a e => by simp at e⟩
  · obtain ⟨dd, e1, e2⟩ := env0_get e
    subst e1
    obtain ⟨v, e3, e4⟩ := l.get e2
    refine ⟨v, ?_, Rep.stay (antiOwn (K := K) fewer) _ _ e4⟩
    unfold L2.start
    have hi := (List.getElem?_eq_some_iff.mp e3).1
    rw [List.getElem?_append_left (by simpa using hi), List.getElem?_map, e3]
    rfl
  · unfold L2.start
    rw [List.length_append, List.length_append, List.length_map, List.length_map, List.length_replicate, List.length_replicate, l.length, h1]
    rfl
  · obtain ⟨o, h1, _⟩ := c.ownT b h
    exact ⟨o, h1⟩
/-- a def keeps what the evaluator says of it -/
theorem fd_ok {d : FD} {F : Fs} {n : Nat} {f : Addr} {fd : FuncData} (hd : d.chk fs = true) (FDn : FunD K d.name d.name (defArgs d.st) (defBody d.st) (defScope d.st) [] [] f fd) (bn : ∀ x ∈ bnames, mg x = none) (cn : ∀ c ∈ cons, ∃ a, mg c.1 = some (.ref a) ∧ ∀ H, SqT K H a (c.2.map V.str))
    (hF : ∀ f g, fs[f]? = some g → FnH P w K mg base n g (F f)) : FnOk P w K mg base CX0 (n + 1) f fd d.ps (spF K d.ps.length (runFn F W d.fn)) := by
  unfold FD.chk at hd
  obtain ⟨h1, h2, h3⟩ := and3 hd
  have S := scopeOk_ok h1
  refine FDn.ok S (fun vs H Q E h => h.1) (fun cdv A outer s H vs Q E hr h => ?_)
  have G : GS d.N fs F n (defScope d.st) (cxOf CX0 P w K mg base d.N d.name (defScope d.st) f cdv A outer s H E).nox := by
    refine ⟨⟨rfl, S.nd, rfl, rfl, hr, fun x h => ?_, fun x h => ?_, fun x h => ?_, fun x h => h, bn, cn, hF⟩, rfl, S.kind⟩
    · unfold visB at h
      split at h
      · exact .inl (by assumption)
      · exact .inr (.inl (by assumption))
      · exact .inr (.inr (by assumption))
      · cases h
    · unfold gloB at h
      split at h
      · assumption
      · cases h
    · unfold locB at h
      split at h
      · exact ⟨.inl (by assumption), .inl rfl⟩
      · exact ⟨.inr (by assumption), .inl rfl⟩
      · cases h
  refine ⟨_, PSs.nox (sSs (W := W) d.body (defBody d.st) G h3), ?_⟩
  obtain ⟨hl, own, ads, ds, μ, dd, μ', l, c, he, q⟩ := h
  unfold runFn at he
  split at he
  · rename_i hn
    split at he
    · rename_i dr μr hx
      cases he
      refine ⟨⟨own, ads, H, fun _ _ => False, []⟩, ads, _, μ, _, ?_, hx, ?_⟩
      · exact start_ok l c hn.1 hn.2
      · exact fun v H' ads' e c' r => q v H' ads' e c' (.inl r)
    · rename_i ρr μr hx
      cases he
      refine ⟨⟨own, ads, H, fun _ _ => False, []⟩, ads, _, μ, _, ?_, hx, ?_⟩
      · exact start_ok l c hn.1 hn.2
      · intro σ' H' ads' f'
        have anti : ∀ b, own b → ownF own σ' ρr b := fun b z => .inl z
        exact q .non H' ads' f'.ext (f'.hold.c.anti anti) (.inl .non)
    · cases he
  · cases he
/-! ### the whole program -/
/-- the defs by their numbers -/
def tabOf (l : List FD) : Nat → Option Fn := fun f => (l[f]?).map FD.fn
theorem bindsF {d : FD} {f : Addr} {fd : FuncData} (hd : d.chk fs = true) (FDn : FunD K d.name d.name (defArgs d.st) (defBody d.st) (defScope d.st) [] [] f fd) :
    (∀ (kV doc pm : Value) (an : Option Addr) (cdv ct : Value) (us : List Value), us.length = d.ps.length → bindArgs (PySem.W.fnOf d.name d.name (defArgs d.st) (defBody d.st) (defScope d.st) .none kV doc pm an cdv ct) ⟨us, []⟩ = pure (d.ps.zip us)) := by
  unfold FD.chk at hd
  obtain ⟨h1, h2, h3⟩ := and3 hd
  have S := scopeOk_ok h1
  obtain ⟨l, e1, e2⟩ := plainArgs_ok h2
  have nd : d.ps.Nodup := by rw [← S.pre]; exact S.nd.sublist (List.take_sublist _ _)
  intro kV doc pm an cdv ct us hl
  rw [e1]
  have z := binds_gen (x := d.name) (qual := d.name) (body := defBody d.st) (scope := defScope d.st) (kV := kV) (doc := doc) (pm := pm) (an := an) (cdv := cdv) (ct := ct) l us (by rw [e2]; exact nd) (by rw [e2]; exact hl)
  rw [e2] at z
  exact z
theorem all_ok {l : List FD} (hfs : fs = l.map FD.name) (hd : ∀ d ∈ l, d.chk fs = true) (bn : ∀ x ∈ bnames, mg x = none) (cn : ∀ c ∈ cons, ∃ a, mg c.1 = some (.ref a) ∧ ∀ H, SqT K H a (c.2.map V.str))
    (hK : ∀ d ∈ l, ∃ a fd, mg d.name = some (.ref a) ∧ FunD K d.name d.name (defArgs d.st) (defBody d.st) (defScope d.st) [] [] a fd) :
    ∀ n f g, fs[f]? = some g → FnH P w K mg base n g (call (tabOf l) W n f)
  | 0, f, g, _ => fun ds μ d μ' e => by cases e
  | n + 1, f, g, hg => fun ds μ dd μ' e => by
    have ih := all_ok hfs hd bn cn hK n
    have hl : ∃ d, l[f]? = some d ∧ d.name = g := by
      rw [hfs, List.getElem?_map] at hg
      cases q : l[f]? with
      | none => rw [q] at hg; cases hg
      | some d => rw [q] at hg; cases hg; exact ⟨d, rfl, rfl⟩
    obtain ⟨d, q, rfl⟩ := hl
    have mem := List.mem_of_getElem? q
    have hT : tabOf l f = some d.fn := by unfold tabOf; rw [q]; rfl
    have hcall : call (tabOf l) W (n + 1) f = runFn (call (tabOf l) W n) W d.fn := by
      funext ds μ
      show (match tabOf l f with | some fn => runFn (call (tabOf l) W n) W fn ds μ | none => none) = _
      rw [hT]
    obtain ⟨a, fd, m1, m2⟩ := hK d mem
    have hdm := hd d mem
    refine ⟨a, fd, d.ps, m1, m2.kp, m2.bindsN (bindsF hdm m2), ?_, ?_⟩
    · rw [hcall] at e
      unfold runFn at e
      split at e
      · rename_i hh
        exact hh.1.symm
      · cases e
    · rw [hcall]
      exact fd_ok hdm m2 bn cn ih
/-- the law's promise from the evaluator's answer -/
theorem law_sp {F : List D → Cells → Option (D × Cells)} {H : Hp} {a : Addr} {ns : List Int} {μ' : Cells} (hS : SqL K H a (ns.map V.int)) (h : F [.lst (ns.map D.int)] [] = some (.bl true, μ')) :
    spF K 1 F [.ref a] H (fun v _ => v = .bl true) fun _ _ _ => False := by
  refine ⟨rfl, fun _ => False, [], [.lst (ns.map D.int)], [], .bl true, μ', .cons (.lst ?_ (RepL.ofInts ns)) .nil, ⟨rfl, .nil, fun k a e => by simp at e, fun a z => (nomatch z), fun b z => z.elim⟩, h, fun v H' ads' e c r => r.bl⟩
  rcases hS with hS | hS
  · exact .inl ⟨hS, fun z => z.elim (fun z => z) fun z => (nomatch z)⟩
  · exact .inr hS
end
end FM

set_option Elab.async false
set_option linter.all false
set_option maxRecDepth 100000
namespace FM
def B_is_whole : Ss := (.cons (.ret (.and (.isi (.var 0) .int) (.not (.isi (.var 0) .bool)))) .nil)
def B_common : Ss := (.cons (.whl (.cmp .NotEq (.var 1) (.int 0)) (.cons (.par 0 1 (.var 1) (.op .Mod (.var 0) (.var 1))) .nil)) (.cons (.ret (.bi .abs (.cons (.var 0) .nil))) .nil))
def B_frac (c_common : Nat) : Ss := (.cons (.asg 2 (.call c_common (.cons (.var 0) (.cons (.var 1) .nil)))) (.cons (.ifs (.cmp .Lt (.var 1) (.int 0)) (.cons (.asg 2 (.neg (.var 2))) .nil) .nil) (.cons (.ret (.tup (.cons (.op .FloorDiv (.var 0) (.var 2)) (.cons (.op .FloorDiv (.var 1) (.var 2)) .nil)))) .nil)))
def B_is_frac (c_is_whole : Nat) (c_common : Nat) : Ss := (.cons (.ifs (.or (.not (.isi (.var 0) .tuple)) (.or (.cmp .NotEq (.bi .len (.cons (.var 0) .nil)) (.int 2)) (.not (.bi .all (.cons (.lc (.call c_is_whole (.cons (.var 1) .nil)) (.nm 1) (.seq (.var 0)) .none) .nil))))) (.cons (.ret (.bl false)) .nil) .nil) (.cons (.ret (.and (.cmp .Gt (.ix (.var 0) (.int 1)) (.int 0)) (.cmp .Eq (.call c_common (.cons (.ix (.var 0) (.int 0)) (.cons (.ix (.var 0) (.int 1)) .nil))) (.int 1)))) .nil))
def B_whole : Ss := (.cons (.ret (.tup (.cons (.var 0) (.cons (.int 1) .nil)))) .nil)
def B_plus (c_frac : Nat) : Ss := (.cons (.ret (.call c_frac (.cons (.op .Add (.op .Mult (.ix (.var 0) (.int 0)) (.ix (.var 1) (.int 1))) (.op .Mult (.ix (.var 1) (.int 0)) (.ix (.var 0) (.int 1)))) (.cons (.op .Mult (.ix (.var 0) (.int 1)) (.ix (.var 1) (.int 1))) .nil)))) .nil)
def B_minus (c_frac : Nat) : Ss := (.cons (.ret (.call c_frac (.cons (.op .Sub (.op .Mult (.ix (.var 0) (.int 0)) (.ix (.var 1) (.int 1))) (.op .Mult (.ix (.var 1) (.int 0)) (.ix (.var 0) (.int 1)))) (.cons (.op .Mult (.ix (.var 0) (.int 1)) (.ix (.var 1) (.int 1))) .nil)))) .nil)
def B_times (c_frac : Nat) : Ss := (.cons (.ret (.call c_frac (.cons (.op .Mult (.ix (.var 0) (.int 0)) (.ix (.var 1) (.int 0))) (.cons (.op .Mult (.ix (.var 0) (.int 1)) (.ix (.var 1) (.int 1))) .nil)))) .nil)
def B_over (c_frac : Nat) : Ss := (.cons (.ret (.call c_frac (.cons (.op .Mult (.ix (.var 0) (.int 0)) (.ix (.var 1) (.int 1))) (.cons (.op .Mult (.ix (.var 0) (.int 1)) (.ix (.var 1) (.int 0))) .nil)))) .nil)
def B_sign_of : Ss := (.cons (.ret (.op .Sub (.cmp .Gt (.ix (.var 0) (.int 0)) (.int 0)) (.cmp .Lt (.ix (.var 0) (.int 0)) (.int 0)))) .nil)
def B_less : Ss := (.cons (.ret (.cmp .Lt (.op .Mult (.ix (.var 0) (.int 0)) (.ix (.var 1) (.int 1))) (.op .Mult (.ix (.var 1) (.int 0)) (.ix (.var 0) (.int 1))))) .nil)
def B_least (c_less : Nat) : Ss := (.cons (.ret (.ife (.call c_less (.cons (.var 0) (.cons (.var 1) .nil))) (.var 0) (.var 1))) .nil)
def B_most (c_less : Nat) : Ss := (.cons (.ret (.ife (.call c_less (.cons (.var 0) (.cons (.var 1) .nil))) (.var 1) (.var 0))) .nil)
def B_floor_of : Ss := (.cons (.ret (.op .FloorDiv (.ix (.var 0) (.int 0)) (.ix (.var 0) (.int 1)))) .nil)
def B_root_below : Ss := (.cons (.ifs (.cmp .Eq (.var 0) (.int 0)) (.cons (.ret (.int 0)) .nil) .nil) (.cons (.asg 1 (.op .LShift (.int 1) (.op .FloorDiv (.op .Add (.me .bits (.var 0) .nil) (.int 1)) (.int 2)))) (.cons (.whl (.bl true) (.cons (.asg 2 (.op .FloorDiv (.op .Add (.var 1) (.op .FloorDiv (.var 0) (.var 1))) (.int 2))) (.cons (.ifs (.cmp .GtE (.var 2) (.var 1)) (.cons (.ret (.var 1)) .nil) .nil) (.cons (.asg 1 (.var 2)) .nil)))) .nil)))
def B_exact_root (c_root_below : Nat) : Ss := (.cons (.ifs (.cmp .Lt (.ix (.var 0) (.int 0)) (.int 0)) (.cons (.ret .non) .nil) .nil) (.cons (.par 1 2 (.call c_root_below (.cons (.ix (.var 0) (.int 0)) .nil)) (.call c_root_below (.cons (.ix (.var 0) (.int 1)) .nil))) (.cons (.ret (.ife (.and (.cmp .Eq (.op .Mult (.var 1) (.var 1)) (.ix (.var 0) (.int 0))) (.cmp .Eq (.op .Mult (.var 2) (.var 2)) (.ix (.var 0) (.int 1)))) (.tup (.cons (.var 1) (.cons (.var 2) .nil))) .non)) .nil)))
def B_root_above (c_root_below : Nat) (c_frac : Nat) : Ss := (.cons (.asg 2 (.op .Mult (.op .Mult (.ix (.var 0) (.int 0)) (.var 1)) (.var 1))) (.cons (.asg 3 (.call c_root_below (.cons (.op .FloorDiv (.var 2) (.ix (.var 0) (.int 1))) .nil))) (.cons (.whl (.cmp .Lt (.op .Mult (.op .Mult (.var 3) (.var 3)) (.ix (.var 0) (.int 1))) (.var 2)) (.cons (.aug 3 .Add (.int 1)) .nil)) (.cons (.ret (.call c_frac (.cons (.var 3) (.cons (.var 1) .nil)))) .nil))))
def B_text_of : Ss := (.cons (.ret (.op .Add (.bi .str (.cons (.ix (.var 0) (.int 0)) .nil)) (.ife (.cmp .Gt (.ix (.var 0) (.int 1)) (.int 1)) (.op .Add (.str "/") (.bi .str (.cons (.ix (.var 0) (.int 1)) .nil))) (.str "")))) .nil)
def B_figures_in : Ss := (.cons (.ifs (.or (.cmp .Eq (.var 0) (.str "")) (.not (.bi .all (.cons (.lc (.cmp .In (.var 1) (.str "0123456789")) (.nm 1) (.seq (.var 0)) .none) .nil)))) (.cons (.ret .non) .nil) .nil) (.cons (.ret (.ife (.or (.cmp .Eq (.var 0) (.str "0")) (.cmp .NotEq (.ix (.var 0) (.int 0)) (.str "0"))) (.bi .int (.cons (.var 0) .nil)) .non)) .nil))
def B_frac_in (c_figures_in : Nat) (c_frac : Nat) (c_text_of : Nat) : Ss := (.cons (.asgT [4, 5, 6] (.me .partition (.var 0) (.cons (.str "/") .nil))) (.cons (.asg 1 (.call c_figures_in (.cons (.ife (.cmp .Eq (.sl (.var 4) .none (.some (.int 1))) (.str "-")) (.sl (.var 4) (.some (.int 1)) .none) (.var 4)) .nil))) (.cons (.asg 2 (.ife (.cmp .NotEq (.var 5) (.str "")) (.call c_figures_in (.cons (.var 6) .nil)) (.int 1))) (.cons (.ifs (.or (.cmp .Is (.var 1) .non) (.cmp .In (.var 2) (.tup (.cons .non (.cons (.int 0) .nil))))) (.cons (.ret .non) .nil) .nil) (.cons (.asg 3 (.call c_frac (.cons (.ife (.cmp .Eq (.sl (.var 4) .none (.some (.int 1))) (.str "-")) (.neg (.var 1)) (.var 1)) (.cons (.var 2) .nil)))) (.cons (.ret (.ife (.cmp .Eq (.call c_text_of (.cons (.var 3) .nil)) (.var 0)) (.var 3) .non)) .nil))))))
def B_mean (c_over : Nat) (c_plus : Nat) : Ss := (.cons (.ret (.call c_over (.cons (.call c_plus (.cons (.var 0) (.cons (.var 1) .nil))) (.cons (.tup (.cons (.int 2) (.cons (.int 1) .nil))) .nil)))) .nil)
def B_sum_of (c_plus : Nat) : Ss := (.cons (.asg 1 (.tup (.cons (.int 0) (.cons (.int 1) .nil)))) (.cons (.for_ (.nm 2) (.seq (.var 0)) (.cons (.asg 1 (.call c_plus (.cons (.var 1) (.cons (.var 2) .nil)))) .nil)) (.cons (.ret (.var 1)) .nil)))
def B__law_draws : Ss := (.cons (.own 2) (.cons (.asg 3 (.int 7)) (.cons (.for_ (.nm 4) (.rng1 (.bi .len (.cons (.var 0) .nil))) (.cons (.asg 5 (.bi .abs (.cons (.bi .int (.cons (.ix (.var 0) (.var 4)) .nil)) .nil))) (.cons (.asg 3 (.op .Mod (.bi .int (.cons (.op .Add (.op .Add (.op .Mult (.var 3) (.int 48271)) (.op .Mod (.var 5) (.int 1000003))) (.var 4)) .nil)) (.int 65537))) (.cons (.asg 6 (.int 0)) (.cons (.ifs (.cmp .GtE (.var 5) (.op .Pow (.int 10) (.int 18))) (.cons (.asg 6 (.var 5)) .nil) (.cons (.app 2 (.op .Mod (.bi .int (.cons (.var 5) .nil)) (.int 997))) (.cons (.app 2 (.op .Mod (.op .Mod (.bi .int (.cons (.op .Add (.op .Mult (.var 3) (.int 69621)) (.int 5)) .nil)) (.int 65521)) (.int 997))) .nil))) (.cons (.for_ (.nm 7) (.rng1 (.int 60)) (.cons (.ifs (.cmp .Gt (.var 6) (.int 0)) (.cons (.app 2 (.op .Mod (.bi .int (.cons (.var 6) .nil)) (.int 997))) (.cons (.asg 6 (.op .FloorDiv (.var 6) (.int 997))) .nil)) .nil) .nil)) .nil)))))) (.cons (.for_ (.nm 4) (.rng1 (.var 1)) (.cons (.asg 3 (.op .Mod (.bi .int (.cons (.op .Add (.op .Add (.op .Mult (.var 3) (.int 16807)) (.var 4)) (.int 1)) .nil)) (.int 65537))) (.cons (.app 2 (.op .Mod (.bi .int (.cons (.var 3) .nil)) (.int 997))) .nil))) (.cons (.ret (.sl (.var 2) .none (.some (.var 1)))) .nil)))))
def B__law_next : Ss := (.cons (.daug (.var 0) (.str "at") .Add (.int 1)) (.cons (.ifs (.cmp .Gt (.ix (.var 0) (.str "at")) (.bi .len (.cons (.ix (.var 0) (.str "draws")) .nil))) (.cons (.ret (.int 0)) .nil) .nil) (.cons (.ret (.op .Mod (.bi .int (.cons (.ix (.ix (.var 0) (.str "draws")) (.op .Sub (.ix (.var 0) (.str "at")) (.int 1))) .nil)) (.var 1))) .nil)))
def B__law_alike (c__law_alike : Nat) : Ss := (.cons (.ifs (.isi (.var 1) .tuple) (.cons (.ifs (.or (.not (.isi (.var 0) .tuple)) (.cmp .NotEq (.bi .len (.cons (.var 0) .nil)) (.bi .len (.cons (.var 1) .nil)))) (.cons (.ret (.bl false)) .nil) .nil) (.cons (.ret (.cmp .Eq (.lc (.var 2) (.nm 2) (.rng1 (.bi .len (.cons (.var 1) .nil))) (.some (.not (.call c__law_alike (.cons (.ix (.var 0) (.var 2)) (.cons (.ix (.var 1) (.var 2)) .nil)))))) (.lst .nil))) .nil)) .nil) (.cons (.ifs (.cmp .Is (.var 1) .non) (.cons (.ret (.cmp .Is (.var 0) .non)) .nil) .nil) (.cons (.ifs (.isi (.var 1) .bool) (.cons (.ret (.and (.isi (.var 0) .bool) (.cmp .Eq (.var 0) (.var 1)))) .nil) .nil) (.cons (.ifs (.isi (.var 1) .int) (.cons (.ret (.and (.isi (.var 0) .int) (.and (.not (.isi (.var 0) .bool)) (.cmp .Eq (.var 0) (.var 1))))) .nil) .nil) (.cons (.ret (.and (.isi (.var 0) .str) (.cmp .Eq (.var 0) (.var 1)))) .nil)))))
def B__law_gcd : Ss := (.cons (.whl (.cmp .NotEq (.var 1) (.int 0)) (.cons (.par 0 1 (.var 1) (.op .Sub (.var 0) (.op .Mult (.op .FloorDiv (.var 0) (.var 1)) (.var 1)))) .nil)) (.cons (.ret (.bi .abs (.cons (.var 0) .nil))) .nil))
def B__law_fr (c__law_gcd : Nat) : Ss := (.cons (.asg 2 (.ife (.cmp .Gt (.var 1) (.int 0)) (.call c__law_gcd (.cons (.var 0) (.cons (.var 1) .nil))) (.op .Sub (.int 0) (.call c__law_gcd (.cons (.var 0) (.cons (.var 1) .nil)))))) (.cons (.ret (.tup (.cons (.op .FloorDiv (.var 0) (.var 2)) (.cons (.op .FloorDiv (.var 1) (.var 2)) .nil)))) .nil))
def B__law_add (c__law_fr : Nat) : Ss := (.cons (.ret (.call c__law_fr (.cons (.op .Add (.op .Mult (.ix (.var 0) (.int 0)) (.ix (.var 1) (.int 1))) (.op .Mult (.ix (.var 1) (.int 0)) (.ix (.var 0) (.int 1)))) (.cons (.op .Mult (.ix (.var 0) (.int 1)) (.ix (.var 1) (.int 1))) .nil)))) .nil)
def B__law_sub (c__law_fr : Nat) : Ss := (.cons (.ret (.call c__law_fr (.cons (.op .Sub (.op .Mult (.ix (.var 0) (.int 0)) (.ix (.var 1) (.int 1))) (.op .Mult (.ix (.var 1) (.int 0)) (.ix (.var 0) (.int 1)))) (.cons (.op .Mult (.ix (.var 0) (.int 1)) (.ix (.var 1) (.int 1))) .nil)))) .nil)
def B__law_mul (c__law_fr : Nat) : Ss := (.cons (.ret (.call c__law_fr (.cons (.op .Mult (.ix (.var 0) (.int 0)) (.ix (.var 1) (.int 0))) (.cons (.op .Mult (.ix (.var 0) (.int 1)) (.ix (.var 1) (.int 1))) .nil)))) .nil)
def B__law_div (c__law_fr : Nat) : Ss := (.cons (.ret (.call c__law_fr (.cons (.op .Mult (.ix (.var 0) (.int 0)) (.ix (.var 1) (.int 1))) (.cons (.op .Mult (.ix (.var 0) (.int 1)) (.ix (.var 1) (.int 0))) .nil)))) .nil)
def B__law_sgn : Ss := (.cons (.ret (.ife (.cmp .Gt (.ix (.var 0) (.int 0)) (.int 0)) (.int 1) (.ife (.cmp .Lt (.ix (.var 0) (.int 0)) (.int 0)) (.neg (.int 1)) (.int 0)))) .nil)
end FM

set_option Elab.async false
set_option linter.all false
set_option maxRecDepth 100000
set_option maxHeartbeats 4000000
/-! L1: what the library's defs compute, each once, whatever numbers its callees have. -/
namespace FM
open PySem (Str sizeLine)
open L2 (atI ixN)
open PySem.Spec PyProof.Rows
theorem call_at {l : List FD} {W n f : Nat} {d : FD} (h : l[f]? = some d) (ds : List D) (μ : Cells) : call (tabOf l) W (n + 1) f ds μ = runFn (call (tabOf l) W n) W d.fn ds μ := by
  show (match tabOf l f with | some fn => runFn (call (tabOf l) W n) W fn ds μ | none => none) = _
  unfold tabOf
  rw [h]
  rfl
theorem andThen_some' {α β : Type} (a : α) (μ : Cells) (f : α → Cells → Option β) : andThen (some (a, μ)) f = f a μ := rfl
theorem andThen_none' {α β : Type} (f : α → Cells → Option β) : andThen (none : Rs α) f = none := rfl
theorem onBl_bl {β : Type} (b : Bool) (μ : Cells) (f : Bool → Cells → Option β) : onBl (some (.bl b, μ)) f = f b μ := rfl
theorem wthD_some' (d : D) (μ : Cells) : wthD (some d) μ = some (d, μ) := rfl
theorem eqD_int (i j : Int) : eqD (.int i) (.int j) = some (decide (i = j)) := by
  show some (i == j) = _
  rw [Bool.beq_eq_decide_eq]
theorem ix_tup (μ : Cells) (l : List D) (i : Int) : ixD μ (.tup l) (.int i) = atI l i := rfl
theorem ix_lst (μ : Cells) (l : List D) (i : Int) : ixD μ (.lst l) (.int i) = atI l i := rfl
theorem atI_0 {α : Type} (x : α) (l : List α) : atI (x :: l) 0 = some x := by
  unfold atI ixN
  simp
theorem atI_1 {α : Type} (x y : α) (l : List α) : atI (x :: y :: l) 1 = some y := by
  unfold atI ixN
  simp
  rw [if_pos (by omega)]
  rfl
theorem atI_2 {α : Type} (x y z : α) (l : List α) : atI (x :: y :: z :: l) 2 = some z := by
  unfold atI ixN
  simp
  rw [if_pos (by omega)]
  rfl
/-! ### sizes -/
def Sm (k : Nat) (i : Int) : Prop := i.natAbs < 2 ^ k
theorem Sm.mono {j k : Nat} {i : Int} (h : Sm j i) (l : j ≤ k) : Sm k i := Nat.lt_of_lt_of_le h (Nat.pow_le_pow_right (by decide) l)
theorem Sm.mul {j k : Nat} {a b : Int} (h : Sm j a) (g : Sm k b) : Sm (j + k) (a * b) := by
  unfold Sm at *
  rw [Int.natAbs_mul, Nat.pow_add]
  exact Nat.mul_lt_mul'' h g
theorem Sm.neg {k : Nat} {a : Int} (h : Sm k a) : Sm k (-a) := by
  unfold Sm at *
  rwa [Int.natAbs_neg]
theorem Sm.add {k : Nat} {a b : Int} (h : Sm k a) (g : Sm k b) : Sm (k + 1) (a + b) := by
  unfold Sm at *
  have := Int.natAbs_add_le a b
  rw [Nat.pow_succ]
  omega
theorem Sm.sub {k : Nat} {a b : Int} (h : Sm k a) (g : Sm k b) : Sm (k + 1) (a - b) := by
  rw [Int.sub_eq_add_neg]
  exact h.add g.neg
theorem log2_le' {n k : Nat} (h : n < 2 ^ k) : n.log2 ≤ k := by
  by_cases z : n = 0
  · subst z
    exact Nat.zero_le _
  · exact Nat.le_of_lt ((Nat.log2_lt z).mpr h)
theorem Sm.log {k : Nat} {a : Int} (h : Sm k a) : a.natAbs.log2 ≤ k := log2_le' h
theorem mulOk_sm {j k : Nat} {a b : Int} (h : Sm j a) (g : Sm k b) (l : j + k < 1000000) : mulOk a b = true := by
  unfold mulOk
  have := h.log
  have := g.log
  exact decide_eq_true (by omega)
theorem opD_of {o : PySem.Operator} {x y z : D} (h : opA o x y = some z) : opD o x y = some z := by
  unfold opD
  rw [h]
theorem op_mul {j k : Nat} {a b : Int} (h : Sm j a) (g : Sm k b) (l : j + k < 1000000) : opD .Mult (.int a) (.int b) = some (.int (a * b)) := by
  refine opD_of ?_
  show (if mulOk a b then _ else _) = _
  rw [mulOk_sm h g l]
  rfl
theorem op_mulB (B : Nat) {a b : Int} (h : Sm B a) (g : Sm B b) (l : B + B < 1000000) : opD .Mult (.int a) (.int b) = some (.int (a * b)) := op_mul h g l
theorem op_add (i j : Int) : opD .Add (.int i) (.int j) = some (.int (i + j)) := rfl
theorem op_sub (i j : Int) : opD .Sub (.int i) (.int j) = some (.int (i - j)) := rfl
theorem op_subBl (i j : Bool) : opD .Sub (.bl i) (.bl j) = some (.int (PyProof.Rows.b2i i - PyProof.Rows.b2i j)) := rfl
theorem op_mod (i : Int) {j : Int} (h : j ≠ 0) : opD .Mod (.int i) (.int j) = some (.int (i.fmod j)) := by
  refine opD_of ?_
  show (if j = 0 then none else _) = _
  rw [if_neg h]
/-- a divisor that is allowed -/
def Dv (j : Int) : Prop := (j ≠ 0 ∧ j.natAbs < 1073741824) ∨ (0 < j ∧ j.natAbs.log2 < 9000)
theorem op_div (i : Int) {j : Int} (h : Dv j) : opD .FloorDiv (.int i) (.int j) = some (.int (i.fdiv j)) := by
  refine opD_of ?_
  show (if divOk i j then _ else _) = _
  have : divOk i j = true := by
    unfold divOk
    rw [Bool.or_eq_true, decide_eq_true_eq, decide_eq_true_eq]
    exact h
  rw [this]
  rfl
theorem Dv.pos {k : Nat} {j : Int} (h : 0 < j) (g : Sm k j) (l : k < 9000) : Dv j := .inr ⟨h, by have := g.log; omega⟩
theorem biD_abs (μ : Cells) (i : Int) : biD μ .abs [.int i] = some (.int (i.natAbs : Int)) := by
  show some (D.int (if i < 0 then -i else i)) = _
  congr 2
  split <;> omega
theorem sizeLine_ge : 16777216 ≤ sizeLine := by decide
theorem szle {n : Nat} (h : n ≤ 1000) : n ≤ sizeLine := Nat.le_trans h (by decide)
local macro_rules | `(tactic| walk_at "go") => `(tactic| simp [FM.runFn, FM.FD.fn, FM.execs, FM.exec, FM.ev, FM.evs, FM.evo, FM.evc, FM.evi, FM.lk, FM.lks, FM.It.lk, FM.isOw, FM.noOw, FM.Sl.isOw, FM.Sl.d, FM.isiD, FM.cmpD, FM.negD, FM.setAll, FM.bindT, FM.andThen_some', FM.onBl_bl, FM.wthD_some', FM.eqD_int, FM.ix_tup, FM.ix_lst, FM.atI_0, FM.atI_1, FM.atI_2, FM.op_add, FM.op_sub, FM.op_subBl, FM.biD_abs, FM.szle])
/-- the fuel of the loops -/
def W : Nat := 2 ^ 4100
section
variable {F : Fs}
/-! ### gcd -/
theorem fmod_abs (a : Int) {b : Int} (h : b ≠ 0) : (a.fmod b).natAbs < b.natAbs := by
  rcases Int.lt_or_gt_of_ne h with h | h
  · have h1 := Int.fmod_nonneg_of_pos (-a) (b := -b) (by omega)
    have h2 := Int.fmod_lt_of_pos (-a) (b := -b) (by omega)
    rw [Int.neg_fmod_neg] at h1 h2
    omega
  · have h1 := Int.fmod_nonneg_of_pos a h
    have h2 := Int.fmod_lt_of_pos a h
    omega
theorem gcd_fmod (a b : Int) : Int.gcd b (a.fmod b) = Int.gcd a b := by
  rw [Int.fmod_def, Int.gcd_comm a b, Int.sub_eq_add_neg, ← Int.mul_neg, Int.gcd_add_mul_left_right]
theorem gcd_loop (P : Int → Int → Prop) (c : Env → Cells → Option (Bool × Cells)) (b : Env → Cells → Option Res) (μ : Cells)
    (hc : ∀ i j : Int, c [some (.pl (.int i)), some (.pl (.int j))] μ = some (decide (j ≠ 0), μ))
    (hP : ∀ i j : Int, P i j → j ≠ 0 → P j (i.fmod j))
    (hb : ∀ i j : Int, P i j → j ≠ 0 → b [some (.pl (.int i)), some (.pl (.int j))] μ = some (.nx [some (.pl (.int j)), some (.pl (.int (i.fmod j)))] μ)) :
    ∀ (n : Nat) (i j : Int), P i j → j.natAbs < n → ∃ g : Int, whileF c b n [some (.pl (.int i)), some (.pl (.int j))] μ = some (.nx [some (.pl (.int g)), some (.pl (.int 0))] μ) ∧ g.natAbs = Int.gcd i j
  | 0, i, j, p, h => by omega
  | n + 1, i, j, p, h => by
    unfold whileF
    rw [hc]
    by_cases z : j = 0
    · subst z
      exact ⟨i, by simp, by simp⟩
    · have h2 := fmod_abs i z
      obtain ⟨g, h3, h4⟩ := gcd_loop P c b μ hc hP hb n j (i.fmod j) (hP i j p z) (by omega)
      refine ⟨g, ?_, ?_⟩
      · simp only [ne_eq, z, not_false_eq_true, decide_true, hb i j p z]
        exact h3
      · rw [h4, gcd_fmod]
theorem smW {j : Int} (h : Sm 4000 j) : j.natAbs < W := Nat.lt_of_lt_of_le h (Nat.pow_le_pow_right (by decide) (by decide))
theorem run_rt {fn : Fn} {ds : List D} {μ μ1 : Cells} {d : D} (h1 : ds.length = fn.ar) (h2 : fn.ar ≤ fn.sl) (h : execs F W fn.body (ds.map (fun d => some (.pl d)) ++ List.replicate (fn.sl - fn.ar) none) μ = some (.rt d μ1)) : runFn F W fn ds μ = some (d, μ1) := by
  unfold runFn
  rw [if_pos ⟨h1, h2⟩, h]
theorem seq_nx {s : S} {ss : Ss} {ρ ρ1 : Env} {μ μ1 : Cells} {r : Option Res} (h : exec F W s ρ μ = some (.nx ρ1 μ1)) (k : execs F W ss ρ1 μ1 = r) : execs F W (.cons s ss) ρ μ = r := by
  unfold execs
  rw [h]
  exact k
theorem seq_rt {s : S} {ss : Ss} {ρ : Env} {μ μ1 : Cells} {d : D} (h : exec F W s ρ μ = some (.rt d μ1)) : execs F W (.cons s ss) ρ μ = some (.rt d μ1) := by
  unfold execs
  rw [h]
theorem whl_of {c : E} {b : Ss} {ρ : Env} {μ : Cells} {r : Option Res} (h : whileF (fun ρ' μ' => onBl (ev F c ρ' μ') fun x μ1 => some (x, μ1)) (fun ρ' μ' => execs F W b ρ' μ') W ρ μ = r) : exec F W (.whl c b) ρ μ = r := by
  unfold exec
  exact h
theorem for_of {tg : Tg} {it : It} {b : Ss} {ρ : Env} {μ μ1 : Cells} {xs : List D} {r : Option Res} (h1 : evi F it ρ μ = some (xs, μ1)) (h2 : it.lk ρ = false) (h : forF tg (fun ρ' μ' => execs F W b ρ' μ') xs ρ μ1 = r) : exec F W (.for_ tg it b) ρ μ = r := by
  unfold exec
  rw [h1]
  show (if it.lk ρ = true then none else _) = _
  rw [h2]
  exact h
theorem gcd_fin (P : Int → Int → Prop) {c : E} {b : Ss} {μ : Cells} (i j : Int) (p : P i j) (h : Sm 4000 j)
    (hc : ∀ i j : Int, onBl (ev F c [some (.pl (.int i)), some (.pl (.int j))] μ) (fun x μ1 => some (x, μ1)) = some (decide (j ≠ 0), μ))
    (hP : ∀ i j : Int, P i j → j ≠ 0 → P j (i.fmod j))
    (hb : ∀ i j : Int, P i j → j ≠ 0 → execs F W b [some (.pl (.int i)), some (.pl (.int j))] μ = some (.nx [some (.pl (.int j)), some (.pl (.int (i.fmod j)))] μ)) :
    runFn F W ⟨2, 2, .cons (.whl c b) (.cons (.ret (.bi .abs (.cons (.var 0) .nil))) .nil)⟩ [.int i, .int j] μ = some (.int (Int.gcd i j), μ) := by
  obtain ⟨g, h1, h2⟩ := gcd_loop P (fun ρ' μ' => onBl (ev F c ρ' μ') fun x μ1 => some (x, μ1)) (fun ρ' μ' => execs F W b ρ' μ') μ hc hP hb W i j p (smW h)
  refine run_rt rfl (Nat.le_refl 2) (seq_nx (whl_of h1) (seq_rt ?_))
  walk_at "go"
  exact congrArg Int.ofNat h2
theorem common_ok (i j : Int) (h : Sm 4000 j) (μ : Cells) : runFn F W ⟨2, 2, B_common⟩ [.int i, .int j] μ = some (.int (Int.gcd i j), μ) := by
  refine gcd_fin (fun _ _ => True) i j trivial h (fun i j => ?_) (fun _ _ _ _ => trivial) (fun i j _ hj => ?_)
  · walk_at "go"
  · walk_at "go"
    simp [op_mod i hj, andThen_some', wthD_some']
/-- what may be halved by turns -/
def Gp (i j : Int) : Prop := Sm 4000 i ∧ Sm 4000 j ∧ (0 ≤ j ∨ j.natAbs < 1073741824)
theorem Gp.next {i j : Int} (h : Gp i j) (z : j ≠ 0) : Gp j (i.fmod j) := by
  obtain ⟨h1, h2, h3⟩ := h
  have q := fmod_abs i z
  refine ⟨h2, Nat.lt_trans q h2, ?_⟩
  rcases h3 with h3 | h3
  · exact .inl (Int.fmod_nonneg_of_pos i (by omega))
  · exact .inr (by omega)
theorem Gp.dv {i j : Int} (h : Gp i j) (z : j ≠ 0) : Dv j := by
  obtain ⟨h1, h2, h3⟩ := h
  rcases h3 with h3 | h3
  · exact Dv.pos (by omega) h2 (by decide)
  · exact .inl ⟨z, h3⟩
theorem Sm.fdiv {k : Nat} {i : Int} (h : Sm k i) (j : Int) : Sm k (i.fdiv j) := Nat.lt_of_le_of_lt (Int.natAbs_fdiv_le_natAbs i j) h
theorem gcd_ok (i j : Int) (p : Gp i j) (μ : Cells) : runFn F W ⟨2, 2, B__law_gcd⟩ [.int i, .int j] μ = some (.int (Int.gcd i j), μ) := by
  refine gcd_fin Gp i j p p.2.1 (fun i j => ?_) (fun i j p z => p.next z) (fun i j p hj => ?_)
  · walk_at "go"
  · walk_at "go"
    simp [op_div i (p.dv hj), andThen_some', wthD_some', op_mul (p.1.fdiv j) p.2.1 (by decide), op_sub, Int.fmod_def, Int.mul_comm]
/-! ### fractions -/
/-- a denominator that may be given -/
def Dn (b : Int) : Prop := Sm 4000 b ∧ (0 < b ∨ (b ≠ 0 ∧ b.natAbs < 1073741824))
def gs (a b : Int) : Int := if 0 < b then (Int.gcd a b : Int) else -(Int.gcd a b : Int)
def fr (a b : Int) : Int × Int := (a.fdiv (gs a b), b.fdiv (gs a b))
abbrev fD (x : Int × Int) : D := .tup [.int x.1, .int x.2]
theorem Dn.ne {b : Int} (h : Dn b) : b ≠ 0 := by
  obtain ⟨_, h | h⟩ := h
  · omega
  · exact h.1
theorem gcd_pos (a : Int) {b : Int} (h : b ≠ 0) : 0 < Int.gcd a b := Int.gcd_pos_of_ne_zero_right a h
theorem gcd_le (a : Int) {b : Int} (h : b ≠ 0) : Int.gcd a b ≤ b.natAbs := Nat.gcd_le_right _ (by omega)
theorem Dn.gs (a : Int) {b : Int} (h : Dn b) : Dv (gs a b) := by
  have h1 := gcd_pos a h.ne
  have h2 := gcd_le a h.ne
  unfold FM.gs
  obtain ⟨h3, h4⟩ := h
  split
  · refine Dv.pos (k := 4000) (by omega) ?_ (by decide)
    exact Nat.lt_of_le_of_lt h2 h3
  · rcases h4 with h4 | h4
    · omega
    · exact .inl ⟨by omega, by omega⟩
def CommonC (F : Fs) (f : Nat) : Prop := ∀ (a b : Int) (μ : Cells), Sm 4000 b → F f [.int a, .int b] μ = some (.int (Int.gcd a b), μ)
def FracC (F : Fs) (f : Nat) : Prop := ∀ (a b : Int) (μ : Cells), Dn b → F f [.int a, .int b] μ = some (fD (fr a b), μ)
def LFracC (F : Fs) (f : Nat) : Prop := ∀ (a b : Int) (μ : Cells), Sm 4000 a → Dn b → F f [.int a, .int b] μ = some (fD (fr a b), μ)
theorem frac_ok {c : Nat} (hc : CommonC F c) (a b : Int) (μ : Cells) (h : Dn b) : runFn F W ⟨2, 3, B_frac c⟩ [.int a, .int b] μ = some (fD (fr a b), μ) := by
  have e : gs a b = if b < 0 then -(Int.gcd a b : Int) else (Int.gcd a b : Int) := by
    have := h.ne
    unfold gs
    split <;> split <;> omega
  have d := h.gs a
  refine run_rt rfl (Nat.le_of_ble_eq_true rfl) (seq_nx (ρ1 := [some (.pl (.int a)), some (.pl (.int b)), some (.pl (.int (Int.gcd a b)))]) (μ1 := μ) ?_ (seq_nx (ρ1 := [some (.pl (.int a)), some (.pl (.int b)), some (.pl (.int (gs a b)))]) (μ1 := μ) ?_ (seq_rt ?_)))
  · walk_at "go"
    simp [hc a b μ h.1, andThen_some']
  · rw [e]
    by_cases z : b < 0
    · walk_at "go"
      simp [z]
    · walk_at "go"
      simp [z]
  · walk_at "go"
    simp [op_div a d, op_div b d, andThen_some', wthD_some', fr, szle]
theorem law_fr_ok {c : Nat} (hc : ∀ (a b : Int) (μ : Cells), Gp a b → F c [.int a, .int b] μ = some (.int (Int.gcd a b), μ)) (a b : Int) (μ : Cells) (ha : Sm 4000 a) (h : Dn b) : runFn F W ⟨2, 3, B__law_fr c⟩ [.int a, .int b] μ = some (fD (fr a b), μ) := by
  have d := h.gs a
  have p : Gp a b := ⟨ha, h.1, h.2.elim (fun z => .inl (by omega)) fun z => .inr z.2⟩
  refine run_rt rfl (Nat.le_of_ble_eq_true rfl) (seq_nx (ρ1 := [some (.pl (.int a)), some (.pl (.int b)), some (.pl (.int (gs a b)))]) (μ1 := μ) ?_ (seq_rt ?_))
  · unfold gs
    by_cases z : 0 < b
    · walk_at "go"
      simp [z, hc a b μ p, andThen_some']
    · walk_at "go"
      simp [z, hc a b μ p, andThen_some', wthD_some', op_sub]
  · walk_at "go"
    simp [op_div a d, op_div b d, andThen_some', wthD_some', fr, szle]
end
end FM

set_option Elab.async false
set_option linter.all false
set_option maxRecDepth 100000
set_option maxHeartbeats 4000000
/-! M1: fractions in plain Lean; sums, products and the rest. -/
namespace FM
open PySem (Str sizeLine)
open L2 (atI ixN)
open PySem.Spec PyProof.Rows
theorem fr_mul {n d g : Int} (hg : g ≠ 0) (hd : 0 < d) (h : Int.gcd n d = 1) : fr (n * g) (d * g) = (n, d) := by
  have e : gs (n * g) (d * g) = g := by
    unfold gs
    rw [Int.gcd_mul_right, h, Nat.one_mul]
    rcases Int.lt_or_gt_of_ne hg with z | z
    · rw [if_neg (by have := Int.mul_neg_of_pos_of_neg hd z; omega)]
      omega
    · rw [if_pos (Int.mul_pos hd z)]
      omega
  unfold fr
  rw [e, Int.mul_fdiv_cancel _ hg, Int.mul_fdiv_cancel _ hg]
theorem gs_ne (a : Int) {b : Int} (hb : b ≠ 0) : gs a b ≠ 0 := by
  have := gcd_pos a hb
  unfold gs
  split <;> omega
theorem gs_dvd_l (a b : Int) : gs a b ∣ a := by
  unfold gs
  split
  · exact Int.gcd_dvd_left a b
  · exact Int.neg_dvd.mpr (Int.gcd_dvd_left a b)
theorem gs_dvd_r (a b : Int) : gs a b ∣ b := by
  unfold gs
  split
  · exact Int.gcd_dvd_right a b
  · exact Int.neg_dvd.mpr (Int.gcd_dvd_right a b)
theorem fr_spec (a : Int) {b : Int} (hb : b ≠ 0) : a = (fr a b).1 * gs a b ∧ b = (fr a b).2 * gs a b ∧ 0 < (fr a b).2 ∧ Int.gcd (fr a b).1 (fr a b).2 = 1 := by
  have g0 := gs_ne a hb
  have h1 : a = (fr a b).1 * gs a b := (Int.fdiv_mul_cancel (gs_dvd_l a b)).symm
  have h2 : b = (fr a b).2 * gs a b := (Int.fdiv_mul_cancel (gs_dvd_r a b)).symm
  refine ⟨h1, h2, ?_, ?_⟩
  · by_cases z : 0 < b
    · have gp : 0 < gs a b := by
        have := gcd_pos a hb
        unfold gs
        rw [if_pos z]
        omega
      rw [h2] at z
      exact Int.pos_of_mul_pos_left z (by omega) |> fun h => h
    · have gn : gs a b < 0 := by
        have := gcd_pos a hb
        unfold gs
        rw [if_neg z]
        omega
      have z2 : b < 0 := by omega
      generalize (fr a b).2 = q at *
      generalize gs a b = g at *
      by_cases c : 0 < q
      · exact c
      · have := Int.mul_nonneg_of_nonpos_of_nonpos (a := q) (b := g) (by omega) (by omega)
        omega
  · have e : Int.gcd a b = Int.gcd (fr a b).1 (fr a b).2 * (gs a b).natAbs := by
      rw [← Int.gcd_mul_right, ← h1, ← h2]
    have e2 : (gs a b).natAbs = Int.gcd a b := by
      unfold gs
      split <;> omega
    rw [e2] at e
    have p := gcd_pos a hb
    have : 1 * Int.gcd a b = Int.gcd (fr a b).1 (fr a b).2 * Int.gcd a b := by omega
    exact (Nat.eq_of_mul_eq_mul_right p this).symm
/-- a fraction that is written as it should be, not too long -/
def Fq (k : Nat) (x : Int × Int) : Prop := Sm k x.1 ∧ Sm k x.2 ∧ 0 < x.2 ∧ Int.gcd x.1 x.2 = 1
theorem fr_fq {k : Nat} {a b : Int} (ha : Sm k a) (hb : Sm k b) (z : b ≠ 0) : Fq k (fr a b) := by
  obtain ⟨h1, h2, h3, h4⟩ := fr_spec a z
  exact ⟨ha.fdiv _, hb.fdiv _, h3, h4⟩
theorem Fq.mono {j k : Nat} {x : Int × Int} (h : Fq j x) (l : j ≤ k) : Fq k x := ⟨h.1.mono l, h.2.1.mono l, h.2.2⟩
theorem Fq.fr {k : Nat} {x : Int × Int} (h : Fq k x) : fr x.1 x.2 = x := by
  have := fr_mul (g := 1) (by decide) h.2.2.1 h.2.2.2
  simpa using this
theorem fr_neg (a b : Int) (hb : b ≠ 0) : fr a (-b) = fr (-a) b := by
  obtain ⟨h1, h2, h3, h4⟩ := fr_spec (-a) hb
  have g0 := gs_ne (-a) hb
  have e1 : a = (fr (-a) b).1 * (-gs (-a) b) := by rw [Int.mul_neg]; omega
  have e2 : -b = (fr (-a) b).2 * (-gs (-a) b) := by rw [Int.mul_neg]; omega
  have z := fr_mul (g := -gs (-a) b) (by omega) h3 h4
  rw [← e1, ← e2] at z
  exact z
def addF (x y : Int × Int) : Int × Int := fr (x.1 * y.2 + y.1 * x.2) (x.2 * y.2)
def subF (x y : Int × Int) : Int × Int := fr (x.1 * y.2 - y.1 * x.2) (x.2 * y.2)
def mulF (x y : Int × Int) : Int × Int := fr (x.1 * y.1) (x.2 * y.2)
def divF (x y : Int × Int) : Int × Int := fr (x.1 * y.2) (x.2 * y.1)
theorem Fq.add {j k : Nat} {x y : Int × Int} (hx : Fq j x) (hy : Fq k y) : Fq (j + k + 1) (addF x y) := by
  refine fr_fq ?_ ((hx.2.1.mul hy.2.1).mono (by omega)) ?_
  · have h := (hx.1.mul hy.2.1).add (Sm.mono (hy.1.mul hx.2.1) (by omega))
    exact h
  · have := Int.mul_pos hx.2.2.1 hy.2.2.1
    omega
theorem Fq.sub {j k : Nat} {x y : Int × Int} (hx : Fq j x) (hy : Fq k y) : Fq (j + k + 1) (subF x y) := by
  refine fr_fq ?_ ((hx.2.1.mul hy.2.1).mono (by omega)) ?_
  · have h := (hx.1.mul hy.2.1).sub (Sm.mono (hy.1.mul hx.2.1) (by omega))
    exact h
  · have := Int.mul_pos hx.2.2.1 hy.2.2.1
    omega
theorem Fq.mul {j k : Nat} {x y : Int × Int} (hx : Fq j x) (hy : Fq k y) : Fq (j + k) (mulF x y) := by
  refine fr_fq (hx.1.mul hy.1) (hx.2.1.mul hy.2.1) ?_
  have := Int.mul_pos hx.2.2.1 hy.2.2.1
  omega
theorem addF_zero {k : Nat} {x : Int × Int} (h : Fq k x) : addF (0, 1) x = x := by
  unfold addF
  simpa using h.fr
theorem mulF_comm (x y : Int × Int) : mulF x y = mulF y x := by
  unfold mulF
  rw [Int.mul_comm x.1, Int.mul_comm x.2]
/-! ### the walks -/
section
variable {F : Fs} {j k : Nat}
local macro_rules | `(tactic| walk_at "go") => `(tactic| simp [FM.runFn, FM.FD.fn, FM.execs, FM.exec, FM.ev, FM.evs, FM.evo, FM.evc, FM.evi, FM.lk, FM.lks, FM.It.lk, FM.isOw, FM.noOw, FM.Sl.isOw, FM.Sl.d, FM.isiD, FM.cmpD, FM.negD, FM.setAll, FM.bindT, FM.andThen_some', FM.onBl_bl, FM.wthD_some', FM.eqD_int, FM.ix_tup, FM.ix_lst, FM.atI_0, FM.atI_1, FM.atI_2, FM.op_add, FM.op_sub, FM.op_subBl, FM.biD_abs, FM.szle])
theorem dn_mul {x y : Int} (hx : Sm 1800 x) (hy : Sm 1800 y) (px : 0 < x) (py : 0 < y) : Dn (x * y) := ⟨(hx.mul hy).mono (by decide), .inl (Int.mul_pos px py)⟩
section
variable {x y : Int × Int} {f : Nat} (hx : Fq 1800 x) (hy : Fq 1800 y) (μ : Cells)
include hx hy
theorem plus_ok (hf : FracC F f) : runFn F W ⟨2, 2, B_plus f⟩ [fD x, fD y] μ = some (fD (addF x y), μ) := by
  refine run_rt rfl (Nat.le_of_ble_eq_true rfl) (seq_rt ?_)
  walk_at "go"
  simp [op_mulB 1800 hx.1 hy.2.1, op_mulB 1800 hy.1 hx.2.1, op_mulB 1800 hx.2.1 hy.2.1, op_add, hf _ _ μ (dn_mul hx.2.1 hy.2.1 hx.2.2.1 hy.2.2.1), wthD_some', andThen_some', addF]
theorem minus_ok (hf : FracC F f) : runFn F W ⟨2, 2, B_minus f⟩ [fD x, fD y] μ = some (fD (subF x y), μ) := by
  refine run_rt rfl (Nat.le_of_ble_eq_true rfl) (seq_rt ?_)
  walk_at "go"
  simp [op_mulB 1800 hx.1 hy.2.1, op_mulB 1800 hy.1 hx.2.1, op_mulB 1800 hx.2.1 hy.2.1, op_sub, hf _ _ μ (dn_mul hx.2.1 hy.2.1 hx.2.2.1 hy.2.2.1), wthD_some', andThen_some', subF]
theorem times_ok (hf : FracC F f) : runFn F W ⟨2, 2, B_times f⟩ [fD x, fD y] μ = some (fD (mulF x y), μ) := by
  refine run_rt rfl (Nat.le_of_ble_eq_true rfl) (seq_rt ?_)
  walk_at "go"
  simp [op_mulB 1800 hx.1 hy.1, op_mulB 1800 hx.2.1 hy.2.1, hf _ _ μ (dn_mul hx.2.1 hy.2.1 hx.2.2.1 hy.2.2.1), wthD_some', andThen_some', mulF]
theorem over_ok (hf : FracC F f) (hd : Dn (x.2 * y.1)) : runFn F W ⟨2, 2, B_over f⟩ [fD x, fD y] μ = some (fD (divF x y), μ) := by
  refine run_rt rfl (Nat.le_of_ble_eq_true rfl) (seq_rt ?_)
  walk_at "go"
  simp [op_mulB 1800 hx.1 hy.2.1, op_mulB 1800 hx.2.1 hy.1, hf _ _ μ hd, wthD_some', andThen_some', divF]
theorem law_add_ok (hf : LFracC F f) : runFn F W ⟨2, 2, B__law_add f⟩ [fD x, fD y] μ = some (fD (addF x y), μ) := by
  refine run_rt rfl (Nat.le_of_ble_eq_true rfl) (seq_rt ?_)
  walk_at "go"
  have b : Sm 4000 (x.1 * y.2 + y.1 * x.2) := ((hx.1.mul hy.2.1).add (hy.1.mul hx.2.1)).mono (by decide)
  simp [op_mulB 1800 hx.1 hy.2.1, op_mulB 1800 hy.1 hx.2.1, op_mulB 1800 hx.2.1 hy.2.1, op_add, hf _ _ μ b (dn_mul hx.2.1 hy.2.1 hx.2.2.1 hy.2.2.1), wthD_some', andThen_some', addF]
theorem law_sub_ok (hf : LFracC F f) : runFn F W ⟨2, 2, B__law_sub f⟩ [fD x, fD y] μ = some (fD (subF x y), μ) := by
  refine run_rt rfl (Nat.le_of_ble_eq_true rfl) (seq_rt ?_)
  walk_at "go"
  have b : Sm 4000 (x.1 * y.2 - y.1 * x.2) := ((hx.1.mul hy.2.1).sub (hy.1.mul hx.2.1)).mono (by decide)
  simp [op_mulB 1800 hx.1 hy.2.1, op_mulB 1800 hy.1 hx.2.1, op_mulB 1800 hx.2.1 hy.2.1, op_sub, hf _ _ μ b (dn_mul hx.2.1 hy.2.1 hx.2.2.1 hy.2.2.1), wthD_some', andThen_some', subF]
theorem law_mul_ok (hf : LFracC F f) : runFn F W ⟨2, 2, B__law_mul f⟩ [fD x, fD y] μ = some (fD (mulF x y), μ) := by
  refine run_rt rfl (Nat.le_of_ble_eq_true rfl) (seq_rt ?_)
  walk_at "go"
  have b : Sm 4000 (x.1 * y.1) := (hx.1.mul hy.1).mono (by decide)
  simp [op_mulB 1800 hx.1 hy.1, op_mulB 1800 hx.2.1 hy.2.1, hf _ _ μ b (dn_mul hx.2.1 hy.2.1 hx.2.2.1 hy.2.2.1), wthD_some', andThen_some', mulF]
theorem law_div_ok (hf : LFracC F f) (hd : Dn (x.2 * y.1)) : runFn F W ⟨2, 2, B__law_div f⟩ [fD x, fD y] μ = some (fD (divF x y), μ) := by
  refine run_rt rfl (Nat.le_of_ble_eq_true rfl) (seq_rt ?_)
  walk_at "go"
  have b : Sm 4000 (x.1 * y.2) := (hx.1.mul hy.2.1).mono (by decide)
  simp [op_mulB 1800 hx.1 hy.2.1, op_mulB 1800 hx.2.1 hy.1, hf _ _ μ b hd, wthD_some', andThen_some', divF]
theorem less_ok : runFn F W ⟨2, 2, B_less⟩ [fD x, fD y] μ = some (.bl (decide (x.1 * y.2 < y.1 * x.2)), μ) := by
  refine run_rt rfl (Nat.le_of_ble_eq_true rfl) (seq_rt ?_)
  walk_at "go"
  simp [op_mulB 1800 hx.1 hy.2.1, op_mulB 1800 hy.1 hx.2.1, cmpD, wthD_some', andThen_some']
def lessF (x y : Int × Int) : Bool := decide (x.1 * y.2 < y.1 * x.2)
theorem least_ok (hf : F f [fD x, fD y] μ = some (.bl (lessF x y), μ)) : runFn F W ⟨2, 2, B_least f⟩ [fD x, fD y] μ = some (fD (if lessF x y then x else y), μ) := by
  refine run_rt rfl (Nat.le_of_ble_eq_true rfl) (seq_rt ?_)
  walk_at "go"
  simp [hf]
  cases lessF x y <;> simp [andThen_some', onBl_bl]
theorem most_ok (hf : F f [fD x, fD y] μ = some (.bl (lessF x y), μ)) : runFn F W ⟨2, 2, B_most f⟩ [fD x, fD y] μ = some (fD (if lessF x y then y else x), μ) := by
  refine run_rt rfl (Nat.le_of_ble_eq_true rfl) (seq_rt ?_)
  walk_at "go"
  simp [hf]
  cases lessF x y <;> simp [andThen_some', onBl_bl]
omit hx hy in
theorem mean_ok {g : Nat} {z : Int × Int} (hf : F f [fD x, fD y] μ = some (fD (addF x y), μ)) (hg : F g [fD (addF x y), fD (2, 1)] μ = some (fD z, μ)) : runFn F W ⟨2, 2, B_mean g f⟩ [fD x, fD y] μ = some (fD z, μ) := by
  refine run_rt rfl (Nat.le_of_ble_eq_true rfl) (seq_rt ?_)
  walk_at "go"
  simp [hf, hg, andThen_some', wthD_some', szle]
end
def sgI (n : Int) : Int := if 0 < n then 1 else if n < 0 then -1 else 0
theorem sign_of_ok (x : Int × Int) (μ : Cells) : runFn F W ⟨1, 1, B_sign_of⟩ [fD x] μ = some (.int (sgI x.1), μ) := by
  refine run_rt rfl (Nat.le_of_ble_eq_true rfl) (seq_rt ?_)
  walk_at "go"
  unfold sgI
  by_cases a : 0 < x.1
  · have b : ¬ x.1 < 0 := by omega
    simp [a, b, b2i]
  · by_cases b : x.1 < 0
    · simp [a, b, b2i]
    · simp [a, b, b2i]
theorem law_sgn_ok (x : Int × Int) (μ : Cells) : runFn F W ⟨1, 1, B__law_sgn⟩ [fD x] μ = some (.int (sgI x.1), μ) := by
  refine run_rt rfl (Nat.le_of_ble_eq_true rfl) (seq_rt ?_)
  walk_at "go"
  unfold sgI
  by_cases a : 0 < x.1
  · simp [a, andThen_some']
  · by_cases b : x.1 < 0
    · simp [a, b, andThen_some', onBl_bl, wthD_some']
    · simp [a, b, andThen_some', onBl_bl, wthD_some']
theorem floor_of_ok {x : Int × Int} (h : Dv x.2) (μ : Cells) : runFn F W ⟨1, 1, B_floor_of⟩ [fD x] μ = some (.int (x.1.fdiv x.2), μ) := by
  refine run_rt rfl (Nat.le_of_ble_eq_true rfl) (seq_rt ?_)
  walk_at "go"
  simp [op_div x.1 h, wthD_some', andThen_some']
theorem whole_ok (i : Int) (μ : Cells) : runFn F W ⟨1, 1, B_whole⟩ [.int i] μ = some (fD (i, 1), μ) := by
  refine run_rt rfl (Nat.le_of_ble_eq_true rfl) (seq_rt ?_)
  walk_at "go"
theorem is_whole_int (i : Int) (μ : Cells) : runFn F W ⟨1, 1, B_is_whole⟩ [.int i] μ = some (.bl true, μ) := by
  refine run_rt rfl (Nat.le_of_ble_eq_true rfl) (seq_rt ?_)
  walk_at "go"
end
end FM

set_option Elab.async false
set_option linter.all false
set_option maxRecDepth 100000
set_option maxHeartbeats 4000000
/-! M2: roots, the draws, alike. -/
namespace FM
open PySem (Str sizeLine)
open L2 (atI ixN)
open PySem.Spec PyProof.Rows
section
variable {F : Fs} {j k : Nat}
local macro_rules | `(tactic| walk_at "go") => `(tactic| simp [FM.runFn, FM.FD.fn, FM.execs, FM.exec, FM.ev, FM.evs, FM.evo, FM.evc, FM.evi, FM.lk, FM.lks, FM.It.lk, FM.isOw, FM.noOw, FM.Sl.isOw, FM.Sl.d, FM.isiD, FM.cmpD, FM.negD, FM.setAll, FM.bindT, FM.andThen_some', FM.onBl_bl, FM.wthD_some', FM.eqD_int, FM.ix_tup, FM.ix_lst, FM.atI_0, FM.atI_1, FM.atI_2, FM.op_add, FM.op_sub, FM.op_subBl, FM.biD_abs, FM.szle])
/-! ### is_frac of two whole numbers -/
theorem is_frac_ok {fw fc : Nat} (hw : ∀ (i : Int) (μ : Cells), F fw [.int i] μ = some (.bl true, μ)) (hc : CommonC F fc) (x : Int × Int) (h : Sm 4000 x.2) (μ : Cells) :
    runFn F W ⟨1, 2, B_is_frac fw fc⟩ [fD x] μ = some (.bl (decide (0 < x.2) && decide ((Int.gcd x.1 x.2 : Int) = 1)), μ) := by
  refine run_rt rfl (Nat.le_of_ble_eq_true rfl) (seq_nx (ρ1 := [some (.pl (fD x)), none]) (μ1 := μ) ?_ (seq_rt ?_))
  · walk_at "go"
    simp [biD, eqD_int, onBl_bl, wthD_some', lcGo, bindT, hw, andThen_some', asBls]
  · walk_at "go"
    by_cases z : 0 < x.2
    · simp [z, hc _ _ μ h, andThen_some', eqD_int, wthD_some', onBl_bl]
    · simp [z, onBl_bl, andThen_some']
theorem whileF_rt {c : Env → Cells → Option (Bool × Cells)} {b : Env → Cells → Option Res} {m : Nat} {ρ : Env} {μ μ1 : Cells} {d : D} (h : c ρ μ = some (true, μ)) (g : b ρ μ = some (.rt d μ1)) : whileF c b (m + 1) ρ μ = some (.rt d μ1) := by
  unfold whileF
  rw [h]
  simp only
  rw [g]
theorem whileF_nx {c : Env → Cells → Option (Bool × Cells)} {b : Env → Cells → Option Res} {m : Nat} {ρ ρ1 : Env} {μ μ1 : Cells} (h : c ρ μ = some (true, μ)) (g : b ρ μ = some (.nx ρ1 μ1)) : whileF c b (m + 1) ρ μ = whileF c b m ρ1 μ1 := by
  conv => lhs; unfold whileF
  rw [h]
  simp only
  rw [g]
theorem whileF_no {c : Env → Cells → Option (Bool × Cells)} {b : Env → Cells → Option Res} {m : Nat} {ρ : Env} {μ : Cells} (h : c ρ μ = some (false, μ)) : whileF c b (m + 1) ρ μ = some (.nx ρ μ) := by
  unfold whileF
  rw [h]
/-! ### roots -/
/-- r is the root of n, rounded down -/
def IsRt (n r : Int) : Prop := 0 ≤ r ∧ r * r ≤ n ∧ n < (r + 1) * (r + 1)
theorem IsRt.uniq {n r s : Int} (h : IsRt n r) (g : IsRt n s) : r = s := by
  obtain ⟨h1, h2, h3⟩ := h
  obtain ⟨g1, g2, g3⟩ := g
  rcases Int.lt_trichotomy r s with z | z | z
  · have : (r + 1) * (r + 1) ≤ s * s := Int.mul_le_mul (by omega) (by omega) (by omega) (by omega)
    omega
  · exact z
  · have : (s + 1) * (s + 1) ≤ r * r := Int.mul_le_mul (by omega) (by omega) (by omega) (by omega)
    omega
theorem sqn (a : Int) : 0 ≤ a * a := by
  rcases Int.le_total 0 a with h | h
  · exact Int.mul_nonneg h h
  · exact Int.mul_nonneg_of_nonpos_of_nonpos h h
theorem op_shl1 {p : Int} (h : 0 ≤ p ∧ p ≤ 1000000) : opD .LShift (.int 1) (.int p) = some (.int (2 ^ p.toNat)) := by
  refine opD_of ?_
  show (if powOk 1 p then some (D.int (1 * 2 ^ p.toNat)) else none) = _
  have : powOk 1 p = true := by
    unfold powOk
    exact decide_eq_true ⟨h.1, h.2, by decide⟩
  rw [this, Int.one_mul]
  rfl
theorem me_bits (n : Int) : meD .bits (.int n) [] = some (.int (PySem.Builtin.Int.intBits n : Nat)) := rfl
/-- one step of the root -/
theorem newton {n f : Int} (hf : 0 < f) (hn : 0 ≤ n) :
    0 ≤ (f + n.fdiv f).fdiv 2 ∧ n < ((f + n.fdiv f).fdiv 2 + 1) * ((f + n.fdiv f).fdiv 2 + 1) ∧ (f ≤ (f + n.fdiv f).fdiv 2 → f * f ≤ n) ∧ (0 < n → 0 < (f + n.fdiv f).fdiv 2) := by
  have q1 : n.fdiv f * f ≤ n := by
    rw [Int.fdiv_eq_ediv_of_nonneg _ (by omega)]
    exact Int.ediv_mul_le n (by omega)
  have q2 : n < (n.fdiv f + 1) * f := by
    rw [Int.fdiv_eq_ediv_of_nonneg _ (by omega)]
    exact Int.lt_ediv_add_one_mul_self n hf
  have q0 : 0 ≤ n.fdiv f := Int.fdiv_nonneg hn (by omega)
  generalize n.fdiv f = q at *
  have l0 : (f + q).fdiv 2 = (f + q) / 2 := Int.fdiv_eq_ediv_of_nonneg _ (by decide)
  rw [l0]
  have l1 : (f + q) / 2 * 2 ≤ f + q := by omega
  have l2 : f + q ≤ (f + q) / 2 * 2 + 1 := by omega
  have l3 : 0 ≤ (f + q) / 2 := by omega
  refine ⟨l3, ?_, fun z => ?_, fun z => ?_⟩
  · generalize (f + q) / 2 = l at *
    have a : (f + q + 1) * (f + q + 1) ≤ (2 * (l + 1)) * (2 * (l + 1)) := Int.mul_le_mul (by omega) (by omega) (by omega) (by omega)
    have b : 0 ≤ (f - (q + 1)) * (f - (q + 1)) := sqn _
    grind
  · have a : f * f ≤ q * f := Int.mul_le_mul_of_nonneg_right (by omega) (by omega)
    omega
  · rcases Int.lt_or_le 1 f with z1 | z1
    · omega
    · have : f = 1 := by omega
      subst this
      omega
theorem root_loop {n : Int} {μ : Cells} (hn : 0 < n) (hs : Sm 3900 n) {c : Env → Cells → Option (Bool × Cells)} {b : Env → Cells → Option Res}
    (hc : ∀ ρ, c ρ μ = some (true, μ))
    (hb : ∀ (f : Int) (o : Option D), 0 < f → Sm 3900 f → b [some (.pl (.int n)), some (.pl (.int f)), o.map .pl] μ = if f ≤ (f + n.fdiv f).fdiv 2 then some (.rt (.int f) μ) else some (.nx [some (.pl (.int n)), some (.pl (.int ((f + n.fdiv f).fdiv 2))), some (.pl (.int ((f + n.fdiv f).fdiv 2)))] μ)) :
    ∀ (m : Nat) (f : Int) (o : Option D), 0 < f → f < m → Sm 3900 f → n < (f + 1) * (f + 1) → ∃ r : Int, whileF c b m [some (.pl (.int n)), some (.pl (.int f)), o.map .pl] μ = some (.rt (.int r) μ) ∧ IsRt n r
  | 0, f, o, h1, h2, h3, h4 => by omega
  | m + 1, f, o, h1, h2, h3, h4 => by
    have hb1 := hb f o h1 h3
    obtain ⟨n1, n2, n3, n4⟩ := newton (n := n) h1 (by omega)
    by_cases z : f ≤ (f + n.fdiv f).fdiv 2
    · rw [if_pos z] at hb1
      exact ⟨f, whileF_rt (hc _) hb1, by omega, n3 z, h4⟩
    · rw [if_neg z] at hb1
      rw [whileF_nx (hc _) hb1]
      refine root_loop hn hs hc hb m _ (some _) (n4 hn) (by omega) ?_ n2
      exact Nat.lt_trans (by have := n4 hn; omega) h3
theorem bits_start {n : Int} (h : 0 < n) (hs : Sm 3800 n) : let p : Nat := (PySem.Builtin.Int.intBits n + 1) / 2
    p ≤ 1901 ∧ 0 < (2 : Int) ^ p ∧ Sm 3900 (2 ^ p) ∧ n < ((2 : Int) ^ p + 1) * (2 ^ p + 1) := by
  intro p
  have e : PySem.Builtin.Int.intBits n = n.natAbs.log2 + 1 := by
    unfold PySem.Builtin.Int.intBits
    rw [if_neg (by simp; omega)]
  have l := hs.log
  have hp : p ≤ 1901 := by
    show (PySem.Builtin.Int.intBits n + 1) / 2 ≤ 1901
    omega
  have pos : 0 < (2 : Int) ^ p := Int.pow_pos (by decide)
  refine ⟨hp, pos, ?_, ?_⟩
  · unfold Sm
    rw [Int.natAbs_pow]
    exact Nat.pow_lt_pow_right (by decide) (by omega)
  · have a : n.natAbs < 2 ^ (p + p) := by
      refine Nat.lt_of_lt_of_le (Nat.lt_log2_self (n := n.natAbs)) (Nat.pow_le_pow_right (by decide) ?_)
      show n.natAbs.log2 + 1 ≤ (PySem.Builtin.Int.intBits n + 1) / 2 + (PySem.Builtin.Int.intBits n + 1) / 2
      omega
    have b : n < (2 : Int) ^ p * 2 ^ p := by
      rw [← Int.pow_add]
      have : ((2 ^ (p + p) : Nat) : Int) = (2 : Int) ^ (p + p) := by simp
      omega
    generalize (2 : Int) ^ p = q at *
    grind
def RootC (F : Fs) (f : Nat) : Prop := ∀ (n : Int) (μ : Cells), 0 ≤ n → Sm 3800 n → ∃ r, F f [.int n] μ = some (.int r, μ) ∧ IsRt n r
theorem root_fin {n f : Int} {μ : Cells} {c : E} {b : Ss} (h1 : 0 < f) (h2 : f < W) (h3 : Sm 3900 f) (h4 : n < (f + 1) * (f + 1)) (hn : 0 < n) (hs : Sm 3900 n)
    (hc : ∀ ρ, onBl (ev F c ρ μ) (fun x μ1 => some (x, μ1)) = some (true, μ))
    (hb : ∀ (f : Int) (o : Option D), 0 < f → Sm 3900 f → execs F W b [some (.pl (.int n)), some (.pl (.int f)), o.map .pl] μ = if f ≤ (f + n.fdiv f).fdiv 2 then some (.rt (.int f) μ) else some (.nx [some (.pl (.int n)), some (.pl (.int ((f + n.fdiv f).fdiv 2))), some (.pl (.int ((f + n.fdiv f).fdiv 2)))] μ)) :
    ∃ r : Int, execs F W (.cons (.whl c b) .nil) [some (.pl (.int n)), some (.pl (.int f)), none] μ = some (.rt (.int r) μ) ∧ IsRt n r := by
  obtain ⟨r, h5, h6⟩ := root_loop (c := fun ρ' μ' => onBl (ev F c ρ' μ') fun x μ1 => some (x, μ1)) (b := fun ρ' μ' => execs F W b ρ' μ') hn hs hc hb W f none h1 h2 h3 h4
  exact ⟨r, seq_rt (whl_of h5), h6⟩
theorem root_below_ok (n : Int) (μ : Cells) (hn : 0 ≤ n) (hs : Sm 3800 n) : ∃ r, runFn F W ⟨1, 3, B_root_below⟩ [.int n] μ = some (.int r, μ) ∧ IsRt n r := by
  by_cases z : n = 0
  · subst z
    refine ⟨0, run_rt rfl (Nat.le_of_ble_eq_true rfl) (seq_rt ?_), by unfold IsRt; decide⟩
    walk_at "go"
  · obtain ⟨b1, b2, b3, b4⟩ := bits_start (n := n) (by omega) hs
    have q : ∃ r : Int, _ ∧ IsRt n r := root_fin (F := F) (μ := μ) (c := .bl true) (b := (.cons (.asg 2 (.op .FloorDiv (.op .Add (.var 1) (.op .FloorDiv (.var 0) (.var 1))) (.int 2))) (.cons (.ifs (.cmp .GtE (.var 2) (.var 1)) (.cons (.ret (.var 1)) .nil) .nil) (.cons (.asg 1 (.var 2)) .nil)))) b2 (by have := smW (b3.mono (by decide)); omega) b3 b4 (by omega) (hs.mono (by decide)) (fun ρ => by walk_at "go") (fun f o hf hs => ?_)
    · obtain ⟨r, q1, q2⟩ := q
      refine ⟨r, run_rt rfl (Nat.le_of_ble_eq_true rfl) (seq_nx (ρ1 := [some (.pl (.int n)), none, none]) (μ1 := μ) ?_ (seq_nx (ρ1 := [some (.pl (.int n)), some (.pl (.int _)), none]) (μ1 := μ) ?_ q1)), q2⟩
      · walk_at "go"
        simp [z, onBl_bl]
      · have d2 : Dv 2 := .inl (by decide)
        have e : ((PySem.Builtin.Int.intBits n : Int) + 1).fdiv 2 = ((PySem.Builtin.Int.intBits n : Int) + 1) / 2 := Int.fdiv_eq_ediv_of_nonneg _ (by decide)
        have e2 : (((PySem.Builtin.Int.intBits n : Int) + 1) / 2).toNat = (PySem.Builtin.Int.intBits n + 1) / 2 := by omega
        have sh := op_shl1 (p := ((PySem.Builtin.Int.intBits n : Int) + 1) / 2) ⟨by omega, by omega⟩
        rw [e2] at sh
        walk_at "go"
        simp [me_bits, op_div _ d2, op_add, andThen_some', wthD_some', e, sh]
    · have d1 : Dv f := Dv.pos hf hs (by decide)
      have d2 : Dv 2 := .inl (by decide)
      refine seq_nx (ρ1 := [some (.pl (.int n)), some (.pl (.int f)), some (.pl (.int ((f + n.fdiv f).fdiv 2)))]) (μ1 := μ) ?_ ?_
      · cases o <;>
        · walk_at "go"
          simp [op_div _ d1, op_div _ d2, op_add, andThen_some', wthD_some']
      · split
        · rename_i z
          refine seq_rt ?_
          walk_at "go"
          simp [z]
        · rename_i z
          refine seq_nx (ρ1 := [some (.pl (.int n)), some (.pl (.int f)), some (.pl (.int ((f + n.fdiv f).fdiv 2)))]) (μ1 := μ) ?_ ?_
          · walk_at "go"
            omega
          · walk_at "go"
end
end FM

set_option Elab.async false
set_option linter.all false
set_option maxRecDepth 100000
set_option maxHeartbeats 4000000
/-! M3: roots of fractions, sums of lists, the draws, alike. -/
namespace FM
open PySem (Str sizeLine)
open L2 (atI ixN)
open PySem.Spec PyProof.Rows
section
variable {F : Fs} {j k : Nat}
local macro_rules | `(tactic| walk_at "go") => `(tactic| simp [FM.runFn, FM.FD.fn, FM.execs, FM.exec, FM.ev, FM.evs, FM.evo, FM.evc, FM.evi, FM.lk, FM.lks, FM.It.lk, FM.isOw, FM.noOw, FM.Sl.isOw, FM.Sl.d, FM.isiD, FM.cmpD, FM.negD, FM.setAll, FM.bindT, FM.andThen_some', FM.onBl_bl, FM.wthD_some', FM.eqD_int, FM.ix_tup, FM.ix_lst, FM.atI_0, FM.atI_1, FM.atI_2, FM.op_add, FM.op_sub, FM.op_subBl, FM.biD_abs, FM.szle])
theorem IsRt.sm {n r : Int} {k : Nat} (h : IsRt n r) (hs : Sm k n) : Sm k r := by
  obtain ⟨h1, h2, h3⟩ := h
  have a : r ≤ r * r := by
    rcases Int.lt_or_le 0 r with z | z
    · have := Int.mul_le_mul_of_nonneg_left (show 1 ≤ r by omega) h1
      omega
    · have : r = 0 := by omega
      subst this
      decide
  exact Nat.lt_of_le_of_lt (by omega) hs
/-- the exact root of a fraction, or none -/
theorem exact_root_ok {f : Nat} {x : Int × Int} (hr : RootC F f) (hx : Fq 1800 x) (μ : Cells) :
    if x.1 < 0 then runFn F W ⟨1, 3, B_exact_root f⟩ [fD x] μ = some (.non, μ)
    else ∃ r s, IsRt x.1 r ∧ IsRt x.2 s ∧ runFn F W ⟨1, 3, B_exact_root f⟩ [fD x] μ = some (if r * r = x.1 ∧ s * s = x.2 then fD (r, s) else .non, μ) := by
  split
  · rename_i z
    refine run_rt rfl (Nat.le_of_ble_eq_true rfl) (seq_rt ?_)
    walk_at "go"
    simp [z]
  · rename_i z
    obtain ⟨r, r1, r2⟩ := hr x.1 μ (by omega) (hx.1.mono (by decide))
    obtain ⟨s, s1, s2⟩ := hr x.2 μ (by have := hx.2.2.1; omega) (hx.2.1.mono (by decide))
    refine ⟨r, s, r2, s2, run_rt rfl (Nat.le_of_ble_eq_true rfl) (seq_nx (ρ1 := [some (.pl (fD x)), none, none]) (μ1 := μ) ?_ (seq_nx (ρ1 := [some (.pl (fD x)), some (.pl (.int r)), some (.pl (.int s))]) (μ1 := μ) ?_ (seq_rt ?_)))⟩
    · walk_at "go"
      omega
    · walk_at "go"
      simp [r1, s1, andThen_some']
    · have q1 := op_mulB 1800 (r2.sm hx.1) (r2.sm hx.1) (by decide)
      have q2 := op_mulB 1800 (s2.sm hx.2.1) (s2.sm hx.2.1) (by decide)
      walk_at "go"
      by_cases a : r * r = x.1
      · by_cases b : s * s = x.2
        · simp [q1, q2, a, b, andThen_some', wthD_some', eqD_int, onBl_bl, szle]
        · simp [q1, q2, a, b, andThen_some', wthD_some', eqD_int, onBl_bl, szle]
      · simp [q1, q2, a, andThen_some', wthD_some', eqD_int, onBl_bl, szle]
/-- s is the least that reaches -/
def IsUp (n d s : Int) : Prop := 0 ≤ s ∧ n ≤ s * s * d ∧ ∀ t, 0 ≤ t → t < s → t * t * d < n
theorem up_loop {p n d : Int} {x : D} {μ : Cells} (hd : 0 < d) {c : Env → Cells → Option (Bool × Cells)} {b : Env → Cells → Option Res}
    (hc : ∀ f : Int, 0 ≤ f → Sm 1900 f → c [some (.pl x), some (.pl (.int p)), some (.pl (.int n)), some (.pl (.int f))] μ = some (decide (f * f * d < n), μ))
    (hb : ∀ f : Int, b [some (.pl x), some (.pl (.int p)), some (.pl (.int n)), some (.pl (.int f))] μ = some (.nx [some (.pl x), some (.pl (.int p)), some (.pl (.int n)), some (.pl (.int (f + 1)))] μ)) :
    ∀ (m : Nat) (f t : Int), 0 ≤ f → f ≤ t → Sm 1900 t → n ≤ t * t * d → (t - f).toNat < m → (∀ t, 0 ≤ t → t < f → t * t * d < n) → ∃ s : Int, whileF c b m [some (.pl x), some (.pl (.int p)), some (.pl (.int n)), some (.pl (.int f))] μ = some (.nx [some (.pl x), some (.pl (.int p)), some (.pl (.int n)), some (.pl (.int s))] μ) ∧ IsUp n d s ∧ s ≤ t
  | 0, f, t, _, _, _, _, h, _ => by omega
  | m + 1, f, t, h0, h1, h2, h3, h4, h5 => by
    have c1 := hc f h0 (Nat.lt_of_le_of_lt (by omega) h2)
    by_cases z : f * f * d < n
    · rw [decide_eq_true z] at c1
      rw [whileF_nx c1 (hb f)]
      have ne : f ≠ t := fun e => by subst e; omega
      refine up_loop hd hc hb m (f + 1) t (by omega) (by omega) h2 h3 (by omega) (fun u u0 u1 => ?_)
      by_cases e : u = f
      · subst e
        exact z
      · exact h5 u u0 (by omega)
    · rw [decide_eq_false z] at c1
      exact ⟨f, whileF_no c1, ⟨h0, by omega, h5⟩, h1⟩
theorem up_fin {p n d : Int} {x : D} {μ : Cells} (hd : 0 < d) {c : E} {b : Ss}
    (hc : ∀ f : Int, 0 ≤ f → Sm 1900 f → onBl (ev F c [some (.pl x), some (.pl (.int p)), some (.pl (.int n)), some (.pl (.int f))] μ) (fun x μ1 => some (x, μ1)) = some (decide (f * f * d < n), μ))
    (hb : ∀ f : Int, execs F W b [some (.pl x), some (.pl (.int p)), some (.pl (.int n)), some (.pl (.int f))] μ = some (.nx [some (.pl x), some (.pl (.int p)), some (.pl (.int n)), some (.pl (.int (f + 1)))] μ))
    (f t : Int) (h0 : 0 ≤ f) (h1 : f ≤ t) (h2 : Sm 1900 t) (h3 : n ≤ t * t * d) (h5 : ∀ t, 0 ≤ t → t < f → t * t * d < n) : ∃ s : Int, exec F W (.whl c b) [some (.pl x), some (.pl (.int p)), some (.pl (.int n)), some (.pl (.int f))] μ = some (.nx [some (.pl x), some (.pl (.int p)), some (.pl (.int n)), some (.pl (.int s))] μ) ∧ IsUp n d s ∧ s ≤ t := by
  obtain ⟨s, e, u⟩ := up_loop (c := fun ρ' μ' => onBl (ev F c ρ' μ') fun x μ1 => some (x, μ1)) (b := fun ρ' μ' => execs F W b ρ' μ') hd hc hb W f t h0 h1 h2 h3 (by have := smW (h2.mono (k := 4000) (by decide)); omega) h5
  exact ⟨s, whl_of e, u⟩
theorem root_above_ok {f g : Nat} {x : Int × Int} {p : Int} (hr : RootC F f) (hf : FracC F g) (hx : Fq 600 x) (x0 : 0 ≤ x.1) (hp : Sm 600 p) (p0 : 0 < p) (μ : Cells) :
    ∃ s, IsUp (x.1 * p * p) x.2 s ∧ runFn F W ⟨2, 4, B_root_above f g⟩ [fD x, .int p] μ = some (fD (fr s p), μ) := by
  have s1 : Sm 1200 (x.1 * p) := hx.1.mul hp
  have s2 : Sm 1800 (x.1 * p * p) := s1.mul hp
  have n0 : 0 ≤ x.1 * p * p := Int.mul_nonneg (Int.mul_nonneg x0 (by omega)) (by omega)
  have d0 := hx.2.2.1
  have dv : Dv x.2 := Dv.pos d0 hx.2.1 (by decide)
  have q0 : 0 ≤ (x.1 * p * p).fdiv x.2 := Int.fdiv_nonneg n0 (by omega)
  obtain ⟨r, r1, r2⟩ := hr ((x.1 * p * p).fdiv x.2) μ q0 ((s2.fdiv _).mono (by decide))
  obtain ⟨r3, r4, r5⟩ := r2
  have qn : (x.1 * p * p).fdiv x.2 * x.2 ≤ x.1 * p * p := by
    rw [Int.fdiv_eq_ediv_of_nonneg _ (by omega)]
    exact Int.ediv_mul_le _ (by omega)
  have rr : r * r * x.2 ≤ x.1 * p * p := Int.le_trans (Int.mul_le_mul_of_nonneg_right r4 (by omega)) qn
  have low : ∀ t, 0 ≤ t → t < r → t * t * x.2 < x.1 * p * p := fun t t0 t1 => by
    have a : t * t < r * r := by
      have a1 : t * t ≤ t * r := Int.mul_le_mul_of_nonneg_left (by omega) t0
      have a2 : t * r < r * r := Int.mul_lt_mul_of_pos_right t1 (by omega)
      omega
    have := Int.mul_lt_mul_of_pos_right a d0
    omega
  have top : x.1 * p * p ≤ (x.1 * p * p) * (x.1 * p * p) * x.2 := by
    generalize x.1 * p * p = n at *
    rcases Int.lt_or_le 0 n with z | z
    · have a : n * 1 ≤ n * n := Int.mul_le_mul_of_nonneg_left (by omega) (by omega)
      have b : n * n * 1 ≤ n * n * x.2 := Int.mul_le_mul_of_nonneg_left (by omega) (sqn n)
      omega
    · have : n = 0 := by omega
      subst this
      simp
  have rle : r ≤ x.1 * p * p := by
    have a : r ≤ r * r := by
      rcases Int.lt_or_le 0 r with z | z
      · have := Int.mul_le_mul_of_nonneg_left (show 1 ≤ r by omega) r3
        omega
      · have : r = 0 := by omega
        subst this
        decide
    have b : r * r * 1 ≤ r * r * x.2 := Int.mul_le_mul_of_nonneg_left (by omega) (sqn r)
    omega
  obtain ⟨s, e1, e2, e3⟩ := up_fin (F := F) (μ := μ) (p := p) (n := x.1 * p * p) (x := fD x) (c := (.cmp .Lt (.op .Mult (.op .Mult (.var 3) (.var 3)) (.ix (.var 0) (.int 1))) (.var 2))) (b := .cons (.aug 3 .Add (.int 1)) .nil) d0 (fun f f0 hf => by
    walk_at "go"
    simp [op_mulB 1900 hf hf, op_mul (hf.mul hf) hx.2.1, wthD_some', andThen_some', cmpD, onBl_bl]) (fun f => by walk_at "go") r (x.1 * p * p) r3 rle (s2.mono (by decide)) top low
  refine ⟨s, e2, run_rt rfl (Nat.le_of_ble_eq_true rfl) (seq_nx (ρ1 := [some (.pl (fD x)), some (.pl (.int p)), some (.pl (.int (x.1 * p * p))), none]) (μ1 := μ) ?_ (seq_nx (ρ1 := [some (.pl (fD x)), some (.pl (.int p)), some (.pl (.int (x.1 * p * p))), some (.pl (.int r))]) (μ1 := μ) ?_ (seq_nx e1 (seq_rt ?_))))⟩
  · walk_at "go"
    simp [op_mul hx.1 hp, op_mul s1 hp, wthD_some', andThen_some']
  · walk_at "go"
    simp [op_div _ dv, wthD_some', andThen_some', r1]
  · walk_at "go"
    simp [hf s p μ ⟨hp.mono (by decide), .inl p0⟩, andThen_some']
/-! ### sums of lists -/
theorem sum3_ok {f : Nat} {x y z s1 s2 s3 : D} {μ : Cells} (h1 : F f [fD (0, 1), x] μ = some (s1, μ)) (h2 : F f [s1, y] μ = some (s2, μ)) (h3 : F f [s2, z] μ = some (s3, μ)) : runFn F W ⟨1, 3, B_sum_of f⟩ [.lst [x, y, z]] μ = some (s3, μ) := by
  refine run_rt rfl (Nat.le_of_ble_eq_true rfl) ?_
  unfold B_sum_of
  walk_at "go"
  simp [forF, bindT, h1, h2, h3, andThen_some']
end
end FM

set_option Elab.async false
set_option linter.all false
set_option maxRecDepth 100000
set_option maxHeartbeats 4000000
/-! M4: the draws, alike. -/
namespace FM
open PySem (Str sizeLine)
open L2 (atI ixN Key)
open PySem.Spec PyProof.Rows
section
variable {F : Fs} {j k : Nat}
local macro_rules | `(tactic| walk_at "go") => `(tactic| simp [FM.runFn, FM.FD.fn, FM.execs, FM.exec, FM.ev, FM.evs, FM.evo, FM.evc, FM.evi, FM.lk, FM.lks, FM.It.lk, FM.isOw, FM.noOw, FM.Sl.isOw, FM.Sl.d, FM.isiD, FM.cmpD, FM.negD, FM.setAll, FM.bindT, FM.andThen_some', FM.onBl_bl, FM.wthD_some', FM.eqD_int, FM.ix_tup, FM.ix_lst, FM.atI_0, FM.atI_1, FM.atI_2, FM.op_add, FM.op_sub, FM.op_subBl, FM.biD_abs, FM.szle])
/-- the law's cell -/
def cw (is : List Int) (k : Int) : Cell := [(.inr "draws", .lst (is.map D.int)), (.inr "at", .int k)]
theorem cw_draws (is : List Int) (k : Int) : valC (cw is k) (.inr "draws") = some (.lst (is.map D.int)) := by
  unfold valC cw
  rfl
theorem cw_at (is : List Int) (k : Int) : valC (cw is k) (.inr "at") = some (.int k) := by
  have : ((Sum.inr ("draws" : Str) : Key) = Sum.inr ("at" : Str)) = False := by simp; decide
  unfold valC cw
  simp [this]
theorem cw_put (is : List Int) (k i : Int) : putC (cw is k) (.inr "at") (.int i) = cw is i := by
  have : ((Sum.inr ("draws" : Str) : Key) = Sum.inr ("at" : Str)) = False := by simp; decide
  unfold putC cw
  simp [this]
theorem atI_int {is : List Int} {k : Int} (h0 : 0 ≤ k) (h1 : k < is.length) : ∃ i : Int, atI (is.map D.int) k = some (.int i) := by
  have e : k.toNat < is.length := by omega
  refine ⟨is[k.toNat], ?_⟩
  unfold atI ixN
  simp
  rw [if_pos h0, if_pos h1]
  simp [e]
theorem next_ok (is : List Int) (k many : Int) (h : 0 < many) (hk : 0 ≤ k) (μ : Cells) : ∃ r : Int, 0 ≤ r ∧ r < many ∧ runFn F W ⟨2, 2, B__law_next⟩ [.cell 0, .int many] (cw is k :: μ) = some (.int r, cw is (k + 1) :: μ) := by
  by_cases z : (is.length : Int) < k + 1
  · refine ⟨0, Int.le_refl _, h, run_rt rfl (Nat.le_of_ble_eq_true rfl) (seq_nx (ρ1 := [some (.pl (.cell 0)), some (.pl (.int many))]) (μ1 := cw is (k + 1) :: μ) ?_ (seq_rt ?_))⟩
    · have : (cw is k).length < sizeLine := Nat.lt_of_lt_of_le (show 2 < 16777216 by decide) (by decide)
      walk_at "go"
      simp [keyD, cw_at, cw_put, this]
    · walk_at "go"
      simp [ixD, keyD, cw_at, cw_draws, wthD_some', andThen_some', biD, cmpD, onBl_bl, z]
  · obtain ⟨i, hi⟩ := atI_int (is := is) (k := k) hk (by omega)
    refine ⟨i.fmod many, Int.fmod_nonneg_of_pos i h, Int.fmod_lt_of_pos i h, run_rt rfl (Nat.le_of_ble_eq_true rfl) (seq_nx (ρ1 := [some (.pl (.cell 0)), some (.pl (.int many))]) (μ1 := cw is (k + 1) :: μ) ?_ (seq_nx (ρ1 := [some (.pl (.cell 0)), some (.pl (.int many))]) (μ1 := cw is (k + 1) :: μ) ?_ (seq_rt ?_)))⟩
    · have : (cw is k).length < sizeLine := Nat.lt_of_lt_of_le (show 2 < 16777216 by decide) (by decide)
      walk_at "go"
      simp [keyD, cw_at, cw_put, this]
    · walk_at "go"
      simp [ixD, keyD, cw_at, cw_draws, wthD_some', andThen_some', biD, cmpD, onBl_bl, z]
    · have e : k + 1 - 1 = k := by omega
      walk_at "go"
      simp [ixD, keyD, cw_at, cw_draws, wthD_some', andThen_some', biD, cmpD, onBl_bl, op_sub, e, hi, op_mod i (show many ≠ 0 by omega)]
/-! ### alike -/
def LikeC (F : Fs) (f : Nat) (d : D) : Prop := ∀ μ, F f [d, d] μ = some (.bl true, μ)
theorem alike_scal {f : Nat} {d : D} (h : d.scal = true) (μ : Cells) : runFn F W ⟨2, 3, B__law_alike f⟩ [d, d] μ = some (.bl true, μ) := by
  refine run_rt rfl (Nat.le_of_ble_eq_true rfl) ?_
  unfold B__law_alike
  cases d <;> first
    | (cases h; done)
    | (walk_at "go"; simp [isNon, eqD, scalOk, eqS, D.scal, onBl_bl, wthD_some', andThen_some', h])
theorem alike_go {f : Nat} {ds es : List D} {μ : Cells} {ρ : Env} (n : Nat) (c : Env → Cells → Option (Bool × Cells)) (g : Env → Cells → Option (D × Cells)) (hc : ∀ k : Nat, k < n → ∃ ρ1, bindT (.nm 2) (.int k) ρ = some ρ1 ∧ c ρ1 μ = some (false, μ)) :
    ∀ (l : List Nat), (∀ k ∈ l, k < n) → lcGo (.nm 2) c g ρ (l.map fun (k : Nat) => D.int (0 + k)) μ = some ([], μ)
  | [], _ => rfl
  | k :: l, h => by
    obtain ⟨ρ1, e1, e2⟩ := hc k (h k (by simp))
    have ih := alike_go n c g hc l (fun k hk => h k (by simp [hk])) (f := f) (ds := ds) (es := es)
    show lcGo (.nm 2) c g ρ (D.int (0 + k) :: l.map fun (k : Nat) => D.int (0 + k)) μ = _
    unfold lcGo
    rw [Int.zero_add, e1]
    simp only
    rw [e2]
    exact ih
theorem ev_lc {elt : E} {tg : Tg} {it : It} {cond : EO} {ρ : Env} {μ μ1 μ2 : Cells} {xs ys : List D} (h1 : evi F it ρ μ = some (xs, μ1)) (hl : xs.length ≤ 16777216) (h2 : lcGo tg (fun ρ' μ' => evc F cond ρ' μ') (fun ρ' μ' => if lk ρ' elt then none else ev F elt ρ' μ') ρ xs μ1 = some (ys, μ2)) : ev F (.lc elt tg it cond) ρ μ = some (.lst ys, μ2) := by
  unfold ev
  rw [h1]
  show (if xs.length ≤ 16777216 then _ else _) = _
  rw [if_pos hl, h2]
  rfl
theorem ifs_t {c : E} {a b : Ss} {ρ : Env} {μ μ1 : Cells} {r : Option Res} (h : ev F c ρ μ = some (.bl true, μ1)) (g : execs F W a ρ μ1 = r) : exec F W (.ifs c a b) ρ μ = r := by
  unfold exec
  rw [h]
  exact g
theorem ifs_f {c : E} {a b : Ss} {ρ : Env} {μ μ1 : Cells} {r : Option Res} (h : ev F c ρ μ = some (.bl false, μ1)) (g : execs F W b ρ μ1 = r) : exec F W (.ifs c a b) ρ μ = r := by
  unfold exec
  rw [h]
  exact g
theorem ret_of {e : E} {ρ : Env} {μ μ1 : Cells} {d : D} (h : lk ρ e = false) (g : ev F e ρ μ = some (d, μ1)) : exec F W (.ret e) ρ μ = some (.rt d μ1) := by
  unfold exec
  rw [h, g]
  rfl
theorem cmp_of {o : PySem.CmpOp} {a b : E} {ρ : Env} {μ μ1 μ2 : Cells} {x y : D} {t : Bool} (h : ev F a ρ μ = some (x, μ1)) (g : ev F b ρ μ1 = some (y, μ2)) (e : cmpD o x y = some t) : ev F (.cmp o a b) ρ μ = some (.bl t, μ2) := by
  unfold ev
  rw [h]
  show andThen (ev F b ρ μ1) _ = _
  rw [g]
  show wthD ((cmpD o x y).map D.bl) μ2 = _
  rw [e]
  rfl
theorem len_tup (μ : Cells) (ds : List D) : biD μ .len [.tup ds] = some (.int ds.length) := rfl
theorem len_lst (μ : Cells) (ds : List D) : biD μ .len [.lst ds] = some (.int ds.length) := rfl
theorem evi_rng {ρ : Env} {e : E} {n : Nat} {μ μ1 : Cells} (h : ev F e ρ μ = some (.int n, μ1)) (hn : n ≤ 16777216) : evi F (.rng1 e) ρ μ = some (rngD 0 n, μ1) := by
  have t : rngOk n = true := by
    unfold rngOk
    rw [Bool.and_eq_true, decide_eq_true_eq, decide_eq_true_eq]
    omega
  unfold evi
  rw [h, andThen_some']
  simp only [t, if_true, Int.toNat_natCast]
theorem rng_len (lo : Int) (n : Nat) : (rngD lo n).length = n := by
  unfold rngD
  simp
theorem atI_nat {α : Type} {l : List α} {k : Nat} (h : k < l.length) : atI l (k : Int) = some l[k] := by
  unfold atI ixN
  simp [h]
theorem alike_tup {f : Nat} {ds : List D} (hl : ds.length ≤ 1000) (h : ∀ d ∈ ds, LikeC F f d) (μ : Cells) : runFn F W ⟨2, 3, B__law_alike f⟩ [.tup ds, .tup ds] μ = some (.bl true, μ) := by
  refine run_rt rfl (Nat.le_of_ble_eq_true rfl) (seq_rt (ifs_t (μ1 := μ) ?_ (seq_nx (ρ1 := [some (.pl (.tup ds)), some (.pl (.tup ds)), none]) (μ1 := μ) (ifs_f (μ1 := μ) ?_ ?_) (seq_rt (ret_of rfl (cmp_of (x := .lst []) (y := .lst []) (ev_lc (xs := rngD 0 ds.length) (μ1 := μ) (evi_rng ?_ (by omega)) (by rw [rng_len]; omega) (alike_go ds.length _ _ (fun k hk => ⟨[some (.pl (.tup ds)), some (.pl (.tup ds)), some (.pl (.int k))], rfl, ?_⟩) _ (fun k hk => List.mem_range.mp hk) (f := f) (ds := ds) (es := ds))) ?_ ?_))))))
  · walk_at "go"
  · walk_at "go"
    simp [len_tup, andThen_some', eqD_int, wthD_some', onBl_bl]
  · walk_at "go"
  · walk_at "go"
    simp [len_tup, andThen_some', eqD_int, wthD_some', onBl_bl]
  · have e := h ds[k] (List.getElem_mem hk) μ
    walk_at "go"
    simp [atI_nat hk, andThen_some', wthD_some', onBl_bl, e]
  · walk_at "go"
  · rfl
end
end FM

set_option Elab.async false
set_option linter.all false
set_option maxRecDepth 100000
set_option maxHeartbeats 4000000
/-! M5: the draws. -/
namespace FM
open PySem (Str sizeLine)
open L2 (atI ixN Key)
open PySem.Spec PyProof.Rows
section
variable {F : Fs} {j k : Nat}
local macro_rules | `(tactic| walk_at "go") => `(tactic| simp [FM.runFn, FM.FD.fn, FM.execs, FM.exec, FM.ev, FM.evs, FM.evo, FM.evc, FM.evi, FM.lk, FM.lks, FM.It.lk, FM.isOw, FM.noOw, FM.Sl.isOw, FM.Sl.d, FM.isiD, FM.cmpD, FM.negD, FM.setAll, FM.bindT, FM.andThen_some', FM.onBl_bl, FM.wthD_some', FM.eqD_int, FM.ix_tup, FM.ix_lst, FM.atI_0, FM.atI_1, FM.atI_2, FM.op_add, FM.op_sub, FM.op_subBl, FM.biD_abs, FM.szle])
theorem forF_inv (I : List D → Env → Cells → Prop) {tg : Tg} {b : Env → Cells → Option Res}
    (h : ∀ x ys ρ μ, I (x :: ys) ρ μ → ∃ ρ1 ρ2 μ2, bindT tg x ρ = some ρ1 ∧ b ρ1 μ = some (.nx ρ2 μ2) ∧ I ys ρ2 μ2) :
    ∀ (xs : List D) (ρ : Env) (μ : Cells), I xs ρ μ → ∃ ρ' μ', forF tg b xs ρ μ = some (.nx ρ' μ') ∧ I [] ρ' μ'
  | [], ρ, μ, g => ⟨ρ, μ, rfl, g⟩
  | x :: xs, ρ, μ, g => by
    obtain ⟨ρ1, ρ2, μ2, e1, e2, g2⟩ := h x xs ρ μ g
    obtain ⟨ρ', μ', e3, g3⟩ := forF_inv I h xs ρ2 μ2 g2
    refine ⟨ρ', μ', ?_, g3⟩
    unfold forF
    rw [e1]
    simp only
    rw [e2]
    exact e3
/-- whole numbers from a to b -/
def Ints (a b : Int) (xs : List D) : Prop := ∀ x ∈ xs, ∃ i : Int, x = .int i ∧ a ≤ i ∧ i < b
theorem Ints.head {a b : Int} {x : D} {xs : List D} (h : Ints a b (x :: xs)) : ∃ i : Int, x = .int i ∧ a ≤ i ∧ i < b := h x (by simp)
theorem Ints.tail {a b : Int} {x : D} {xs : List D} (h : Ints a b (x :: xs)) : Ints a b xs := fun y hy => h y (by simp [hy])
theorem ints_rng (n : Nat) : Ints 0 n (rngD 0 n) := fun x hx => by
  unfold rngD at hx
  obtain ⟨k, hk, rfl⟩ := List.mem_map.mp hx
  have := List.mem_range.mp hk
  exact ⟨_, rfl, by omega, by omega⟩
/-- a place without an owned list -/
abbrev pE (s : List D) (m : Int) (is : List Int) (mx : Int) (o4 o5 o6 o7 : Option D) : Env := [some (.pl (.lst s)), some (.pl (.int m)), some (.ow (is.map D.int)), some (.pl (.int mx)), o4.map .pl, o5.map .pl, o6.map .pl, o7.map .pl]
theorem pow1018 : opD .Pow (.int 10) (.int 18) = some (.int 1000000000000000000) := by rfl
theorem bi_int (μ : Cells) (i : Int) : biD μ .int [.int i] = some (.int i) := rfl
theorem app_ow {is : List Int} {i : Int} : is.map D.int ++ [D.int i] = (is ++ [i]).map D.int := by simp
def MxI (mx : Int) : Prop := 0 ≤ mx ∧ mx < 65537
theorem MxI.sm {mx : Int} (h : MxI mx) : Sm 17 mx := by
  unfold Sm
  obtain ⟨h1, h2⟩ := h
  have : (65537 : Nat) < 2 ^ 17 := by decide
  omega
theorem MxI.mod (i : Int) : MxI (i.fmod 65537) := ⟨Int.fmod_nonneg_of_pos i (by decide), Int.fmod_lt_of_pos i (by decide)⟩
theorem sz_lt {n : Nat} (h : n < 100000) : n < sizeLine := Nat.lt_of_lt_of_le h (by decide)
def bIn : Ss := (.cons (.ifs (.cmp .Gt (.var 6) (.int 0)) (.cons (.app 2 (.op .Mod (.bi .int (.cons (.var 6) .nil)) (.int 997))) (.cons (.asg 6 (.op .FloorDiv (.var 6) (.int 997))) .nil)) .nil) .nil)
theorem in_step {s : List D} {m mx rest i : Int} {is : List Int} {o4 o5 o7 : Option D} {μ : Cells} (hl : is.length < 100000) : ∃ is' rest', is'.length ≤ is.length + 1 ∧ execs F W bIn (pE s m is mx o4 o5 (some (.int rest)) (some (.int i))) μ = some (.nx (pE s m is' mx o4 o5 (some (.int rest')) (some (.int i))) μ) := by
  have d : Dv 997 := .inl (by decide)
  have n : (997 : Int) ≠ 0 := by decide
  by_cases z : 0 < rest
  · refine ⟨is ++ [rest.fmod 997], rest.fdiv 997, by simp, seq_nx (ifs_t (μ1 := μ) ?_ (seq_nx (ρ1 := pE s m (is ++ [rest.fmod 997]) mx o4 o5 (some (.int rest)) (some (.int i))) (μ1 := μ) ?_ (seq_nx ?_ rfl))) rfl⟩
    · walk_at "go"
      exact z
    · walk_at "go"
      simp [bi_int, op_mod _ n, andThen_some', wthD_some', sz_lt hl]
    · walk_at "go"
      simp [op_div _ d, andThen_some', wthD_some']
  · refine ⟨is, rest, by omega, seq_nx (ifs_f (μ1 := μ) ?_ rfl) rfl⟩
    walk_at "go"
    omega
def bOut : Ss := (.cons (.asg 5 (.bi .abs (.cons (.bi .int (.cons (.ix (.var 0) (.var 4)) .nil)) .nil))) (.cons (.asg 3 (.op .Mod (.bi .int (.cons (.op .Add (.op .Add (.op .Mult (.var 3) (.int 48271)) (.op .Mod (.var 5) (.int 1000003))) (.var 4)) .nil)) (.int 65537))) (.cons (.asg 6 (.int 0)) (.cons (.ifs (.cmp .GtE (.var 5) (.op .Pow (.int 10) (.int 18))) (.cons (.asg 6 (.var 5)) .nil) (.cons (.app 2 (.op .Mod (.bi .int (.cons (.var 5) .nil)) (.int 997))) (.cons (.app 2 (.op .Mod (.op .Mod (.bi .int (.cons (.op .Add (.op .Mult (.var 3) (.int 69621)) (.int 5)) .nil)) (.int 65521)) (.int 997))) .nil))) (.cons (.for_ (.nm 7) (.rng1 (.int 60)) bIn) .nil)))))
theorem in_loop {s : List D} {m mx : Int} {o4 o5 : Option D} {μ : Cells} (N : Nat) (xs : List D) (rest : Int) (is : List Int) (o7 : Option D) (hl : is.length + xs.length ≤ N) (hN : N < 100000) (hx : Ints 0 60 xs) :
    ∃ is' rest' o7', is'.length ≤ N ∧ forF (.nm 7) (fun ρ' μ' => execs F W bIn ρ' μ') xs (pE s m is mx o4 o5 (some (.int rest)) o7) μ = some (.nx (pE s m is' mx o4 o5 (some (.int rest')) o7') μ) := by
  obtain ⟨ρ', μ', e1, e2⟩ := forF_inv (fun ys ρ μ1 => μ1 = μ ∧ Ints 0 60 ys ∧ ∃ is' rest' o7', ρ = pE s m is' mx o4 o5 (some (.int rest')) o7' ∧ is'.length + ys.length ≤ N) (tg := .nm 7) (b := fun ρ' μ' => execs F W bIn ρ' μ') (fun x ys ρ μ1 h => by
    obtain ⟨rfl, h1, is', rest', o7', rfl, h2⟩ := h
    obtain ⟨i, rfl, _⟩ := h1.head
    rw [List.length_cons] at h2
    obtain ⟨is2, r2, l2, e2⟩ := in_step (F := F) (s := s) (m := m) (mx := mx) (rest := rest') (i := i) (is := is') (o4 := o4) (o5 := o5) (o7 := o7') (μ := μ1) (by omega)
    exact ⟨_, _, _, rfl, e2, rfl, h1.tail, is2, r2, _, rfl, by omega⟩) xs _ μ ⟨rfl, hx, is, rest, o7, rfl, hl⟩
  obtain ⟨rfl, _, is', rest', o7', rfl, h2⟩ := e2
  exact ⟨is', rest', o7', h2, e1⟩
theorem out_step {ns : List Int} {m mx i : Int} {is : List Int} {o5 o6 o7 : Option D} {μ : Cells} (hm : MxI mx) (hl : is.length < 90000) (hi : 0 ≤ i) (hn : i < ns.length) :
    ∃ is' mx' o5' o6' o7', is'.length ≤ is.length + 62 ∧ MxI mx' ∧ execs F W bOut (pE (ns.map D.int) m is mx (some (.int i)) o5 o6 o7) μ = some (.nx (pE (ns.map D.int) m is' mx' (some (.int i)) o5' o6' o7') μ) := by
  obtain ⟨c, hc⟩ := atI_int (is := ns) (k := i) hi hn
  have n1 : (997 : Int) ≠ 0 := by decide
  have n2 : (65537 : Int) ≠ 0 := by decide
  have n3 : (1000003 : Int) ≠ 0 := by decide
  have n4 : (65521 : Int) ≠ 0 := by decide
  have s1 : Sm 17 (48271 : Int) := by unfold Sm; decide
  have s2 : Sm 17 (69621 : Int) := by unfold Sm; decide
  have p1 := op_mul hm.sm s1 (by decide)
  let mx1 : Int := (mx * 48271 + (c.natAbs : Int).fmod 1000003 + i).fmod 65537
  have hm1 : MxI mx1 := MxI.mod _
  have p2 := op_mul hm1.sm s2 (by decide)
  have e1 : exec F W (.asg 5 (.bi .abs (.cons (.bi .int (.cons (.ix (.var 0) (.var 4)) .nil)) .nil))) (pE (ns.map D.int) m is mx (some (.int i)) o5 o6 o7) μ = some (.nx (pE (ns.map D.int) m is mx (some (.int i)) (some (.int c.natAbs)) o6 o7) μ) := by
    cases o5 <;>
    · walk_at "go"
      simp [hc, wthD_some', andThen_some', bi_int, biD_abs]
  have e2 : exec F W (.asg 3 (.op .Mod (.bi .int (.cons (.op .Add (.op .Add (.op .Mult (.var 3) (.int 48271)) (.op .Mod (.var 5) (.int 1000003))) (.var 4)) .nil)) (.int 65537))) (pE (ns.map D.int) m is mx (some (.int i)) (some (.int c.natAbs)) o6 o7) μ = some (.nx (pE (ns.map D.int) m is mx1 (some (.int i)) (some (.int c.natAbs)) o6 o7) μ) := by
    walk_at "go"
    simp [p1, op_mod _ n3, op_add, wthD_some', andThen_some', bi_int, op_mod _ n2, mx1]
  have e3 : exec F W (.asg 6 (.int 0)) (pE (ns.map D.int) m is mx1 (some (.int i)) (some (.int c.natAbs)) o6 o7) μ = some (.nx (pE (ns.map D.int) m is mx1 (some (.int i)) (some (.int c.natAbs)) (some (.int 0)) o7) μ) := by
    cases o6 <;> walk_at "go"
  have e4 : ∃ is1 r1, is1.length ≤ is.length + 2 ∧ exec F W (.ifs (.cmp .GtE (.var 5) (.op .Pow (.int 10) (.int 18))) (.cons (.asg 6 (.var 5)) .nil) (.cons (.app 2 (.op .Mod (.bi .int (.cons (.var 5) .nil)) (.int 997))) (.cons (.app 2 (.op .Mod (.op .Mod (.bi .int (.cons (.op .Add (.op .Mult (.var 3) (.int 69621)) (.int 5)) .nil)) (.int 65521)) (.int 997))) .nil))) (pE (ns.map D.int) m is mx1 (some (.int i)) (some (.int c.natAbs)) (some (.int 0)) o7) μ = some (.nx (pE (ns.map D.int) m is1 mx1 (some (.int i)) (some (.int c.natAbs)) (some (.int r1)) o7) μ) := by
    by_cases z : 1000000000000000000 ≤ (c.natAbs : Int)
    · refine ⟨is, c.natAbs, by omega, ifs_t (μ1 := μ) ?_ ?_⟩
      · walk_at "go"
        simp [pow1018, wthD_some', andThen_some', cmpD]
        omega
      · walk_at "go"
    · refine ⟨is ++ [(c.natAbs : Int).fmod 997] ++ [((mx1 * 69621 + 5).fmod 65521).fmod 997], 0, by simp, ifs_f (μ1 := μ) ?_ (seq_nx (ρ1 := pE (ns.map D.int) m (is ++ [(c.natAbs : Int).fmod 997]) mx1 (some (.int i)) (some (.int c.natAbs)) (some (.int 0)) o7) (μ1 := μ) ?_ (seq_nx ?_ rfl))⟩
      · walk_at "go"
        simp [pow1018, wthD_some', andThen_some', cmpD]
        omega
      · walk_at "go"
        simp [bi_int, op_mod _ n1, andThen_some', wthD_some', sz_lt (n := is.length) (by omega)]
      · have l : (is ++ [(c.natAbs : Int).fmod 997]).length < sizeLine := sz_lt (by simp; omega)
        simp at l
        walk_at "go"
        simp [p2, bi_int, op_mod _ n1, op_mod _ n4, op_add, andThen_some', wthD_some', l]
  obtain ⟨is1, r1, l1, e4⟩ := e4
  obtain ⟨is2, r2, o7', l2, e5⟩ := in_loop (F := F) (s := ns.map D.int) (m := m) (mx := mx1) (o4 := some (.int i)) (o5 := some (.int c.natAbs)) (μ := μ) (is.length + 62) (rngD 0 60) r1 is1 o7 (by rw [rng_len]; omega) (by omega) (ints_rng 60)
  refine ⟨is2, mx1, _, _, o7', l2, hm1, seq_nx e1 (seq_nx e2 (seq_nx e3 (seq_nx e4 (seq_nx (for_of ?_ rfl e5) rfl))))⟩
  exact evi_rng (n := 60) rfl (by decide)
def bLast : Ss := (.cons (.asg 3 (.op .Mod (.bi .int (.cons (.op .Add (.op .Add (.op .Mult (.var 3) (.int 16807)) (.var 4)) (.int 1)) .nil)) (.int 65537))) (.cons (.app 2 (.op .Mod (.bi .int (.cons (.var 3) .nil)) (.int 997))) .nil))
theorem last_step {s : List D} {m mx i : Int} {is : List Int} {o5 o6 o7 : Option D} {μ : Cells} (hm : MxI mx) (hl : is.length < 90000) :
    ∃ is' mx', is'.length ≤ is.length + 1 ∧ MxI mx' ∧ execs F W bLast (pE s m is mx (some (.int i)) o5 o6 o7) μ = some (.nx (pE s m is' mx' (some (.int i)) o5 o6 o7) μ) := by
  have n1 : (997 : Int) ≠ 0 := by decide
  have n2 : (65537 : Int) ≠ 0 := by decide
  have s1 : Sm 17 (16807 : Int) := by unfold Sm; decide
  have p1 := op_mul hm.sm s1 (by decide)
  refine ⟨is ++ [((mx * 16807 + i + 1).fmod 65537).fmod 997], (mx * 16807 + i + 1).fmod 65537, by simp, MxI.mod _, seq_nx (ρ1 := pE s m is ((mx * 16807 + i + 1).fmod 65537) (some (.int i)) o5 o6 o7) (μ1 := μ) ?_ (seq_nx ?_ rfl)⟩
  · walk_at "go"
    simp [p1, op_add, wthD_some', andThen_some', bi_int, op_mod _ n2]
  · walk_at "go"
    simp [bi_int, op_mod _ n1, andThen_some', wthD_some', sz_lt (n := is.length) (by omega)]
theorem draws_ok (ns : List Int) (hn : ns.length ≤ 63) (many : Nat) (h : many ≤ 1000) (μ : Cells) : ∃ is : List Int, runFn F W ⟨2, 8, B__law_draws⟩ [.lst (ns.map D.int), .int many] μ = some (.lst (is.map D.int), μ) := by
  obtain ⟨ρ1, μ1, e1, e2⟩ := forF_inv (fun ys ρ μ1 => μ1 = μ ∧ Ints 0 ns.length ys ∧ ∃ is mx o4 o5 o6 o7, ρ = pE (ns.map D.int) many is mx o4 o5 o6 o7 ∧ MxI mx ∧ is.length + ys.length * 62 ≤ 63 * 62) (tg := .nm 4) (b := fun ρ' μ' => execs F W bOut ρ' μ') (fun x ys ρ μ1 h => by
    obtain ⟨rfl, h1, is, mx, o4, o5, o6, o7, rfl, hm, h2⟩ := h
    obtain ⟨i, rfl, h3, h4⟩ := h1.head
    rw [List.length_cons] at h2
    obtain ⟨is', mx', o5', o6', o7', l, hm', e⟩ := out_step (F := F) (ns := ns) (m := many) (mx := mx) (i := i) (is := is) (o5 := o5) (o6 := o6) (o7 := o7) (μ := μ1) hm (by omega) h3 h4
    exact ⟨_, _, _, rfl, e, rfl, h1.tail, is', mx', _, _, _, _, rfl, hm', by omega⟩) (rngD 0 ns.length) (pE (ns.map D.int) many [] 7 none none none none) μ ⟨rfl, ints_rng _, [], 7, none, none, none, none, rfl, ⟨by decide, by decide⟩, by rw [rng_len]; simp; omega⟩
  obtain ⟨rfl, _, is, mx, o4, o5, o6, o7, rfl, hm, hl⟩ := e2
  obtain ⟨ρ2, μ2, e3, e4⟩ := forF_inv (fun ys ρ μ2 => μ2 = μ1 ∧ Ints 0 many ys ∧ ∃ is mx o4 o5 o6 o7, ρ = pE (ns.map D.int) many is mx o4 o5 o6 o7 ∧ MxI mx ∧ is.length + ys.length ≤ 63 * 62 + 1000) (tg := .nm 4) (b := fun ρ' μ' => execs F W bLast ρ' μ') (fun x ys ρ μ1 h => by
    obtain ⟨rfl, h1, is, mx, o4, o5, o6, o7, rfl, hm, h2⟩ := h
    obtain ⟨i, rfl, h3, h4⟩ := h1.head
    rw [List.length_cons] at h2
    obtain ⟨is', mx', l, hm', e⟩ := last_step (F := F) (s := ns.map D.int) (m := many) (mx := mx) (i := i) (is := is) (o5 := o5) (o6 := o6) (o7 := o7) (μ := μ1) hm (by omega)
    exact ⟨_, _, _, rfl, e, rfl, h1.tail, is', mx', _, _, _, _, rfl, hm', by omega⟩) (rngD 0 many) _ μ1 ⟨rfl, ints_rng _, is, mx, o4, o5, o6, o7, rfl, hm, by rw [rng_len]; simp at hl; omega⟩
  obtain ⟨rfl, _, is2, mx2, p4, p5, p6, p7, rfl, hm2, hl2⟩ := e4
  refine ⟨cutD is2 none (some many), run_rt rfl (Nat.le_of_ble_eq_true rfl) (seq_nx (ρ1 := [some (.pl (.lst (ns.map D.int))), some (.pl (.int many)), some (.ow []), none, none, none, none, none]) (μ1 := μ2) rfl (seq_nx (ρ1 := pE (ns.map D.int) many [] 7 none none none none) (μ1 := μ2) rfl (seq_nx (for_of (evi_rng (n := ns.length) ?_ (by omega)) rfl e1) (seq_nx (for_of (evi_rng (n := many) rfl (by omega)) rfl e3) (seq_rt ?_)))))⟩
  · walk_at "go"
    simp [len_lst, wthD_some']
  · walk_at "go"
    simp [slD, cutD, andThen_some', wthD_some', List.map_drop, List.map_take]
end
end FM

set_option Elab.async false
set_option linter.all false
set_option maxRecDepth 100000
set_option maxHeartbeats 4000000
/-! M6: places that own nothing; alike at any depth; comprehensions over ranges. -/
namespace FM
open PySem (Str sizeLine)
open L2 (atI ixN Key)
open PySem.Spec PyProof.Rows
/-- an environment that owns nothing -/
def pl (ds : List (Option D)) : Env := ds.map (Option.map Sl.pl)
theorem pl_get (ds : List (Option D)) (i : Nat) : (pl ds)[i]? = (ds[i]?).map (Option.map Sl.pl) := by
  unfold pl
  rw [List.getElem?_map]
theorem pl_set (ds : List (Option D)) (i : Nat) (d : D) : (pl ds).set i (some (.pl d)) = pl (ds.set i (some d)) := by
  unfold pl
  rw [List.map_set]
  rfl
theorem isOw_pl (ds : List (Option D)) (i : Nat) : isOw (pl ds) i = false := by
  unfold isOw
  rw [pl_get]
  cases ds[i]? with
  | none => rfl
  | some o => cases o <;> rfl
theorem noOw_pl (ds : List (Option D)) : ∀ is : List Nat, noOw (pl ds) is = true
  | [] => rfl
  | i :: is => by
    unfold noOw
    rw [isOw_pl, noOw_pl ds is]
    rfl
theorem lk_pl (ds : List (Option D)) : ∀ e : E, lk (pl ds) e = false
  | .var i => by unfold lk; exact isOw_pl ds i
  | .ife c a b => by unfold lk; rw [lk_pl ds a, lk_pl ds b]; rfl
  | .int _ | .bl _ | .non | .str _ | .op .. | .neg _ | .cmp .. | .chn .. | .and .. | .or .. | .not _ | .tup _ | .lst _ | .ix .. | .sl .. | .call .. | .callB .. | .bi .. | .isi .. | .me .. | .lc .. | .dict .. | .rev .. | .con .. | .ldict .. | .bad => by unfold lk; rfl
theorem lks_pl (ds : List (Option D)) : ∀ es : Es, lks (pl ds) es = false
  | .nil => rfl
  | .cons e es => by unfold lks; rw [lk_pl, lks_pl ds es]; rfl
theorem itlk_pl (ds : List (Option D)) (it : It) : it.lk (pl ds) = false := by
  cases it <;> first | rfl | (unfold It.lk; exact lk_pl ds _)
theorem start_pl (ds : List D) (n : Nat) : ds.map (fun d => some (Sl.pl d)) ++ List.replicate n none = pl (ds.map some ++ List.replicate n none) := by
  unfold pl
  simp
def setAllD : List Nat → List D → List (Option D) → List (Option D)
  | i :: is, d :: ds, ρ => setAllD is ds (ρ.set i (some d))
  | _, _, ρ => ρ
theorem setAll_pl : ∀ (is : List Nat) (xs : List D) (ds : List (Option D)), setAll is xs (pl ds) = pl (setAllD is xs ds)
  | [], xs, ds => by cases xs <;> rfl
  | i :: is, [], ds => rfl
  | i :: is, x :: xs, ds => by
    unfold setAll setAllD
    rw [pl_set]
    exact setAll_pl is xs _
/-! ### data that are alike to themselves -/
def dep : Nat → D → Bool
  | _, .non => true
  | _, .bl _ => true
  | _, .int _ => true
  | _, .str _ => true
  | n + 1, .tup ds => decide (ds.length ≤ 1000) && ds.all (dep n)
  | _, _ => false
theorem like_dep {f : Nat} {G : Nat → Fs} (hG : ∀ n ds μ, G (n + 1) f ds μ = runFn (G n) W ⟨2, 3, B__law_alike f⟩ ds μ) : ∀ (n : Nat) (d : D), dep n d = true → LikeC (G (n + 1)) f d
  | n, .non, _ => fun μ => by rw [hG]; exact alike_scal rfl μ
  | n, .bl _, _ => fun μ => by rw [hG]; exact alike_scal rfl μ
  | n, .int _, _ => fun μ => by rw [hG]; exact alike_scal rfl μ
  | n, .str _, _ => fun μ => by rw [hG]; exact alike_scal rfl μ
  | 0, .tup ds, h => by cases h
  | 0, .lst ds, h => by cases h
  | _ + 1, .lst ds, h => by cases h
  | 0, .cell _, h => by cases h
  | _ + 1, .cell _, h => by cases h
  | n + 1, .tup ds, h => fun μ => by
    unfold dep at h
    rw [Bool.and_eq_true, decide_eq_true_eq, List.all_eq_true] at h
    rw [hG]
    exact alike_tup h.1 (fun d hd => like_dep hG n d (h.2 d hd)) μ
/-! ### the filters of the law -/
theorem filter_below (r : Nat) (p : Nat → Bool) (h1 : ∀ k, k ≤ r → p k = true) (h2 : ∀ k, r < k → p k = false) : ∀ n, (List.range n).filter p = List.range (min n (r + 1))
  | 0 => rfl
  | n + 1 => by
    rw [List.range_succ, List.filter_append, filter_below r p h1 h2 n]
    by_cases z : n ≤ r
    · have e1 : min n (r + 1) = n := by omega
      have e2 : min (n + 1) (r + 1) = n + 1 := by omega
      rw [e1, e2, List.range_succ]
      simp [h1 n z]
    · have e1 : min n (r + 1) = r + 1 := by omega
      have e2 : min (n + 1) (r + 1) = r + 1 := by omega
      rw [e1, e2]
      simp [h2 n (by omega)]
theorem filter_above (s : Nat) (p : Nat → Bool) (h1 : ∀ k, k < s → p k = false) (h2 : p s = true) : ∀ n, ((List.range n).filter p).head? = if s < n then some s else none
  | 0 => rfl
  | n + 1 => by
    rw [List.range_succ, List.filter_append, List.head?_append, filter_above s p h1 h2 n]
    by_cases z : s < n
    · rw [if_pos z, if_pos (by omega)]
      rfl
    · rw [if_neg z]
      by_cases e : s = n
      · subst e
        rw [if_pos (by omega)]
        simp [h2]
      · rw [if_neg (by omega)]
        simp [h1 n (by omega)]
theorem lc_filter (N : Nat) {i : Nat} {ρ : Env} {μ : Cells} {c : Env → Cells → Option (Bool × Cells)} {g : Env → Cells → Option (D × Cells)} (p : Nat → Bool)
    (hc : ∀ k : Nat, k < N → c (ρ.set i (some (.pl (.int k)))) μ = some (p k, μ)) (hg : ∀ k : Nat, g (ρ.set i (some (.pl (.int k)))) μ = some (.int k, μ)) :
    ∀ l : List Nat, (∀ k ∈ l, k < N) → lcGo (.nm i) c g ρ (l.map fun (k : Nat) => D.int (0 + k)) μ = some ((l.filter p).map fun (k : Nat) => D.int k, μ)
  | [], _ => rfl
  | k :: l, hl => by
    have ih := lc_filter N p hc hg l fun k hk => hl k (List.mem_cons_of_mem _ hk)
    have hk := hc k (hl k (List.mem_cons_self ..))
    show lcGo (.nm i) c g ρ (D.int (0 + k) :: l.map fun (k : Nat) => D.int (0 + k)) μ = _
    unfold lcGo
    rw [Int.zero_add]
    show (match some (ρ.set i (some (.pl (.int k)))) with | none => none | some ρ1 => _) = _
    simp only [hk]
    cases e : p k with
    | false =>
      simp only [List.filter_cons, e]
      exact ih
    | true =>
      simp only [List.filter_cons, e, hg k, ih]
      rfl
/-- a comprehension over a range, filtered -/
theorem ev_lcf {F : Fs} {i : Nat} {e : E} {cond : E} {ds : List (Option D)} {μ : Cells} (N : Nat) (p : Nat → Bool) (hN : N ≤ 16777216) (hi : i < ds.length) (he : ev F e (pl ds) μ = some (.int N, μ))
    (hc : ∀ k : Nat, k < N → ev F cond (pl (ds.set i (some (.int k)))) μ = some (.bl (p k), μ)) :
    ev F (.lc (.var i) (.nm i) (.rng1 e) (.some cond)) (pl ds) μ = some (.lst (((List.range N).filter p).map fun (k : Nat) => D.int k), μ) := by
  refine ev_lc (evi_rng he hN) (by rw [rng_len]; exact hN) (lc_filter N p (fun k hk => ?_) (fun k => ?_) (List.range N) fun k hk => List.mem_range.mp hk)
  · rw [pl_set]
    show onBl (ev F cond _ μ) _ = _
    rw [hc k hk]
    rfl
  · rw [pl_set, lk_pl]
    show (if false = true then none else ev F (.var i) _ μ) = _
    rw [if_neg (by decide)]
    unfold ev
    rw [pl_get, List.getElem?_set_self (by simpa using hi)]
    rfl
theorem ev_ix {F : Fs} {a b : E} {ρ : Env} {μ μ1 μ2 : Cells} {x y d : D} (h1 : ev F a ρ μ = some (x, μ1)) (h2 : ev F b ρ μ1 = some (y, μ2)) (h3 : ixD μ2 x y = some d) : ev F (.ix a b) ρ μ = some (d, μ2) := by
  unfold ev
  rw [h1]
  show andThen (ev F b ρ μ1) _ = _
  rw [h2]
  show wthD (ixD μ2 x y) μ2 = _
  rw [h3]
  rfl
theorem asg_pl {F : Fs} {W : Nat} {i : Nat} {e : E} {ds : List (Option D)} {μ μ1 : Cells} {d : D} (h : ev F e (pl ds) μ = some (d, μ1)) : exec F W (.asg i e) (pl ds) μ = some (.nx (pl (ds.set i (some d))) μ1) := by
  unfold exec
  rw [lk_pl, isOw_pl, h]
  show some (Res.nx ((pl ds).set i _) μ1) = _
  rw [pl_set]
theorem atI_last {l : List D} {d : D} : atI (l ++ [d]) (-1) = some d := by
  unfold atI ixN
  simp
  rw [if_pos (by omega)]
  have : (-1 + ((l.length : Int) + 1)).toNat = l.length := by omega
  show (l ++ [d])[(-1 + ((l.length : Int) + 1)).toNat]? = _
  rw [this]
  simp
theorem atI_head {l : List Nat} {k : Nat} (h : l.head? = some k) : atI (l.map fun (k : Nat) => D.int k) 0 = some (.int k) := by
  cases l with
  | nil => cases h
  | cons a l => cases h; exact atI_0 _ _
end FM

set_option Elab.async false
set_option linter.all false
set_option maxRecDepth 100000
namespace FM
def B_lifted (c_nought : Nat) : Ss := (.cons (.for_ (.nm 3) (.rng2 (.bi .len (.cons (.var 1) .nil)) (.bi .len (.cons (.var 2) .nil))) (.cons (.asg 0 (.tup (.cons (.var 0) (.cons (.call c_nought (.cons (.sl (.var 2) .none (.some (.var 3))) .nil)) .nil)))) .nil)) (.cons (.ret (.var 0)) .nil))
def B_nought (c_lifted : Nat) : Ss := (.cons (.ret (.call c_lifted (.cons (.tup (.cons (.int 0) (.cons (.int 1) .nil))) (.cons (.tup .nil) (.cons (.var 0) .nil))))) .nil)
def B_number (c_lifted : Nat) : Ss := (.cons (.ret (.call c_lifted (.cons (.var 0) (.cons (.tup .nil) (.cons (.var 1) .nil))))) .nil)
def B_add (c_plus : Nat) (c_add : Nat) : Ss := (.cons (.ifs (.cmp .Eq (.var 2) (.tup .nil)) (.cons (.ret (.call c_plus (.cons (.var 0) (.cons (.var 1) .nil)))) .nil) .nil) (.cons (.asg 3 (.sl (.var 2) .none (.some (.neg (.int 1))))) (.cons (.ret (.tup (.cons (.call c_add (.cons (.ix (.var 0) (.int 0)) (.cons (.ix (.var 1) (.int 0)) (.cons (.var 3) .nil)))) (.cons (.call c_add (.cons (.ix (.var 0) (.int 1)) (.cons (.ix (.var 1) (.int 1)) (.cons (.var 3) .nil)))) .nil)))) .nil)))
def B_sub (c_minus : Nat) (c_sub : Nat) : Ss := (.cons (.ifs (.cmp .Eq (.var 2) (.tup .nil)) (.cons (.ret (.call c_minus (.cons (.var 0) (.cons (.var 1) .nil)))) .nil) .nil) (.cons (.asg 3 (.sl (.var 2) .none (.some (.neg (.int 1))))) (.cons (.ret (.tup (.cons (.call c_sub (.cons (.ix (.var 0) (.int 0)) (.cons (.ix (.var 1) (.int 0)) (.cons (.var 3) .nil)))) (.cons (.call c_sub (.cons (.ix (.var 0) (.int 1)) (.cons (.ix (.var 1) (.int 1)) (.cons (.var 3) .nil)))) .nil)))) .nil)))
def B_neg (c_sub : Nat) (c_nought : Nat) : Ss := (.cons (.ret (.call c_sub (.cons (.call c_nought (.cons (.var 1) .nil)) (.cons (.var 0) (.cons (.var 1) .nil))))) .nil)
def B_mul (c_times : Nat) (c_is_nought : Nat) (c_mul : Nat) (c_add : Nat) : Ss := (.cons (.ifs (.cmp .Eq (.var 2) (.tup .nil)) (.cons (.ret (.call c_times (.cons (.var 0) (.cons (.var 1) .nil)))) .nil) .nil) (.cons (.par 5 6 (.sl (.var 2) .none (.some (.neg (.int 1)))) (.ix (.var 2) (.neg (.int 1)))) (.cons (.ifs (.and (.call c_is_nought (.cons (.ix (.var 0) (.int 1)) (.cons (.var 5) .nil))) (.call c_is_nought (.cons (.ix (.var 1) (.int 1)) (.cons (.var 5) .nil)))) (.cons (.ret (.tup (.cons (.call c_mul (.cons (.ix (.var 0) (.int 0)) (.cons (.ix (.var 1) (.int 0)) (.cons (.var 5) .nil)))) (.cons (.ix (.var 0) (.int 1)) .nil)))) .nil) .nil) (.cons (.asg 3 (.call c_mul (.cons (.call c_mul (.cons (.ix (.var 0) (.int 1)) (.cons (.ix (.var 1) (.int 1)) (.cons (.var 5) .nil)))) (.cons (.var 6) (.cons (.var 5) .nil))))) (.cons (.asg 4 (.call c_add (.cons (.call c_mul (.cons (.ix (.var 0) (.int 0)) (.cons (.ix (.var 1) (.int 1)) (.cons (.var 5) .nil)))) (.cons (.call c_mul (.cons (.ix (.var 0) (.int 1)) (.cons (.ix (.var 1) (.int 0)) (.cons (.var 5) .nil)))) (.cons (.var 5) .nil))))) (.cons (.ret (.tup (.cons (.call c_add (.cons (.call c_mul (.cons (.ix (.var 0) (.int 0)) (.cons (.ix (.var 1) (.int 0)) (.cons (.var 5) .nil)))) (.cons (.var 3) (.cons (.var 5) .nil)))) (.cons (.var 4) .nil)))) .nil))))))
def B_is_nought (c_is_nought : Nat) : Ss := (.cons (.ifs (.cmp .Eq (.var 1) (.tup .nil)) (.cons (.ret (.cmp .Eq (.ix (.var 0) (.int 0)) (.int 0))) .nil) .nil) (.cons (.ret (.and (.call c_is_nought (.cons (.ix (.var 0) (.int 0)) (.cons (.sl (.var 1) .none (.some (.neg (.int 1)))) .nil))) (.call c_is_nought (.cons (.ix (.var 0) (.int 1)) (.cons (.sl (.var 1) .none (.some (.neg (.int 1)))) .nil))))) .nil))
def B_scaled (c_times : Nat) (c_scaled : Nat) : Ss := (.cons (.ifs (.cmp .Eq (.var 2) (.tup .nil)) (.cons (.ret (.call c_times (.cons (.var 0) (.cons (.var 1) .nil)))) .nil) .nil) (.cons (.ret (.tup (.cons (.call c_scaled (.cons (.ix (.var 0) (.int 0)) (.cons (.var 1) (.cons (.sl (.var 2) .none (.some (.neg (.int 1)))) .nil)))) (.cons (.call c_scaled (.cons (.ix (.var 0) (.int 1)) (.cons (.var 1) (.cons (.sl (.var 2) .none (.some (.neg (.int 1)))) .nil)))) .nil)))) .nil))
def B_norm (c_sub : Nat) (c_mul : Nat) : Ss := (.cons (.asg 2 (.sl (.var 1) .none (.some (.neg (.int 1))))) (.cons (.ret (.call c_sub (.cons (.call c_mul (.cons (.ix (.var 0) (.int 0)) (.cons (.ix (.var 0) (.int 0)) (.cons (.var 2) .nil)))) (.cons (.call c_mul (.cons (.call c_mul (.cons (.ix (.var 0) (.int 1)) (.cons (.ix (.var 0) (.int 1)) (.cons (.var 2) .nil)))) (.cons (.ix (.var 1) (.neg (.int 1))) (.cons (.var 2) .nil)))) (.cons (.var 2) .nil))))) .nil))
def B_sign (c_sign_of : Nat) (c_sign : Nat) (c_norm : Nat) : Ss := (.cons (.ifs (.cmp .Eq (.var 1) (.tup .nil)) (.cons (.ret (.call c_sign_of (.cons (.var 0) .nil))) .nil) .nil) (.cons (.par 2 3 (.call c_sign (.cons (.ix (.var 0) (.int 0)) (.cons (.sl (.var 1) .none (.some (.neg (.int 1)))) .nil))) (.call c_sign (.cons (.ix (.var 0) (.int 1)) (.cons (.sl (.var 1) .none (.some (.neg (.int 1)))) .nil)))) (.cons (.ifs (.or (.cmp .Eq (.var 3) (.int 0)) (.cmp .Eq (.var 2) (.var 3))) (.cons (.ret (.var 2)) .nil) .nil) (.cons (.ifs (.cmp .Eq (.var 2) (.int 0)) (.cons (.ret (.var 3)) .nil) .nil) (.cons (.ret (.op .Mult (.var 2) (.call c_sign (.cons (.call c_norm (.cons (.var 0) (.cons (.var 1) .nil))) (.cons (.sl (.var 1) .none (.some (.neg (.int 1)))) .nil))))) .nil)))))
def B_inverse (c_frac : Nat) (c_norm : Nat) (c_sign : Nat) (c_lifted : Nat) (c_inverse : Nat) (c_scaled : Nat) (c_neg : Nat) (c_mul : Nat) : Ss := (.cons (.ifs (.cmp .Eq (.var 1) (.tup .nil)) (.cons (.ret (.call c_frac (.cons (.ix (.var 0) (.int 1)) (.cons (.ix (.var 0) (.int 0)) .nil)))) .nil) .nil) (.cons (.par 3 4 (.sl (.var 1) .none (.some (.neg (.int 1)))) (.call c_norm (.cons (.var 0) (.cons (.var 1) .nil)))) (.cons (.ifs (.cmp .Eq (.call c_sign (.cons (.var 4) (.cons (.var 3) .nil))) (.int 0)) (.cons (.ret (.call c_lifted (.cons (.call c_inverse (.cons (.call c_scaled (.cons (.ix (.var 0) (.int 0)) (.cons (.tup (.cons (.int 2) (.cons (.int 1) .nil))) (.cons (.var 3) .nil)))) (.cons (.var 3) .nil))) (.cons (.var 3) (.cons (.var 1) .nil))))) .nil) .nil) (.cons (.asg 2 (.call c_inverse (.cons (.var 4) (.cons (.var 3) .nil)))) (.cons (.ret (.tup (.cons (.call c_mul (.cons (.ix (.var 0) (.int 0)) (.cons (.var 2) (.cons (.var 3) .nil)))) (.cons (.call c_neg (.cons (.call c_mul (.cons (.ix (.var 0) (.int 1)) (.cons (.var 2) (.cons (.var 3) .nil)))) (.cons (.var 3) .nil))) .nil)))) .nil)))))
def B_div (c_mul : Nat) (c_inverse : Nat) : Ss := (.cons (.ret (.call c_mul (.cons (.var 0) (.cons (.call c_inverse (.cons (.var 1) (.cons (.var 2) .nil))) (.cons (.var 2) .nil))))) .nil)
def B_compare (c_sign : Nat) (c_sub : Nat) : Ss := (.cons (.ret (.call c_sign (.cons (.call c_sub (.cons (.var 0) (.cons (.var 1) (.cons (.var 2) .nil)))) (.cons (.var 2) .nil)))) .nil)
def B_with_root (c_fraction_of : Nat) (c_exact_root : Nat) (c_number : Nat) (c_compare : Nat) (c_lifted : Nat) (c_nought : Nat) : Ss := (.cons (.asg 2 (.call c_fraction_of (.cons (.var 0) (.cons (.var 1) .nil)))) (.cons (.ifs (.and (.cmp .IsNot (.var 2) .non) (.cmp .IsNot (.call c_exact_root (.cons (.var 2) .nil)) .non)) (.cons (.ret (.tup (.cons (.var 1) (.cons (.call c_number (.cons (.call c_exact_root (.cons (.var 2) .nil)) (.cons (.var 1) .nil))) .nil)))) .nil) .nil) (.cons (.for_ (.nm 3) (.rng1 (.bi .len (.cons (.var 1) .nil))) (.cons (.ifs (.cmp .Eq (.call c_compare (.cons (.var 0) (.cons (.call c_lifted (.cons (.ix (.var 1) (.var 3)) (.cons (.sl (.var 1) .none (.some (.var 3))) (.cons (.var 1) .nil)))) (.cons (.var 1) .nil)))) (.int 0)) (.cons (.ret (.tup (.cons (.var 1) (.cons (.call c_lifted (.cons (.tup (.cons (.call c_nought (.cons (.sl (.var 1) .none (.some (.var 3))) .nil)) (.cons (.call c_number (.cons (.tup (.cons (.int 1) (.cons (.int 1) .nil))) (.cons (.sl (.var 1) .none (.some (.var 3))) .nil))) .nil))) (.cons (.sl (.var 1) .none (.some (.op .Add (.var 3) (.int 1)))) (.cons (.var 1) .nil)))) .nil)))) .nil) .nil) .nil)) (.cons (.asg 4 (.op .Add (.var 1) (.tup (.cons (.var 0) .nil)))) (.cons (.ret (.tup (.cons (.var 4) (.cons (.tup (.cons (.call c_nought (.cons (.var 1) .nil)) (.cons (.call c_number (.cons (.tup (.cons (.int 1) (.cons (.int 1) .nil))) (.cons (.var 1) .nil))) .nil))) .nil)))) .nil)))))
def B_fraction_of (c_is_nought : Nat) : Ss := (.cons (.for_ (.nm 2) (.rng3 (.bi .len (.cons (.var 1) .nil)) (.int 0) (.neg (.int 1))) (.cons (.ifs (.not (.call c_is_nought (.cons (.ix (.var 0) (.int 1)) (.cons (.sl (.var 1) .none (.some (.op .Sub (.var 2) (.int 1)))) .nil)))) (.cons (.ret .non) .nil) .nil) (.cons (.asg 0 (.ix (.var 0) (.int 0))) .nil))) (.cons (.ret (.var 0)) .nil))
def B_vector (c_number : Nat) : Ss := (.cons (.ret (.bi .tuple (.cons (.lc (.call c_number (.cons (.var 2) (.cons (.var 1) .nil))) (.nm 2) (.seq (.var 0)) .none) .nil))) .nil)
def B_raised (c_lifted : Nat) : Ss := (.cons (.ret (.bi .tuple (.cons (.lc (.call c_lifted (.cons (.var 3) (.cons (.var 1) (.cons (.var 2) .nil)))) (.nm 3) (.seq (.var 0)) .none) .nil))) .nil)
def B_plus_all (c_add : Nat) : Ss := (.cons (.ret (.bi .tuple (.cons (.lc (.call c_add (.cons (.var 3) (.cons (.var 4) (.cons (.var 2) .nil)))) (.tp [3, 4]) (.zip2 (.var 0) (.var 1)) .none) .nil))) .nil)
def B_minus_all (c_sub : Nat) : Ss := (.cons (.ret (.bi .tuple (.cons (.lc (.call c_sub (.cons (.var 3) (.cons (.var 4) (.cons (.var 2) .nil)))) (.tp [3, 4]) (.zip2 (.var 0) (.var 1)) .none) .nil))) .nil)
def B_by (c_mul : Nat) : Ss := (.cons (.ret (.bi .tuple (.cons (.lc (.call c_mul (.cons (.var 3) (.cons (.var 1) (.cons (.var 2) .nil)))) (.nm 3) (.seq (.var 0)) .none) .nil))) .nil)
def B_dot (c_mul : Nat) (c_add : Nat) : Ss := (.cons (.asgT [3, 4, 5] (.lc (.call c_mul (.cons (.var 6) (.cons (.var 7) (.cons (.var 2) .nil)))) (.tp [6, 7]) (.zip2 (.var 0) (.var 1)) .none)) (.cons (.ret (.call c_add (.cons (.call c_add (.cons (.var 3) (.cons (.var 4) (.cons (.var 2) .nil)))) (.cons (.var 5) (.cons (.var 2) .nil))))) .nil))
def B_along (c_plus_all : Nat) (c_by : Nat) : Ss := (.cons (.ret (.call c_plus_all (.cons (.var 0) (.cons (.call c_by (.cons (.var 1) (.cons (.var 2) (.cons (.var 3) .nil)))) (.cons (.var 3) .nil))))) .nil)
def B_halves_of (c_minus : Nat) : Ss := (.cons (.own 1) (.cons (.for_ (.nm 2) (.rng1 (.int 3)) (.cons (.asg 3 (.bi .tuple (.cons (.lc (.ife (.cmp .Eq (.var 4) (.var 2)) (.tup (.cons (.neg (.int 1)) (.cons (.int 1) .nil))) (.tup (.cons (.int 0) (.cons (.int 1) .nil)))) (.nm 4) (.rng1 (.int 3)) .none) .nil))) (.cons (.app 1 (.tup (.cons (.str "half") (.cons (.var 3) (.cons (.call c_minus (.cons (.tup (.cons (.int 0) (.cons (.int 1) .nil))) (.cons (.ix (.ix (.var 0) (.int 1)) (.var 2)) .nil))) .nil))))) (.cons (.app 1 (.tup (.cons (.str "half") (.cons (.bi .tuple (.cons (.lc (.call c_minus (.cons (.tup (.cons (.int 0) (.cons (.int 1) .nil))) (.cons (.var 5) .nil))) (.nm 5) (.seq (.var 3)) .none) .nil)) (.cons (.ix (.ix (.var 0) (.int 2)) (.var 2)) .nil))))) .nil)))) (.cons (.ret (.bi .tuple (.cons (.var 1) .nil))) .nil)))
def B_plain_body (c_halves_of : Nat) (c_plain_body : Nat) : Ss := (.cons (.ifs (.cmp .Eq (.ix (.var 0) (.int 0)) (.str "box")) (.cons (.par 2 3 .non (.call c_halves_of (.cons (.var 0) .nil))) (.cons (.for_ (.nm 1) (.seq (.rev (.var 3))) (.cons (.asg 2 (.ife (.cmp .Is (.var 2) .non) (.var 1) (.tup (.cons (.str "both") (.cons (.var 1) (.cons (.var 2) .nil)))))) .nil)) (.cons (.ret (.var 2)) .nil))) .nil) (.cons (.ifs (.cmp .In (.ix (.var 0) (.int 0)) (.con "JOINS" ["both", "either", "without"])) (.cons (.ret (.tup (.cons (.ix (.var 0) (.int 0)) (.cons (.call c_plain_body (.cons (.ix (.var 0) (.int 1)) .nil)) (.cons (.call c_plain_body (.cons (.ix (.var 0) (.int 2)) .nil)) .nil))))) .nil) .nil) (.cons (.ret (.var 0)) .nil)))
def B_quad_at (c_nought : Nat) (c_products_of : Nat) (c_add : Nat) (c_scaled : Nat) : Ss := (.cons (.par 3 4 (.call c_nought (.cons (.var 2) .nil)) (.op .Add (.call c_products_of (.cons (.var 1) (.cons (.var 2) .nil))) (.bi .list (.cons (.var 1) .nil)))) (.cons (.for_ (.tp [5, 6]) (.zip2 (.var 0) (.var 4)) (.cons (.asg 3 (.call c_add (.cons (.var 3) (.cons (.call c_scaled (.cons (.var 6) (.cons (.var 5) (.cons (.var 2) .nil)))) (.cons (.var 2) .nil))))) .nil)) (.cons (.ret (.var 3)) .nil)))
def B_products_of (c_mul : Nat) : Ss := (.cons (.asgT [3, 4, 5] (.var 0)) (.cons (.asg 2 (.tup (.cons (.tup (.cons (.var 3) (.cons (.var 3) .nil))) (.cons (.tup (.cons (.var 4) (.cons (.var 4) .nil))) (.cons (.tup (.cons (.var 5) (.cons (.var 5) .nil))) (.cons (.tup (.cons (.var 4) (.cons (.var 5) .nil))) (.cons (.tup (.cons (.var 5) (.cons (.var 3) .nil))) (.cons (.tup (.cons (.var 3) (.cons (.var 4) .nil))) .nil)))))))) (.cons (.ret (.lc (.call c_mul (.cons (.var 6) (.cons (.var 7) (.cons (.var 1) .nil)))) (.tp [6, 7]) (.seq (.var 2)) .none)) .nil)))
def B_slope_at (c_number : Nat) (c_add : Nat) (c_scaled : Nat) (c_times : Nat) : Ss := (.cons (.asgT [6, 7, 8, 9, 10, 11, 12, 13, 14] (.var 0)) (.cons (.asgT [15, 16, 17] (.var 1)) (.cons (.asg 3 (.tup (.cons (.tup (.cons (.var 6) (.cons (.var 15) (.cons (.int 2) .nil)))) (.cons (.tup (.cons (.var 11) (.cons (.var 16) (.cons (.int 1) .nil)))) (.cons (.tup (.cons (.var 10) (.cons (.var 17) (.cons (.int 1) .nil)))) (.cons (.var 12) .nil)))))) (.cons (.asg 4 (.tup (.cons (.var 3) (.cons (.tup (.cons (.tup (.cons (.var 7) (.cons (.var 16) (.cons (.int 2) .nil)))) (.cons (.tup (.cons (.var 9) (.cons (.var 17) (.cons (.int 1) .nil)))) (.cons (.tup (.cons (.var 11) (.cons (.var 15) (.cons (.int 1) .nil)))) (.cons (.var 13) .nil))))) (.cons (.tup (.cons (.tup (.cons (.var 8) (.cons (.var 17) (.cons (.int 2) .nil)))) (.cons (.tup (.cons (.var 9) (.cons (.var 16) (.cons (.int 1) .nil)))) (.cons (.tup (.cons (.var 10) (.cons (.var 15) (.cons (.int 1) .nil)))) (.cons (.var 14) .nil))))) .nil))))) (.cons (.own 5) (.cons (.for_ (.tp [3, 18, 19, 20]) (.seq (.var 4)) (.cons (.asg 21 (.call c_number (.cons (.var 20) (.cons (.var 2) .nil)))) (.cons (.for_ (.tp [22, 23, 24]) (.seq (.tup (.cons (.var 3) (.cons (.var 18) (.cons (.var 19) .nil))))) (.cons (.asg 21 (.call c_add (.cons (.var 21) (.cons (.call c_scaled (.cons (.var 23) (.cons (.call c_times (.cons (.var 22) (.cons (.tup (.cons (.var 24) (.cons (.int 1) .nil))) .nil))) (.cons (.var 2) .nil)))) (.cons (.var 2) .nil))))) .nil)) (.cons (.app 5 (.var 21)) .nil)))) (.cons (.ret (.bi .tuple (.cons (.var 5) .nil))) .nil)))))))
def B_normal_at (c_minus_all : Nat) (c_vector : Nat) (c_slope_at : Nat) : Ss := (.cons (.ifs (.cmp .Eq (.ix (.var 0) (.int 0)) (.str "ball")) (.cons (.ret (.call c_minus_all (.cons (.var 1) (.cons (.call c_vector (.cons (.ix (.var 0) (.int 1)) (.cons (.var 2) .nil))) (.cons (.var 2) .nil))))) .nil) .nil) (.cons (.ifs (.cmp .Eq (.ix (.var 0) (.int 0)) (.str "quad")) (.cons (.ret (.call c_slope_at (.cons (.ix (.var 0) (.int 1)) (.cons (.var 1) (.cons (.var 2) .nil))))) .nil) .nil) (.cons (.ret (.call c_vector (.cons (.ix (.var 0) (.int 1)) (.cons (.var 2) .nil)))) .nil)))
def B_plain_time (c_nought : Nat) : Ss := (.cons (.ret (.tup (.cons (.var 0) (.cons (.call c_nought (.cons (.var 1) .nil)) (.cons (.call c_nought (.cons (.var 1) .nil)) .nil))))) .nil)
def B_time_number (c_is_nought : Nat) (c_with_root : Nat) (c_add : Nat) (c_mul : Nat) (c_lifted : Nat) : Ss := (.cons (.asgT [2, 3, 4] (.var 0)) (.cons (.ifs (.or (.call c_is_nought (.cons (.var 3) (.cons (.var 1) .nil))) (.call c_is_nought (.cons (.var 4) (.cons (.var 1) .nil)))) (.cons (.ret (.tup (.cons (.var 1) (.cons (.var 2) .nil)))) .nil) .nil) (.cons (.asgT [5, 6] (.call c_with_root (.cons (.var 4) (.cons (.var 1) .nil)))) (.cons (.ret (.tup (.cons (.var 5) (.cons (.call c_add (.cons (.call c_lifted (.cons (.var 2) (.cons (.var 1) (.cons (.var 5) .nil)))) (.cons (.call c_mul (.cons (.call c_lifted (.cons (.var 3) (.cons (.var 1) (.cons (.var 5) .nil)))) (.cons (.var 6) (.cons (.var 5) .nil)))) (.cons (.var 5) .nil)))) .nil)))) .nil))))
def B_raised_time (c_lifted : Nat) : Ss := (.cons (.ret (.bi .tuple (.cons (.lc (.call c_lifted (.cons (.var 3) (.cons (.var 1) (.cons (.var 2) .nil)))) (.nm 3) (.seq (.var 0)) .none) .nil))) .nil)
def B_compare_times (c_time_number : Nat) (c_raised_time : Nat) (c_sign : Nat) (c_sub : Nat) (c_lifted : Nat) : Ss := (.cons (.ifs (.cmp .Eq (.var 0) (.var 1)) (.cons (.ret (.int 0)) .nil) .nil) (.cons (.asgT [3, 4] (.call c_time_number (.cons (.var 0) (.cons (.var 2) .nil)))) (.cons (.asgT [5, 6] (.call c_time_number (.cons (.call c_raised_time (.cons (.var 1) (.cons (.var 2) (.cons (.var 3) .nil)))) (.cons (.var 3) .nil)))) (.cons (.ret (.call c_sign (.cons (.call c_sub (.cons (.call c_lifted (.cons (.var 4) (.cons (.var 3) (.cons (.var 5) .nil)))) (.cons (.var 6) (.cons (.var 5) .nil)))) (.cons (.var 5) .nil)))) .nil))))
def B_sign_of_time (c_compare_times : Nat) (c_plain_time : Nat) (c_nought : Nat) : Ss := (.cons (.ret (.call c_compare_times (.cons (.var 0) (.cons (.call c_plain_time (.cons (.call c_nought (.cons (.var 1) .nil)) (.cons (.var 1) .nil))) (.cons (.var 1) .nil))))) .nil)
def B_times_of (c_vector : Nat) (c_dot : Nat) (c_sign : Nat) (c_sub : Nat) (c_number : Nat) (c_plain_time : Nat) (c_div : Nat) (c_quad_times : Nat) (c_parts_along : Nat) (c_minus_all : Nat) (c_mul : Nat) (c_inverse : Nat) (c_neg : Nat) : Ss := (.cons (.asgT [7, 8, 9] (.var 1)) (.cons (.ifs (.cmp .Eq (.ix (.var 0) (.int 0)) (.str "half")) (.cons (.asg 10 (.call c_vector (.cons (.ix (.var 0) (.int 1)) (.cons (.var 7) .nil)))) (.cons (.asg 11 (.call c_dot (.cons (.var 10) (.cons (.var 9) (.cons (.var 7) .nil))))) (.cons (.ifs (.cmp .Eq (.call c_sign (.cons (.var 11) (.cons (.var 7) .nil))) (.int 0)) (.cons (.ret (.tup .nil)) .nil) .nil) (.cons (.asg 12 (.call c_sub (.cons (.call c_number (.cons (.ix (.var 0) (.int 2)) (.cons (.var 7) .nil))) (.cons (.call c_dot (.cons (.var 10) (.cons (.var 8) (.cons (.var 7) .nil)))) (.cons (.var 7) .nil))))) (.cons (.ret (.tup (.cons (.call c_plain_time (.cons (.call c_div (.cons (.var 12) (.cons (.var 11) (.cons (.var 7) .nil)))) (.cons (.var 7) .nil))) .nil))) .nil))))) .nil) (.cons (.ifs (.cmp .Eq (.ix (.var 0) (.int 0)) (.str "quad")) (.cons (.ret (.call c_quad_times (.cons (.call c_parts_along (.cons (.var 0) (.cons (.var 1) .nil))) (.cons (.var 7) .nil)))) .nil) .nil) (.cons (.asg 2 (.call c_minus_all (.cons (.var 8) (.cons (.call c_vector (.cons (.ix (.var 0) (.int 1)) (.cons (.var 7) .nil))) (.cons (.var 7) .nil))))) (.cons (.par 13 14 (.call c_dot (.cons (.var 9) (.cons (.var 9) (.cons (.var 7) .nil)))) (.call c_dot (.cons (.var 9) (.cons (.var 2) (.cons (.var 7) .nil))))) (.cons (.asg 3 (.call c_sub (.cons (.call c_dot (.cons (.var 2) (.cons (.var 2) (.cons (.var 7) .nil)))) (.cons (.call c_number (.cons (.ix (.var 0) (.int 2)) (.cons (.var 7) .nil))) (.cons (.var 7) .nil))))) (.cons (.asg 4 (.call c_sub (.cons (.call c_mul (.cons (.var 14) (.cons (.var 14) (.cons (.var 7) .nil)))) (.cons (.call c_mul (.cons (.var 13) (.cons (.var 3) (.cons (.var 7) .nil)))) (.cons (.var 7) .nil))))) (.cons (.ifs (.cmp .LtE (.call c_sign (.cons (.var 4) (.cons (.var 7) .nil))) (.int 0)) (.cons (.ret (.tup .nil)) .nil) .nil) (.cons (.asg 5 (.call c_inverse (.cons (.var 13) (.cons (.var 7) .nil)))) (.cons (.asg 6 (.call c_neg (.cons (.call c_mul (.cons (.var 14) (.cons (.var 5) (.cons (.var 7) .nil)))) (.cons (.var 7) .nil)))) (.cons (.ret (.tup (.cons (.tup (.cons (.var 6) (.cons (.call c_neg (.cons (.var 5) (.cons (.var 7) .nil))) (.cons (.var 4) .nil)))) (.cons (.tup (.cons (.var 6) (.cons (.var 5) (.cons (.var 4) .nil)))) .nil)))) .nil)))))))))))
def B_parts_along (c_quad_at : Nat) (c_dot : Nat) (c_slope_at : Nat) (c_add : Nat) (c_number : Nat) : Ss := (.cons (.asgT [5, 6, 7] (.var 1)) (.cons (.asg 2 (.ix (.var 0) (.int 1))) (.cons (.asg 3 (.call c_quad_at (.cons (.op .Add (.sl (.var 2) .none (.some (.int 6))) (.op .Mult (.tup (.cons (.tup (.cons (.int 0) (.cons (.int 1) .nil))) .nil)) (.int 3))) (.cons (.var 7) (.cons (.var 5) .nil))))) (.cons (.asg 4 (.call c_dot (.cons (.call c_slope_at (.cons (.var 2) (.cons (.var 6) (.cons (.var 5) .nil)))) (.cons (.var 7) (.cons (.var 5) .nil))))) (.cons (.ret (.tup (.cons (.var 3) (.cons (.var 4) (.cons (.call c_add (.cons (.call c_quad_at (.cons (.var 2) (.cons (.var 6) (.cons (.var 5) .nil)))) (.cons (.call c_number (.cons (.ix (.var 0) (.int 2)) (.cons (.var 5) .nil))) (.cons (.var 5) .nil)))) .nil))))) .nil)))))
def B_quad_times (c_sign : Nat) (c_plain_time : Nat) (c_neg : Nat) (c_div : Nat) (c_sub : Nat) (c_scaled : Nat) (c_mul : Nat) (c_inverse : Nat) : Ss := (.cons (.asgT [5, 6, 7] (.var 0)) (.cons (.asg 2 (.call c_sign (.cons (.var 5) (.cons (.var 1) .nil)))) (.cons (.ifs (.cmp .Eq (.var 2) (.int 0)) (.cons (.ret (.ife (.cmp .NotEq (.call c_sign (.cons (.var 6) (.cons (.var 1) .nil))) (.int 0)) (.tup (.cons (.call c_plain_time (.cons (.call c_neg (.cons (.call c_div (.cons (.var 7) (.cons (.var 6) (.cons (.var 1) .nil)))) (.cons (.var 1) .nil))) (.cons (.var 1) .nil))) .nil)) (.tup .nil))) .nil) .nil) (.cons (.asg 3 (.call c_sub (.cons (.call c_mul (.cons (.var 6) (.cons (.var 6) (.cons (.var 1) .nil)))) (.cons (.call c_scaled (.cons (.call c_mul (.cons (.var 5) (.cons (.var 7) (.cons (.var 1) .nil)))) (.cons (.tup (.cons (.int 4) (.cons (.int 1) .nil))) (.cons (.var 1) .nil)))) (.cons (.var 1) .nil))))) (.cons (.ifs (.cmp .LtE (.call c_sign (.cons (.var 3) (.cons (.var 1) .nil))) (.int 0)) (.cons (.ret (.tup .nil)) .nil) .nil) (.cons (.asg 4 (.call c_scaled (.cons (.call c_inverse (.cons (.var 5) (.cons (.var 1) .nil))) (.cons (.tup (.cons (.int 1) (.cons (.int 2) .nil))) (.cons (.var 1) .nil))))) (.cons (.par 8 9 (.call c_neg (.cons (.call c_mul (.cons (.var 6) (.cons (.var 4) (.cons (.var 1) .nil)))) (.cons (.var 1) .nil))) (.ife (.cmp .Gt (.var 2) (.int 0)) (.var 4) (.call c_neg (.cons (.var 4) (.cons (.var 1) .nil))))) (.cons (.ret (.tup (.cons (.tup (.cons (.var 8) (.cons (.call c_neg (.cons (.var 9) (.cons (.var 1) .nil))) (.cons (.var 3) .nil)))) (.cons (.tup (.cons (.var 8) (.cons (.var 9) (.cons (.var 3) .nil)))) .nil)))) .nil))))))))
def B_quad_begins (c_sign : Nat) : Ss := (.cons (.asgT [2, 3, 4] (.lc (.call c_sign (.cons (.var 5) (.cons (.var 1) .nil))) (.nm 5) (.seq (.var 0)) .none)) (.cons (.ifs (.cmp .NotEq (.var 2) (.int 0)) (.cons (.ret (.cmp .Lt (.var 2) (.int 0))) .nil) .nil) (.cons (.ret (.ife (.cmp .NotEq (.var 3) (.int 0)) (.cmp .Gt (.var 3) (.int 0)) (.cmp .Lt (.var 4) (.int 0)))) .nil)))
def B_begins_in (c_quad_begins : Nat) (c_parts_along : Nat) (c_vector : Nat) (c_sign : Nat) (c_dot : Nat) (c_sub : Nat) (c_number : Nat) : Ss := (.cons (.asgT [4, 5, 6] (.var 1)) (.cons (.ifs (.cmp .Eq (.ix (.var 0) (.int 0)) (.str "ball")) (.cons (.ret (.bl false)) .nil) .nil) (.cons (.ifs (.cmp .Eq (.ix (.var 0) (.int 0)) (.str "quad")) (.cons (.ret (.call c_quad_begins (.cons (.call c_parts_along (.cons (.var 0) (.cons (.var 1) .nil))) (.cons (.var 4) .nil)))) .nil) .nil) (.cons (.asg 2 (.call c_vector (.cons (.ix (.var 0) (.int 1)) (.cons (.var 4) .nil)))) (.cons (.asg 3 (.call c_sign (.cons (.call c_dot (.cons (.var 2) (.cons (.var 6) (.cons (.var 4) .nil)))) (.cons (.var 4) .nil)))) (.cons (.ifs (.cmp .NotEq (.var 3) (.int 0)) (.cons (.ret (.cmp .Gt (.var 3) (.int 0))) .nil) .nil) (.cons (.ret (.cmp .Lt (.call c_sign (.cons (.call c_sub (.cons (.call c_dot (.cons (.var 2) (.cons (.var 5) (.cons (.var 4) .nil)))) (.cons (.call c_number (.cons (.ix (.var 0) (.int 2)) (.cons (.var 4) .nil))) (.cons (.var 4) .nil)))) (.cons (.var 4) .nil))) (.int 0))) .nil)))))))
def B_crossing (c_cross_plain : Nat) (c_plain_body : Nat) : Ss := (.cons (.ret (.call c_cross_plain (.cons (.call c_plain_body (.cons (.var 0) .nil)) (.cons (.var 1) .nil)))) .nil)
def B_cross_plain (c_times_of : Nat) (c_begins_in : Nat) (c_cross_plain : Nat) (c_joined : Nat) : Ss := (.cons (.ifs (.cmp .NotIn (.ix (.var 0) (.int 0)) (.con "JOINS" ["both", "either", "without"])) (.cons (.ret (.tup (.cons (.call c_begins_in (.cons (.var 0) (.cons (.var 1) .nil))) (.cons (.bi .tuple (.cons (.lc (.tup (.cons (.var 4) (.cons (.var 0) (.cons (.bl false) .nil)))) (.nm 4) (.seq (.call c_times_of (.cons (.var 0) (.cons (.var 1) .nil)))) .none) .nil)) .nil)))) .nil) .nil) (.cons (.par 2 3 (.call c_cross_plain (.cons (.ix (.var 0) (.int 1)) (.cons (.var 1) .nil))) (.call c_cross_plain (.cons (.ix (.var 0) (.int 2)) (.cons (.var 1) .nil)))) (.cons (.ret (.call c_joined (.cons (.ix (.var 0) (.int 0)) (.cons (.var 2) (.cons (.var 3) (.cons (.ix (.var 1) (.int 0)) .nil)))))) .nil)))
def B_holds : Ss := (.cons (.ifs (.cmp .Eq (.var 0) (.str "both")) (.cons (.ret (.and (.var 1) (.var 2))) .nil) .nil) (.cons (.ret (.ife (.cmp .Eq (.var 0) (.str "either")) (.or (.var 1) (.var 2)) (.and (.var 1) (.not (.var 2))))) .nil))
def B_joined (c_holds : Nat) (c_order_of : Nat) (c_flipped : Nat) : Ss := (.cons (.par 5 6 (.ix (.var 1) (.int 0)) (.ix (.var 2) (.int 0))) (.cons (.par3L 7 8 9 (.bi .list (.cons (.ix (.var 1) (.int 1)) .nil)) (.bi .list (.cons (.ix (.var 2) (.int 1)) .nil))) (.cons (.asg 4 (.call c_holds (.cons (.var 0) (.cons (.var 5) (.cons (.var 6) .nil))))) (.cons (.whl (.or (.cmp .NotEq (.var 7) (.lst .nil)) (.cmp .NotEq (.var 8) (.lst .nil))) (.cons (.asg 10 (.call c_order_of (.cons (.var 7) (.cons (.var 8) (.cons (.var 3) .nil))))) (.cons (.asg 11 (.ife (.cmp .LtE (.var 10) (.int 0)) (.ix (.var 7) (.int 0)) (.call c_flipped (.cons (.var 0) (.cons (.ix (.var 8) (.int 0)) .nil))))) (.cons (.ifs (.cmp .LtE (.var 10) (.int 0)) (.cons (.par 5 7 (.not (.var 5)) (.sl (.var 7) (.some (.int 1)) .none)) .nil) .nil) (.cons (.ifs (.cmp .GtE (.var 10) (.int 0)) (.cons (.par 6 8 (.not (.var 6)) (.sl (.var 8) (.some (.int 1)) .none)) .nil) .nil) (.cons (.ifs (.cmp .NotEq (.call c_holds (.cons (.var 0) (.cons (.var 5) (.cons (.var 6) .nil)))) (.var 4)) (.cons (.asg 4 (.not (.var 4))) (.cons (.app 9 (.var 11)) .nil)) .nil) .nil)))))) (.cons (.ret (.tup (.cons (.call c_holds (.cons (.var 0) (.cons (.ix (.var 1) (.int 0)) (.cons (.ix (.var 2) (.int 0)) .nil)))) (.cons (.bi .tuple (.cons (.var 9) .nil)) .nil)))) .nil)))))
def B_order_of (c_compare_times : Nat) : Ss := (.cons (.ifs (.or (.cmp .Eq (.var 0) (.lst .nil)) (.cmp .Eq (.var 1) (.lst .nil))) (.cons (.ret (.ife (.cmp .Eq (.var 1) (.lst .nil)) (.neg (.int 1)) (.int 1))) .nil) .nil) (.cons (.ret (.call c_compare_times (.cons (.ix (.ix (.var 0) (.int 0)) (.int 0)) (.cons (.ix (.ix (.var 1) (.int 0)) (.int 0)) (.cons (.var 2) .nil))))) .nil))
def B_flipped : Ss := (.cons (.asgT [2, 3, 4] (.var 1)) (.cons (.ret (.tup (.cons (.var 2) (.cons (.var 3) (.cons (.ife (.cmp .Eq (.var 0) (.str "without")) (.not (.var 4)) (.var 4)) .nil))))) .nil))
def B_first_change (c_crossing : Nat) (c_sign_of_time : Nat) : Ss := (.cons (.asgT [2, 3] (.call c_crossing (.cons (.var 0) (.cons (.var 1) .nil)))) (.cons (.for_ (.tp [4, 5, 6]) (.seq (.var 3)) (.cons (.asg 2 (.not (.var 2))) (.cons (.ifs (.cmp .Gt (.call c_sign_of_time (.cons (.var 4) (.cons (.ix (.var 1) (.int 0)) .nil))) (.int 0)) (.cons (.ret (.tup (.cons (.var 4) (.cons (.var 5) (.cons (.var 6) (.cons (.var 2) .nil)))))) .nil) .nil) .nil))) (.cons (.ret .non) .nil)))
def B_point_at (c_time_number : Nat) (c_along : Nat) (c_raised : Nat) : Ss := (.cons (.asgT [2, 3, 4] (.var 0)) (.cons (.asgT [5, 6] (.call c_time_number (.cons (.var 1) (.cons (.var 2) .nil)))) (.cons (.ret (.tup (.cons (.var 5) (.cons (.call c_along (.cons (.call c_raised (.cons (.var 3) (.cons (.var 2) (.cons (.var 5) .nil)))) (.cons (.call c_raised (.cons (.var 4) (.cons (.var 2) (.cons (.var 5) .nil)))) (.cons (.var 6) (.cons (.var 5) .nil))))) .nil)))) .nil)))
def B_raised_ray (c_raised : Nat) : Ss := (.cons (.asgT [2, 3, 4] (.var 0)) (.cons (.ret (.tup (.cons (.var 1) (.cons (.call c_raised (.cons (.var 3) (.cons (.var 2) (.cons (.var 1) .nil)))) (.cons (.call c_raised (.cons (.var 4) (.cons (.var 2) (.cons (.var 1) .nil)))) .nil))))) .nil))
def B_met_at (c_point_at : Nat) (c_normal_at : Nat) (c_neg : Nat) (c_raised_ray : Nat) : Ss := (.cons (.asgT [3, 4, 5, 6] (.var 1)) (.cons (.asgT [7, 8] (.call c_point_at (.cons (.var 0) (.cons (.var 3) .nil)))) (.cons (.asg 2 (.call c_normal_at (.cons (.var 4) (.cons (.var 8) (.cons (.var 7) .nil))))) (.cons (.ifs (.var 5) (.cons (.asg 2 (.bi .tuple (.cons (.lc (.call c_neg (.cons (.var 9) (.cons (.var 7) .nil))) (.nm 9) (.seq (.var 2)) .none) .nil))) .nil) .nil) (.cons (.ret (.tup (.cons (.call c_raised_ray (.cons (.var 0) (.cons (.var 7) .nil))) (.cons (.var 8) (.cons (.var 2) .nil))))) .nil)))))
def B_thrown_back (c_scaled : Nat) (c_div : Nat) (c_dot : Nat) (c_minus_all : Nat) (c_by : Nat) : Ss := (.cons (.asgT [4, 5, 6] (.var 0)) (.cons (.asg 3 (.call c_scaled (.cons (.call c_div (.cons (.call c_dot (.cons (.var 6) (.cons (.var 2) (.cons (.var 4) .nil)))) (.cons (.call c_dot (.cons (.var 2) (.cons (.var 2) (.cons (.var 4) .nil)))) (.cons (.var 4) .nil)))) (.cons (.tup (.cons (.int 2) (.cons (.int 1) .nil))) (.cons (.var 4) .nil))))) (.cons (.ret (.tup (.cons (.var 4) (.cons (.var 1) (.cons (.call c_minus_all (.cons (.var 6) (.cons (.call c_by (.cons (.var 2) (.cons (.var 3) (.cons (.var 4) .nil)))) (.cons (.var 4) .nil)))) .nil))))) .nil)))
def B_bounces (c_met_at : Nat) (c_first_change : Nat) (c_thrown_back : Nat) : Ss := (.cons (.own 3) (.cons (.for_ (.nm 4) (.rng1 (.var 2)) (.cons (.asgT [5, 6, 7] (.call c_met_at (.cons (.var 1) (.cons (.call c_first_change (.cons (.var 0) (.cons (.var 1) .nil))) .nil)))) (.cons (.app 3 (.var 6)) (.cons (.asg 1 (.call c_thrown_back (.cons (.var 5) (.cons (.var 6) (.cons (.var 7) .nil))))) .nil)))) (.cons (.ret (.bi .tuple (.cons (.var 3) .nil))) .nil)))
def B_times_of_levels (c_minus : Nat) (c_over : Nat) (c_less : Nat) (c_plus : Nat) (c_times : Nat) : Ss := (.cons (.ifs (.cmp .Eq (.ix (.var 3) (.int 0)) (.int 0)) (.cons (.ret (.tup .nil)) .nil) .nil) (.cons (.par3M 8 9 10 (.call c_minus (.cons (.var 1) (.cons (.var 0) .nil))) 1) (.cons (.asg 5 (.call c_over (.cons (.call c_minus (.cons (.ife (.cmp .Gt (.ix (.var 3) (.int 0)) (.int 0)) (.var 1) (.var 0)) (.cons (.var 2) .nil))) (.cons (.var 3) .nil)))) (.cons (.asg 6 (.call c_over (.cons (.var 8) (.cons (.ife (.cmp .Gt (.ix (.var 3) (.int 0)) (.int 0)) (.var 3) (.call c_minus (.cons (.tup (.cons (.int 0) (.cons (.int 1) .nil))) (.cons (.var 3) .nil)))) .nil)))) (.cons (.asg 7 (.var 5)) (.cons (.whl (.not (.call c_less (.cons (.var 4) (.cons (.var 7) .nil)))) (.cons (.app 9 (.var 7)) (.cons (.asg 7 (.call c_plus (.cons (.var 5) (.cons (.call c_times (.cons (.var 6) (.cons (.tup (.cons (.var 10) (.cons (.int 1) .nil))) .nil))) .nil)))) (.cons (.aug 10 .Add (.int 1)) .nil)))) (.cons (.ret (.bi .tuple (.cons (.lc (.var 11) (.nm 11) (.seq (.var 9)) (.some (.cmp .Gt (.ix (.var 11) (.int 0)) (.int 0)))) .nil))) .nil)))))))
def B_folded (c_minus : Nat) (c_floor_of : Nat) (c_over : Nat) (c_times : Nat) (c_plus : Nat) : Ss := (.cons (.asg 3 (.call c_minus (.cons (.var 1) (.cons (.var 0) .nil)))) (.cons (.asg 4 (.call c_floor_of (.cons (.call c_over (.cons (.call c_minus (.cons (.var 2) (.cons (.var 0) .nil))) (.cons (.var 3) .nil))) .nil))) (.cons (.asg 5 (.call c_minus (.cons (.call c_minus (.cons (.var 2) (.cons (.var 0) .nil))) (.cons (.call c_times (.cons (.var 3) (.cons (.tup (.cons (.var 4) (.cons (.int 1) .nil))) .nil))) .nil)))) (.cons (.ret (.ife (.cmp .Eq (.op .Mod (.var 4) (.int 2)) (.int 0)) (.call c_plus (.cons (.var 0) (.cons (.var 5) .nil))) (.call c_minus (.cons (.var 1) (.cons (.var 5) .nil))))) .nil))))
def B_folded_place (c_folded : Nat) : Ss := (.cons (.ret (.bi .tuple (.cons (.lc (.call c_folded (.cons (.var 2) (.cons (.var 3) (.cons (.var 4) .nil)))) (.tp [2, 3, 4]) (.zip3 (.ix (.var 0) (.int 1)) (.ix (.var 0) (.int 2)) (.var 1)) .none) .nil))) .nil)
def B_place_at (c_folded_place : Nat) (c_along : Nat) : Ss := (.cons (.ret (.call c_folded_place (.cons (.var 0) (.cons (.call c_along (.cons (.ix (.var 1) (.int 1)) (.cons (.ix (.var 1) (.int 2)) (.cons (.var 2) (.cons (.tup .nil) .nil))))) .nil)))) .nil)
def B_meeting_times (c_times_of_levels : Nat) (c_in_order : Nat) (c_times : Nat) : Ss := (.cons (.asg 3 (.tup (.cons (.int 1) (.cons (.int 1) .nil)))) (.cons (.whl (.bl true) (.cons (.own 4) (.cons (.for_ (.nm 5) (.rng1 (.int 3)) (.cons (.ext 4 (.call c_times_of_levels (.cons (.ix (.ix (.var 0) (.int 1)) (.var 5)) (.cons (.ix (.ix (.var 0) (.int 2)) (.var 5)) (.cons (.ix (.ix (.var 1) (.int 1)) (.var 5)) (.cons (.ix (.ix (.var 1) (.int 2)) (.var 5)) (.cons (.var 3) .nil))))))) .nil)) (.cons (.ifs (.cmp .GtE (.bi .len (.cons (.var 4) .nil)) (.var 2)) (.cons (.frz 4) (.cons (.ret (.bi .tuple (.cons (.sl (.call c_in_order (.cons (.var 4) .nil)) .none (.some (.var 2))) .nil))) .nil)) .nil) (.cons (.asg 3 (.call c_times (.cons (.var 3) (.cons (.tup (.cons (.int 2) (.cons (.int 1) .nil))) .nil)))) (.cons (.frz 4) .nil)))))) .nil))
def B_in_order (c_less : Nat) : Ss := (.cons (.own 1) (.cons (.for_ (.nm 2) (.seq (.var 0)) (.cons (.asg 3 (.bi .len (.cons (.lc (.var 4) (.nm 4) (.seq (.var 1)) (.some (.not (.call c_less (.cons (.var 2) (.cons (.var 4) .nil)))))) .nil))) (.cons (.ins 1 (.var 3) (.var 2)) .nil))) (.cons (.frz 1) (.cons (.ret (.var 1)) .nil))))
def B_is_through_edge (c_meeting_times : Nat) : Ss := (.cons (.asg 3 (.call c_meeting_times (.cons (.var 0) (.cons (.var 1) (.cons (.var 2) .nil))))) (.cons (.ret (.bi .any (.cons (.lc (.cmp .Eq (.ix (.var 3) (.var 4)) (.ix (.var 3) (.op .Add (.var 4) (.int 1)))) (.nm 4) (.rng1 (.op .Sub (.bi .len (.cons (.var 3) .nil)) (.int 1))) .none) .nil))) .nil))
def B_faces_met (c_meeting_times : Nat) (c_plus : Nat) (c_times : Nat) (c_over : Nat) (c_minus : Nat) : Ss := (.cons (.own 3) (.cons (.for_ (.nm 4) (.seq (.call c_meeting_times (.cons (.var 0) (.cons (.var 1) (.cons (.var 2) .nil))))) (.cons (.for_ (.nm 5) (.rng1 (.int 3)) (.cons (.asg 6 (.call c_plus (.cons (.ix (.ix (.var 1) (.int 1)) (.var 5)) (.cons (.call c_times (.cons (.ix (.ix (.var 1) (.int 2)) (.var 5)) (.cons (.var 4) .nil))) .nil)))) (.cons (.asg 7 (.call c_over (.cons (.call c_minus (.cons (.var 6) (.cons (.ix (.ix (.var 0) (.int 1)) (.var 5)) .nil))) (.cons (.call c_minus (.cons (.ix (.ix (.var 0) (.int 2)) (.var 5)) (.cons (.ix (.ix (.var 0) (.int 1)) (.var 5)) .nil))) .nil)))) (.cons (.ifs (.and (.cmp .NotEq (.ix (.ix (.ix (.var 1) (.int 2)) (.var 5)) (.int 0)) (.int 0)) (.and (.cmp .Eq (.ix (.var 7) (.int 1)) (.int 1)) (.cmp .NotIn (.tup (.cons (.var 4) (.cons (.var 5) .nil))) (.lc (.sl (.var 11) .none (.some (.int 2))) (.nm 11) (.seq (.var 3)) .none)))) (.cons (.app 3 (.tup (.cons (.var 4) (.cons (.var 5) (.cons (.cmp .Eq (.op .Mod (.ix (.var 7) (.int 0)) (.int 2)) (.int 1)) .nil))))) (.cons .brk .nil)) .nil) .nil)))) .nil)) (.cons (.ret (.bi .tuple (.cons (.lc (.tup (.cons (.var 9) (.cons (.var 10) .nil))) (.tp [8, 9, 10]) (.seq (.var 3)) .none) .nil))) .nil)))
def B_comes_back (c_times : Nat) (c_minus : Nat) (c_over : Nat) (c_shared_multiple : Nat) : Ss := (.cons (.own 2) (.cons (.for_ (.nm 3) (.rng1 (.int 3)) (.cons (.ifs (.cmp .NotEq (.ix (.ix (.ix (.var 1) (.int 2)) (.var 3)) (.int 0)) (.int 0)) (.cons (.asg 6 (.call c_times (.cons (.call c_minus (.cons (.ix (.ix (.var 0) (.int 2)) (.var 3)) (.cons (.ix (.ix (.var 0) (.int 1)) (.var 3)) .nil))) (.cons (.tup (.cons (.int 2) (.cons (.int 1) .nil))) .nil)))) (.cons (.app 2 (.call c_over (.cons (.var 6) (.cons (.ife (.cmp .Gt (.ix (.ix (.ix (.var 1) (.int 2)) (.var 3)) (.int 0)) (.int 0)) (.ix (.ix (.var 1) (.int 2)) (.var 3)) (.call c_minus (.cons (.tup (.cons (.int 0) (.cons (.int 1) .nil))) (.cons (.ix (.ix (.var 1) (.int 2)) (.var 3)) .nil)))) .nil)))) .nil)) .nil) .nil)) (.cons (.asg 4 (.ix (.var 2) (.int 0))) (.cons (.for_ (.nm 5) (.seq (.sl (.var 2) (.some (.int 1)) .none)) (.cons (.asg 4 (.call c_shared_multiple (.cons (.var 4) (.cons (.var 5) .nil)))) .nil)) (.cons (.ret (.var 4)) .nil)))))
def B_shared_multiple (c_over : Nat) (c_times : Nat) : Ss := (.cons (.asg 2 (.call c_over (.cons (.var 0) (.cons (.var 1) .nil)))) (.cons (.ret (.call c_times (.cons (.var 1) (.cons (.tup (.cons (.ix (.var 2) (.int 0)) (.cons (.int 1) .nil))) .nil)))) .nil))
def B__law_pick (c__law_next : Nat) : Ss := (.cons (.ret (.ix (.var 1) (.call c__law_next (.cons (.var 0) (.cons (.bi .len (.cons (.var 1) .nil)) .nil))))) .nil)
def B__law_num (c__law_fr : Nat) (c__law_pick : Nat) (c__law_next : Nat) : Ss := (.cons (.ret (.call c__law_fr (.cons (.op .Sub (.call c__law_next (.cons (.var 0) (.cons (.op .Add (.op .Mult (.int 2) (.var 1)) (.int 1)) .nil))) (.var 1)) (.cons (.call c__law_pick (.cons (.var 0) (.cons (.lst (.cons (.int 1) (.cons (.int 1) (.cons (.int 2) (.cons (.int 3) .nil))))) .nil))) .nil)))) .nil)
def B__law_place (c__law_num : Nat) : Ss := (.cons (.ret (.bi .tuple (.cons (.lc (.call c__law_num (.cons (.var 0) (.cons (.var 1) .nil))) (.nm 2) (.rng1 (.int 3)) .none) .nil))) .nil)
def B__law_way (c__law_place : Nat) : Ss := (.cons (.asg 1 (.call c__law_place (.cons (.var 0) (.cons (.int 3) .nil)))) (.cons (.ret (.ife (.cmp .NotEq (.lc (.int 1) (.nm 2) (.seq (.var 1)) (.some (.cmp .NotEq (.ix (.var 2) (.int 0)) (.int 0)))) (.lst .nil)) (.var 1) (.tup (.cons (.tup (.cons (.int 1) (.cons (.int 1) .nil))) (.cons (.tup (.cons (.int 0) (.cons (.int 1) .nil))) (.cons (.tup (.cons (.int 0) (.cons (.int 1) .nil))) .nil)))))) .nil))
def B__law_bounce (c__law_div : Nat) (c__law_sub : Nat) (c__law_sgn : Nat) : Ss := (.cons (.par 4 5 .non (.lst .nil)) (.cons (.for_ (.nm 3) (.rng1 (.int 3)) (.cons (.ifs (.cmp .NotEq (.ix (.ix (.var 2) (.var 3)) (.int 0)) (.int 0)) (.cons (.asg 6 (.ife (.cmp .Gt (.ix (.ix (.var 2) (.var 3)) (.int 0)) (.int 0)) (.ix (.ix (.var 0) (.int 2)) (.var 3)) (.ix (.ix (.var 0) (.int 1)) (.var 3)))) (.cons (.asg 7 (.call c__law_div (.cons (.call c__law_sub (.cons (.var 6) (.cons (.ix (.var 1) (.var 3)) .nil))) (.cons (.ix (.var 2) (.var 3)) .nil)))) (.cons (.asg 8 (.ife (.cmp .Is (.var 4) .non) (.op .Sub (.int 0) (.int 1)) (.call c__law_sgn (.cons (.call c__law_sub (.cons (.var 7) (.cons (.var 4) .nil))) .nil)))) (.cons (.ifs (.cmp .LtE (.var 8) (.int 0)) (.cons (.par 4 5 (.var 7) (.op .Add (.ife (.cmp .Lt (.var 8) (.int 0)) (.lst .nil) (.var 5)) (.lst (.cons (.var 3) .nil)))) .nil) .nil) .nil)))) .nil) .nil)) (.cons (.ret (.tup (.cons (.var 4) (.cons (.var 5) .nil)))) .nil)))
def B__law_walk (c__law_bounce : Nat) (c__law_add : Nat) (c__law_mul : Nat) (c__law_sub : Nat) : Ss := (.cons (.par4L 4 5 6 7 (.ix (.var 1) (.int 1)) (.ix (.var 1) (.int 2)) (.tup (.cons (.int 0) (.cons (.int 1) .nil)))) (.cons (.for_ (.nm 3) (.rng1 (.var 2)) (.cons (.asgT [9, 10] (.call c__law_bounce (.cons (.var 0) (.cons (.var 4) (.cons (.var 5) .nil))))) (.cons (.asg 6 (.call c__law_add (.cons (.var 6) (.cons (.var 9) .nil)))) (.cons (.asg 4 (.bi .tuple (.cons (.lc (.call c__law_add (.cons (.ix (.var 4) (.var 11)) (.cons (.call c__law_mul (.cons (.ix (.var 5) (.var 11)) (.cons (.var 9) .nil))) .nil))) (.nm 11) (.rng1 (.int 3)) .none) .nil))) (.cons (.for_ (.nm 8) (.seq (.var 10)) (.cons (.app 7 (.tup (.cons (.var 6) (.cons (.var 4) (.cons (.var 8) (.cons (.cmp .Gt (.ix (.ix (.var 5) (.var 8)) (.int 0)) (.int 0)) .nil)))))) .nil)) (.cons (.asg 5 (.bi .tuple (.cons (.lc (.ife (.cmp .In (.var 11) (.var 10)) (.call c__law_sub (.cons (.tup (.cons (.int 0) (.cons (.int 1) .nil))) (.cons (.ix (.var 5) (.var 11)) .nil))) (.ix (.var 5) (.var 11))) (.nm 11) (.rng1 (.int 3)) .none) .nil))) .nil)))))) (.cons (.frz 7) (.cons (.ret (.var 7)) .nil))))
def B__law_at (c__law_bounce : Nat) (c__law_sgn : Nat) (c__law_sub : Nat) (c__law_add : Nat) (c__law_mul : Nat) : Ss := (.cons (.asgT [4, 5, 6] (.tup (.cons (.ix (.var 1) (.int 1)) (.cons (.ix (.var 1) (.int 2)) (.cons (.var 2) .nil))))) (.cons (.for_ (.nm 3) (.rng1 (.int 400)) (.cons (.asgT [7, 8] (.call c__law_bounce (.cons (.var 0) (.cons (.var 4) (.cons (.var 5) .nil))))) (.cons (.ifs (.cmp .Gt (.call c__law_sgn (.cons (.call c__law_sub (.cons (.var 7) (.cons (.var 6) .nil))) .nil)) (.int 0)) (.cons (.ret (.tup (.cons (.bi .tuple (.cons (.lc (.call c__law_add (.cons (.ix (.var 4) (.var 9)) (.cons (.call c__law_mul (.cons (.ix (.var 5) (.var 9)) (.cons (.var 6) .nil))) .nil))) (.nm 9) (.rng1 (.int 3)) .none) .nil)) (.cons (.var 5) .nil)))) .nil) .nil) (.cons (.asg 4 (.bi .tuple (.cons (.lc (.call c__law_add (.cons (.ix (.var 4) (.var 9)) (.cons (.call c__law_mul (.cons (.ix (.var 5) (.var 9)) (.cons (.var 7) .nil))) .nil))) (.nm 9) (.rng1 (.int 3)) .none) .nil))) (.cons (.asg 5 (.bi .tuple (.cons (.lc (.ife (.cmp .In (.var 9) (.var 8)) (.call c__law_sub (.cons (.tup (.cons (.int 0) (.cons (.int 1) .nil))) (.cons (.ix (.var 5) (.var 9)) .nil))) (.ix (.var 5) (.var 9))) (.nm 9) (.rng1 (.int 3)) .none) .nil))) (.cons (.asg 6 (.call c__law_sub (.cons (.var 6) (.cons (.var 7) .nil)))) .nil)))))) (.cons (.ret .non) .nil)))
def B__law_fold (c__law_sgn : Nat) (c__law_sub : Nat) (c__law_mul : Nat) : Ss := (.cons (.for_ (.nm 3) (.rng1 (.int 200)) (.cons (.ifs (.cmp .Gt (.call c__law_sgn (.cons (.call c__law_sub (.cons (.var 0) (.cons (.var 2) .nil))) .nil)) (.int 0)) (.cons (.asg 2 (.call c__law_sub (.cons (.call c__law_mul (.cons (.tup (.cons (.int 2) (.cons (.int 1) .nil))) (.cons (.var 0) .nil))) (.cons (.var 2) .nil)))) .nil) (.cons (.ifs (.cmp .Gt (.call c__law_sgn (.cons (.call c__law_sub (.cons (.var 2) (.cons (.var 1) .nil))) .nil)) (.int 0)) (.cons (.asg 2 (.call c__law_sub (.cons (.call c__law_mul (.cons (.tup (.cons (.int 2) (.cons (.int 1) .nil))) (.cons (.var 1) .nil))) (.cons (.var 2) .nil)))) .nil) .nil) .nil)) .nil)) (.cons (.ret (.var 2)) .nil))
end FM

set_option Elab.async false
set_option linter.all false
set_option maxRecDepth 100000
set_option maxHeartbeats 4000000
/-! R1: fractions as rational numbers; their sizes. -/
namespace FM
open PySem (Str sizeLine)
open L2 (atI)
open PySem.Spec PyProof.Rows
def pq (q : Rat) : Int × Int := (q.num, (q.den : Int))
def qD (q : Rat) : D := .tup [.int q.num, .int (q.den : Int)]
theorem qD_eq (q : Rat) : qD q = fD (pq q) := rfl
theorem pq_fq {k : Nat} {q : Rat} (h1 : Sm k q.num) (h2 : Sm k (q.den : Int)) : Fq k (pq q) :=
  ⟨h1, h2, by have := q.den_pos; show 0 < (q.den : Int); omega, by
    have := q.reduced
    show Int.gcd q.num (q.den : Int) = 1
    unfold Int.gcd
    rw [Int.natAbs_natCast]
    exact this⟩
theorem pq_mk {n d : Int} (hd : 0 < d) (hc : Int.gcd n d = 1) : pq ((n : Rat) / (d : Rat)) = (n, d) := by
  have e : (⟨n, d.toNat, by omega, by
    unfold Int.gcd at hc
    have : d.natAbs = d.toNat := by omega
    rw [this] at hc
    exact hc⟩ : Rat) = (n : Rat) / (d : Rat) := by
    rw [Rat.mk_eq_divInt, Rat.divInt_eq_div]
    have : ((d.toNat : Int) : Rat) = (d : Rat) := by
      have h : (d.toNat : Int) = d := Int.toNat_of_nonneg (by omega)
      rw [h]
    rw [this]
  rw [← e]
  unfold pq
  show (n, (d.toNat : Int)) = (n, d)
  rw [Int.toNat_of_nonneg (by omega)]
theorem fr_pq (a : Int) {b : Int} (hb : b ≠ 0) : fr a b = pq ((a : Rat) / (b : Rat)) := by
  obtain ⟨h1, h2, h3, h4⟩ := fr_spec a hb
  have g0 : gs a b ≠ 0 := gs_ne a hb
  have e := pq_mk h3 h4
  have : ((fr a b).1 : Rat) / ((fr a b).2 : Rat) = (a : Rat) / (b : Rat) := by
    have hg : ((gs a b : Int) : Rat) ≠ 0 := by exact_mod_cast g0
    have h3' : (((fr a b).2 : Int) : Rat) ≠ 0 := by
      have : (fr a b).2 ≠ 0 := by omega
      exact_mod_cast this
    have e1 : (a : Rat) = ((fr a b).1 : Rat) * (gs a b : Rat) := by
      rw [← Rat.intCast_mul]
      exact congrArg _ h1
    have e2 : (b : Rat) = ((fr a b).2 : Rat) * (gs a b : Rat) := by
      rw [← Rat.intCast_mul]
      exact congrArg _ h2
    rw [e1, e2]
    grind
  rw [this] at e
  exact e.symm
theorem rat_nd (q : Rat) : q = (q.num : Rat) / ((q.den : Int) : Rat) := by
  rw [← Rat.divInt_eq_div, Rat.num_divInt_den]
theorem den_ne (q : Rat) : (((q.den : Int)) : Rat) ≠ 0 := by
  have := q.den_nz
  have h : (q.den : Int) ≠ 0 := by omega
  exact_mod_cast h
theorem dd_ne (x y : Rat) : (x.den : Int) * (y.den : Int) ≠ 0 := by
  have := x.den_nz
  have := y.den_nz
  exact Int.mul_ne_zero (by omega) (by omega)
theorem addF_pq (x y : Rat) : addF (pq x) (pq y) = pq (x + y) := by
  unfold addF
  show fr (x.num * (y.den : Int) + y.num * (x.den : Int)) ((x.den : Int) * (y.den : Int)) = _
  rw [fr_pq _ (dd_ne x y)]
  congr 1
  have hx := den_ne x
  have hy := den_ne y
  conv => rhs; rw [rat_nd x, rat_nd y]
  rw [Rat.intCast_add, Rat.intCast_mul, Rat.intCast_mul, Rat.intCast_mul]
  grind
theorem subF_pq (x y : Rat) : subF (pq x) (pq y) = pq (x - y) := by
  unfold subF
  show fr (x.num * (y.den : Int) - y.num * (x.den : Int)) ((x.den : Int) * (y.den : Int)) = _
  rw [fr_pq _ (dd_ne x y)]
  congr 1
  have hx := den_ne x
  have hy := den_ne y
  conv => rhs; rw [rat_nd x, rat_nd y]
  rw [Rat.intCast_sub, Rat.intCast_mul, Rat.intCast_mul, Rat.intCast_mul]
  grind
theorem mulF_pq (x y : Rat) : mulF (pq x) (pq y) = pq (x * y) := by
  unfold mulF
  show fr (x.num * y.num) ((x.den : Int) * (y.den : Int)) = _
  rw [fr_pq _ (dd_ne x y)]
  congr 1
  have hx := den_ne x
  have hy := den_ne y
  conv => rhs; rw [rat_nd x, rat_nd y]
  rw [Rat.intCast_mul, Rat.intCast_mul]
  grind
theorem num_ne {y : Rat} (h : y ≠ 0) : y.num ≠ 0 := fun e => h (Rat.num_eq_zero.mp e)
theorem divF_pq (x : Rat) {y : Rat} (h : y ≠ 0) : divF (pq x) (pq y) = pq (x / y) := by
  unfold divF
  have hn := num_ne h
  have hd := x.den_nz
  show fr (x.num * (y.den : Int)) ((x.den : Int) * y.num) = _
  rw [fr_pq _ (Int.mul_ne_zero (by omega) hn)]
  congr 1
  have hx := den_ne x
  have hy := den_ne y
  have hn' : ((y.num : Int) : Rat) ≠ 0 := by exact_mod_cast hn
  conv => rhs; rw [rat_nd x, rat_nd y]
  rw [Rat.intCast_mul, Rat.intCast_mul]
  grind
theorem lessF_pq (x y : Rat) : lessF (pq x) (pq y) = decide (x < y) := by
  unfold lessF pq
  exact decide_eq_decide.mpr (Rat.lt_iff x y).symm
/-! ### sizes, found by themselves -/
class Sz (k : outParam Nat) (q : Rat) : Prop where
  n : Sm k q.num
  d : Sm k (q.den : Int)
theorem Sz.fq {k : Nat} {q : Rat} (h : Sz k q) : Fq k (pq q) := pq_fq h.n h.d
theorem Sz.of {k : Nat} {q : Rat} (h : Fq k (pq q)) : Sz k q := ⟨h.1, h.2.1⟩
theorem Sz.mono {j k : Nat} {q : Rat} (h : Sz j q) (l : j ≤ k) : Sz k q := ⟨h.n.mono l, h.d.mono l⟩
instance Sz.add {a b : Nat} {x y : Rat} [hx : Sz a x] [hy : Sz b y] : Sz (a + b + 1) (x + y) := .of (by rw [← addF_pq]; exact hx.fq.add hy.fq)
instance Sz.sub {a b : Nat} {x y : Rat} [hx : Sz a x] [hy : Sz b y] : Sz (a + b + 1) (x - y) := .of (by rw [← subF_pq]; exact hx.fq.sub hy.fq)
instance Sz.mul {a b : Nat} {x y : Rat} [hx : Sz a x] [hy : Sz b y] : Sz (a + b) (x * y) := .of (by rw [← mulF_pq]; exact hx.fq.mul hy.fq)
theorem sz0 : Sz 1 0 := ⟨by unfold Sm; decide, by unfold Sm; decide⟩
theorem Fq.div {j k : Nat} {x y : Int × Int} (hx : Fq j x) (hy : Fq k y) (h : y.1 ≠ 0) : Fq (j + k) (divF x y) := by
  refine fr_fq (hx.1.mul hy.2.1) (hx.2.1.mul hy.1) (Int.mul_ne_zero ?_ h)
  have := hx.2.2.1
  omega
instance Sz.div {a b : Nat} {x y : Rat} [hx : Sz a x] [hy : Sz b y] : Sz (a + b + 1) (x / y) := by
  by_cases h : y = 0
  · subst h
    have e : x / 0 = 0 := by rw [Rat.div_def, Rat.inv_zero, Rat.mul_zero]
    rw [e]
    exact sz0.mono (by omega)
  · exact (Sz.of (by rw [← divF_pq x h]; exact hx.fq.div hy.fq (num_ne h)) : Sz (a + b) (x / y)).mono (by omega)
instance Sz.neg {a : Nat} {x : Rat} [hx : Sz a x] : Sz a (-x) := ⟨by rw [Rat.neg_num]; exact hx.n.neg, by rw [Rat.neg_den]; exact hx.d⟩
instance Sz.zero : Sz 1 0 := sz0
instance Sz.one : Sz 1 1 := ⟨by unfold Sm; decide, by unfold Sm; decide⟩
instance Sz.two : Sz 2 2 := ⟨by unfold Sm; decide, by unfold Sm; decide⟩
abbrev I3 : Type := _root_.Fin 3
def vD (v : I3 → Rat) : D := .tup [qD (v 0), qD (v 1), qD (v 2)]
def sg (q : Rat) : Int := if 0 < q then 1 else if q < 0 then -1 else 0
theorem sg_pq (q : Rat) : sgI (pq q).1 = sg q := by
  unfold sgI sg pq
  have h1 : (0 < q.num) ↔ 0 < q := by
    rw [Rat.lt_iff]
    simp
  have h2 : (q.num < 0) ↔ q < 0 := by
    rw [Rat.lt_iff]
    simp
  simp only [h1, h2]
end FM

set_option Elab.async false
set_option linter.all false
set_option maxRecDepth 100000
set_option maxHeartbeats 4000000
/-! R2: data held against others; places, times, halves as data. -/
namespace FM
open PySem (Str sizeLine)
open L2 (atI)
open PySem.Spec PyProof.Rows
/-- data that may be held against others -/
def Sh (k : Nat) (d : D) : Prop := d.noCell = true ∧ d.py.canLay0 = true ∧ d.py.depth ≤ k
def ShL (k : Nat) (ds : List D) : Prop := noCells ds = true ∧ PySem.PyData.canLayAll0 (pyAll ds) = true ∧ PySem.PyData.depthAll (pyAll ds) ≤ k
theorem Sh.mono {j k : Nat} {d : D} (h : Sh j d) (l : j ≤ k) : Sh k d := ⟨h.1, h.2.1, Nat.le_trans h.2.2 l⟩
theorem ShL.nil (k : Nat) : ShL k [] := ⟨rfl, rfl, Nat.zero_le _⟩
theorem ShL.cons {k : Nat} {d : D} {ds : List D} (h : Sh k d) (g : ShL k ds) : ShL k (d :: ds) := by
  obtain ⟨h1, h2, h3⟩ := h
  obtain ⟨g1, g2, g3⟩ := g
  refine ⟨?_, ?_, ?_⟩
  · unfold noCells; rw [h1, g1]; rfl
  · unfold pyAll PySem.PyData.canLayAll0; rw [h2, g2]; rfl
  · unfold pyAll PySem.PyData.depthAll; omega
theorem ShL.append {k : Nat} {ds es : List D} (h : ShL k ds) (g : ShL k es) : ShL k (ds ++ es) := by
  induction ds with
  | nil => exact g
  | cons d ds ih =>
    obtain ⟨h1, h2, h3⟩ := h
    unfold noCells at h1
    unfold pyAll PySem.PyData.canLayAll0 at h2
    unfold pyAll PySem.PyData.depthAll at h3
    rw [Bool.and_eq_true] at h1 h2
    exact .cons ⟨h1.1, h2.1, by omega⟩ (ih ⟨h1.2, h2.2, by omega⟩)
theorem Sh.tup {k : Nat} {ds : List D} (h : ShL k ds) : Sh (k + 1) (.tup ds) := by
  obtain ⟨h1, h2, h3⟩ := h
  refine ⟨?_, ?_, ?_⟩
  · unfold D.noCell; exact h1
  · unfold D.py PySem.PyData.canLay0; exact h2
  · unfold D.py PySem.PyData.depth; omega
theorem Sh.int (k : Nat) (i : Int) : Sh k (.int i) := ⟨rfl, by unfold D.py PySem.PyData.canLay0; rfl, by unfold D.py PySem.PyData.depth; exact Nat.zero_le _⟩
theorem Sh.ok {k : Nat} {d : D} (h : Sh k d) (l : k ≤ 64) : shOk d = true := by
  unfold shOk PySem.SeqAt.shaped
  rw [h.1, h.2.1, decide_eq_true (Nat.le_trans h.2.2 l)]
  rfl
theorem Sh.lst {k : Nat} {ds : List D} (h : ShL k ds) : Sh (k + 1) (.lst ds) := by
  obtain ⟨h1, h2, h3⟩ := h
  refine ⟨?_, ?_, ?_⟩
  · unfold D.noCell; exact h1
  · unfold D.py PySem.PyData.canLay0; exact h2
  · unfold D.py PySem.PyData.depth; omega
theorem Sh.str (k : Nat) (i : Str) (h : PySem.PyData.strOk i = true) : Sh k (.str i) := ⟨rfl, by unfold D.py PySem.PyData.canLay0; exact h, by unfold D.py PySem.PyData.depth; exact Nat.zero_le _⟩
theorem Sh.bl (k : Nat) (i : Bool) : Sh k (.bl i) := ⟨rfl, by unfold D.py PySem.PyData.canLay0; rfl, by unfold D.py PySem.PyData.depth; exact Nat.zero_le _⟩
theorem ShL.map {α : Type} {k : Nat} (f : α → D) (h : ∀ a, Sh k (f a)) : ∀ l : List α, ShL k (l.map f)
  | [] => .nil k
  | a :: l => .cons (h a) (ShL.map f h l)
theorem sh_q (q : Rat) : Sh 1 (qD q) := .tup (.cons (.int _ _) (.cons (.int _ _) (.nil _)))
theorem sh_v (v : I3 → Rat) : Sh 2 (vD v) := .tup (.cons (sh_q _) (.cons (sh_q _) (.cons (sh_q _) (.nil _))))
theorem eqD_sh {j k : Nat} {x y : D} (hx : Sh j x) (hy : Sh k y) (l : j ≤ 64) (l2 : k ≤ 64) (s : scalOk x y = false) : eqD x y = some (PySem.PyData.eqv x.py y.py) := by
  unfold eqD
  rw [s, if_neg (by decide), hx.ok l, hy.ok l2, Bool.and_self, if_pos rfl]
theorem eqv_q (x y : Rat) : PySem.PyData.eqv (qD x).py (qD y).py = decide (x = y) := by
  have e : (x = y) ↔ (x.num = y.num ∧ (x.den : Int) = (y.den : Int)) := by
    constructor
    · rintro rfl; exact ⟨rfl, rfl⟩
    · rintro ⟨h1, h2⟩; exact Rat.ext h1 (by omega)
  have : PySem.PyData.eqv (qD x).py (qD y).py = (x.num == y.num && ((x.den : Int) == (y.den : Int) && true)) := by
    simp only [qD, D.py, pyAll, PySem.PyData.eqv, PySem.PyData.eqvAll]
  rw [this, Bool.and_true]
  simp only [e]
  rw [Bool.eq_iff_iff]
  simp
theorem eqD_q (x y : Rat) : eqD (qD x) (qD y) = some (decide (x = y)) := by
  rw [eqD_sh (sh_q x) (sh_q y) (by decide) (by decide) rfl, eqv_q]
/-- a time that is a number -/
def tmD (t : Rat) : D := .tup [qD t, qD 0, qD 0]
theorem sh_tm (t : Rat) : Sh 2 (tmD t) := .tup (.cons (sh_q _) (.cons (sh_q _) (.cons (sh_q _) (.nil _))))
theorem eqD_tm (s t : Rat) : eqD (tmD s) (tmD t) = some (decide (s = t)) := by
  rw [eqD_sh (sh_tm s) (sh_tm t) (by decide) (by decide) rfl]
  have : PySem.PyData.eqv (tmD s).py (tmD t).py = (PySem.PyData.eqv (qD s).py (qD t).py && (PySem.PyData.eqv (qD 0).py (qD 0).py && (PySem.PyData.eqv (qD 0).py (qD 0).py && true))) := by
    simp only [tmD, D.py, pyAll, PySem.PyData.eqv, PySem.PyData.eqvAll]
  rw [this, eqv_q, eqv_q]
  simp
theorem lst_nil {k : Nat} {l : List D} (h : ShL k l) (hk : k ≤ 60) : eqD (.lst l) (.lst []) = some l.isEmpty := by
  rw [eqD_sh (.lst h) (.lst (.nil 0)) (by omega) (by decide) rfl]
  cases l with
  | nil => rfl
  | cons d l => rfl
theorem i3_cases : ∀ k : I3, k = 0 ∨ k = 1 ∨ k = 2 := by decide
/-- the way out of a half along a side -/
def e3 (k : I3) (up : Bool) : I3 → Rat := fun j => if j = k then (if up then 1 else -1) else 0
instance {k j : I3} {up : Bool} : Sz 1 (e3 k up j) := by
  unfold e3
  split
  · cases up
    · exact (Sz.neg : Sz 1 (-1))
    · exact Sz.one
  · exact Sz.zero
theorem dot_e3 (k : I3) (up : Bool) (v : I3 → Rat) : e3 k up 0 * v 0 + e3 k up 1 * v 1 + e3 k up 2 * v 2 = (if up then v k else -(v k)) := by
  have hk := i3_cases k
  rcases hk with rfl | rfl | rfl <;> cases up <;> simp [e3] <;> grind
theorem dot_e3' (k : I3) (up : Bool) (v : I3 → Rat) : v 0 * e3 k up 0 + v 1 * e3 k up 1 + v 2 * e3 k up 2 = (if up then v k else -(v k)) := by
  have hk := i3_cases k
  rcases hk with rfl | rfl | rfl <;> cases up <;> simp [e3] <;> grind
/-- a half of a box: along side k, the upper or the lower -/
def hfar (lo hi : I3 → Rat) (k : I3) (up : Bool) : Rat := if up then hi k else 0 - lo k
def hD (lo hi : I3 → Rat) (k : I3) (up : Bool) : D := .tup [.str "half", vD (e3 k up), qD (hfar lo hi k up)]
def boxD (lo hi : I3 → Rat) : D := .tup [.str "box", vD lo, vD hi]
def rayD (p d : I3 → Rat) : D := .tup [.tup [], vD p, vD d]
theorem sh_h (lo hi : I3 → Rat) (k : I3) (up : Bool) : Sh 3 (hD lo hi k up) := .tup (.cons (.str _ _ (by decide +kernel)) (.cons (sh_v _) (.cons ((sh_q _).mono (by decide)) (.nil _))))
instance {lo hi : I3 → Rat} {k : I3} {up : Bool} {a : Nat} [h1 : ∀ k, Sz a (lo k)] [h2 : ∀ k, Sz a (hi k)] : Sz (1 + a + 1) (hfar lo hi k up) := by
  unfold hfar
  split
  · exact (h2 k).mono (by omega)
  · exact Sz.sub
/-- a change of a crossing: when, at which half -/
structure Chg where
  t : Rat
  k : I3
  up : Bool
  sz : Sz 500 t
instance {c : Chg} : Sz 500 c.t := c.sz
def chD (lo hi : I3 → Rat) (c : Chg) : D := .tup [tmD c.t, hD lo hi c.k c.up, .bl false]
theorem sh_ch (lo hi : I3 → Rat) (c : Chg) : Sh 4 (chD lo hi c) := .tup (.cons ((sh_tm _).mono (by decide)) (.cons (sh_h _ _ _ _) (.cons (.bl _ _) (.nil _))))
end FM

set_option Elab.async false
set_option linter.all false
set_option maxRecDepth 100000
set_option maxHeartbeats 0
namespace K12
open PySem FM L2
def top (i : Nat) : Stmt := PySem.Challenge.pw_firstmet_k12_boxes_of_mirrors.main.body.getD i (.Pass ⟨0, 0, 0, 0⟩)
def B_law (c__law_draws : Nat) (c__law_place : Nat) (c__law_add : Nat) (c__law_fr : Nat) (c__law_next : Nat) (c__law_mul : Nat) (c__law_sub : Nat) (c__law_way : Nat) (c__law_walk : Nat) (c__law_alike : Nat) (c_meeting_times : Nat) (c_faces_met : Nat) (c_is_through_edge : Nat) (c_bounces : Nat) (c__law_at : Nat) (c_place_at : Nat) (c__law_num : Nat) (c__law_fold : Nat) (c_folded_place : Nat) (c_folded : Nat) (c_comes_back : Nat) (c__law_div : Nat) : Ss := (.cons (.asg 1 (.dict ["draws", "at"] (.cons (.call c__law_draws (.cons (.var 0) (.cons (.int 300) .nil))) (.cons (.int 0) .nil)))) (.cons (.for_ (.nm 2) (.rng1 (.int 4)) (.cons (.asg 3 (.call c__law_place (.cons (.var 1) (.cons (.int 4) .nil)))) (.cons (.asg 4 (.tup (.cons (.str "box") (.cons (.var 3) (.cons (.bi .tuple (.cons (.lc (.call c__law_add (.cons (.var 22) (.cons (.call c__law_fr (.cons (.op .Add (.int 1) (.call c__law_next (.cons (.var 1) (.cons (.int 5) .nil)))) (.cons (.op .Add (.int 1) (.call c__law_next (.cons (.var 1) (.cons (.int 2) .nil)))) .nil))) .nil))) (.nm 22) (.seq (.var 3)) .none) .nil)) .nil))))) (.cons (.asg 5 (.bi .tuple (.cons (.lc (.call c__law_add (.cons (.ix (.ix (.var 4) (.int 1)) (.var 21)) (.cons (.call c__law_mul (.cons (.call c__law_sub (.cons (.ix (.ix (.var 4) (.int 2)) (.var 21)) (.cons (.ix (.ix (.var 4) (.int 1)) (.var 21)) .nil))) (.cons (.call c__law_fr (.cons (.op .Add (.int 1) (.call c__law_next (.cons (.var 1) (.cons (.int 6) .nil)))) (.cons (.int 8) .nil))) .nil))) .nil))) (.nm 21) (.rng1 (.int 3)) .none) .nil))) (.cons (.par 15 16 (.tup (.cons (.tup .nil) (.cons (.var 5) (.cons (.call c__law_way (.cons (.var 1) .nil)) .nil)))) (.op .Add (.int 1) (.call c__law_next (.cons (.var 1) (.cons (.int 7) .nil))))) (.cons (.asg 6 (.call c__law_walk (.cons (.var 4) (.cons (.var 15) (.cons (.var 16) .nil))))) (.cons (.asg 7 (.cmp .Lt (.ldict (.lc (.tup (.cons (.ix (.var 23) (.int 0)) (.cons (.bl true) .nil))) (.nm 23) (.seq (.var 6)) .none)) (.bi .len (.cons (.var 6) .nil)))) (.cons (.asg 8 (.sl (.var 6) .none (.some (.var 16)))) (.cons (.ifs (.not (.call c__law_alike (.cons (.bi .tuple (.cons (.call c_meeting_times (.cons (.var 4) (.cons (.var 15) (.cons (.var 16) .nil)))) .nil)) (.cons (.bi .tuple (.cons (.lc (.ix (.var 23) (.int 0)) (.nm 23) (.seq (.var 8)) .none) .nil)) .nil)))) (.cons (.ret (.bl false)) .nil) .nil) (.cons (.asg 9 (.cmp .NotEq (.lc (.var 21) (.nm 21) (.rng1 (.op .Sub (.bi .len (.cons (.var 8) .nil)) (.int 1))) (.some (.cmp .Eq (.ix (.ix (.var 8) (.var 21)) (.int 0)) (.ix (.ix (.var 8) (.op .Add (.var 21) (.int 1))) (.int 0))))) (.lst .nil))) (.cons (.ifs (.and (.not (.call c__law_alike (.cons (.tup (.cons (.call c_is_through_edge (.cons (.var 4) (.cons (.var 15) (.cons (.var 16) .nil)))) (.cons (.bi .tuple (.cons (.call c_faces_met (.cons (.var 4) (.cons (.var 15) (.cons (.var 16) .nil)))) .nil)) .nil))) (.cons (.tup (.cons (.var 9) (.cons (.bi .tuple (.cons (.lc (.tup (.cons (.ix (.var 23) (.int 2)) (.cons (.ix (.var 23) (.int 3)) .nil))) (.nm 23) (.seq (.var 8)) .none) .nil)) .nil))) .nil)))) (.not (.var 7))) (.cons (.ret (.bl false)) .nil) .nil) (.cons (.ifs (.not (.call c__law_alike (.cons (.call c_is_through_edge (.cons (.var 4) (.cons (.var 15) (.cons (.var 16) .nil)))) (.cons (.var 9) .nil)))) (.cons (.ret (.bl false)) .nil) .nil) (.cons (.ifs (.and (.not (.var 7)) (.not (.call c__law_alike (.cons (.bi .tuple (.cons (.call c_bounces (.cons (.var 4) (.cons (.var 15) (.cons (.var 16) .nil)))) .nil)) (.cons (.bi .tuple (.cons (.lc (.ix (.var 23) (.int 1)) (.nm 23) (.seq (.var 8)) .none) .nil)) .nil))))) (.cons (.ret (.bl false)) .nil) .nil) (.cons (.for_ (.nm 10) (.rng1 (.int 4)) (.cons (.asg 17 (.call c__law_fr (.cons (.call c__law_next (.cons (.var 1) (.cons (.int 60) .nil))) (.cons (.op .Add (.int 1) (.call c__law_next (.cons (.var 1) (.cons (.int 4) .nil)))) .nil)))) (.cons (.asg 13 (.call c__law_at (.cons (.var 4) (.cons (.var 15) (.cons (.var 17) .nil))))) (.cons (.ifs (.and (.cmp .IsNot (.var 13) .non) (.not (.call c__law_alike (.cons (.call c_place_at (.cons (.var 4) (.cons (.var 15) (.cons (.var 17) .nil)))) (.cons (.ix (.var 13) (.int 0)) .nil))))) (.cons (.ret (.bl false)) .nil) .nil) .nil)))) (.cons (.asgT [18, 19] (.tup (.cons (.call c__law_num (.cons (.var 1) (.cons (.int 30) .nil))) (.cons (.call c__law_place (.cons (.var 1) (.cons (.int 12) .nil))) .nil)))) (.cons (.asg 11 (.bi .tuple (.cons (.lc (.call c__law_fold (.cons (.ix (.ix (.var 4) (.int 1)) (.var 21)) (.cons (.ix (.ix (.var 4) (.int 2)) (.var 21)) (.cons (.ix (.var 19) (.var 21)) .nil)))) (.nm 21) (.rng1 (.int 3)) .none) .nil))) (.cons (.ifs (.not (.call c__law_alike (.cons (.tup (.cons (.call c_folded (.cons (.ix (.ix (.var 4) (.int 1)) (.int 0)) (.cons (.ix (.ix (.var 4) (.int 2)) (.int 0)) (.cons (.var 18) .nil)))) (.cons (.call c_folded_place (.cons (.var 4) (.cons (.var 19) .nil))) .nil))) (.cons (.tup (.cons (.call c__law_fold (.cons (.ix (.ix (.var 4) (.int 1)) (.int 0)) (.cons (.ix (.ix (.var 4) (.int 2)) (.int 0)) (.cons (.var 18) .nil)))) (.cons (.var 11) .nil))) .nil)))) (.cons (.ret (.bl false)) .nil) .nil) (.cons (.asg 12 (.call c_comes_back (.cons (.var 4) (.cons (.var 15) .nil)))) (.cons (.asg 13 (.call c__law_at (.cons (.var 4) (.cons (.var 15) (.cons (.var 12) .nil))))) (.cons (.ifs (.or (.cmp .LtE (.ix (.var 12) (.int 0)) (.int 0)) (.and (.cmp .IsNot (.var 13) .non) (.not (.call c__law_alike (.cons (.var 13) (.cons (.tup (.cons (.ix (.var 15) (.int 1)) (.cons (.ix (.var 15) (.int 2)) .nil))) .nil)))))) (.cons (.ret (.bl false)) .nil) .nil) (.cons (.for_ (.nm 14) (.seq (.tup (.cons (.int 2) (.cons (.int 3) (.cons (.int 5) (.cons (.int 7) .nil)))))) (.cons (.asg 20 (.call c__law_at (.cons (.var 4) (.cons (.var 15) (.cons (.call c__law_div (.cons (.var 12) (.cons (.tup (.cons (.var 14) (.cons (.int 1) .nil))) .nil))) .nil))))) (.cons (.ifs (.and (.cmp .IsNot (.var 20) .non) (.call c__law_alike (.cons (.var 20) (.cons (.tup (.cons (.ix (.var 15) (.int 1)) (.cons (.ix (.var 15) (.int 2)) .nil))) .nil)))) (.cons (.ret (.bl false)) .nil) .nil) .nil))) .nil))))))))))))))))))))) (.cons (.ret (.bl true)) .nil)))
def d_common : FD := ⟨"common", top 1, ["one", "other"], ["one", "other"], B_common⟩
def d_frac : FD := ⟨"frac", top 2, ["upper", "lower", "shared"], ["upper", "lower"], B_frac 0⟩
def d_plus : FD := ⟨"plus", top 3, ["one", "other"], ["one", "other"], B_plus 1⟩
def d_minus : FD := ⟨"minus", top 4, ["one", "other"], ["one", "other"], B_minus 1⟩
def d_times : FD := ⟨"times", top 5, ["one", "other"], ["one", "other"], B_times 1⟩
def d_over : FD := ⟨"over", top 6, ["one", "other"], ["one", "other"], B_over 1⟩
def d_sign_of : FD := ⟨"sign_of", top 7, ["one"], ["one"], B_sign_of⟩
def d_less : FD := ⟨"less", top 8, ["one", "other"], ["one", "other"], B_less⟩
def d_floor_of : FD := ⟨"floor_of", top 9, ["one"], ["one"], B_floor_of⟩
def d_root_below : FD := ⟨"root_below", top 10, ["number", "found", "later"], ["number"], B_root_below⟩
def d_exact_root : FD := ⟨"exact_root", top 11, ["one", "upper", "lower"], ["one"], B_exact_root 9⟩
def d_lifted : FD := ⟨"lifted", top 13, ["one", "tower", "higher", "k"], ["one", "tower", "higher"], B_lifted 12⟩
def d_nought : FD := ⟨"nought", top 14, ["tower"], ["tower"], B_nought 11⟩
def d_number : FD := ⟨"number", top 15, ["one", "tower"], ["one", "tower"], B_number 11⟩
def d_add : FD := ⟨"add", top 16, ["one", "other", "tower", "lower"], ["one", "other", "tower"], B_add 2 14⟩
def d_sub : FD := ⟨"sub", top 17, ["one", "other", "tower", "lower"], ["one", "other", "tower"], B_sub 3 15⟩
def d_neg : FD := ⟨"neg", top 18, ["one", "tower"], ["one", "tower"], B_neg 15 12⟩
def d_mul : FD := ⟨"mul", top 19, ["one", "other", "tower", "both", "across", "lower", "root"], ["one", "other", "tower"], B_mul 4 18 17 14⟩
def d_is_nought : FD := ⟨"is_nought", top 20, ["one", "tower"], ["one", "tower"], B_is_nought 18⟩
def d_scaled : FD := ⟨"scaled", top 21, ["one", "part", "tower"], ["one", "part", "tower"], B_scaled 4 19⟩
def d_norm : FD := ⟨"norm", top 22, ["one", "tower", "lower"], ["one", "tower"], B_norm 15 17⟩
def d_sign : FD := ⟨"sign", top 23, ["one", "tower", "first", "second"], ["one", "tower"], B_sign 6 21 20⟩
def d_inverse : FD := ⟨"inverse", top 24, ["one", "tower", "under", "lower", "square"], ["one", "tower"], B_inverse 1 20 21 11 22 19 16 17⟩
def d_div : FD := ⟨"div", top 25, ["one", "other", "tower"], ["one", "other", "tower"], B_div 17 22⟩
def d_compare : FD := ⟨"compare", top 26, ["one", "other", "tower"], ["one", "other", "tower"], B_compare 21 15⟩
def d_with_root : FD := ⟨"with_root", top 27, ["one", "tower", "plain", "k", "higher"], ["one", "tower"], B_with_root 26 10 13 24 11 12⟩
def d_fraction_of : FD := ⟨"fraction_of", top 28, ["one", "tower", "k"], ["one", "tower"], B_fraction_of 18⟩
def d_vector : FD := ⟨"vector", top 30, ["place", "tower", "one"], ["place", "tower"], B_vector 13⟩
def d_raised : FD := ⟨"raised", top 31, ["three", "tower", "higher", "one"], ["three", "tower", "higher"], B_raised 11⟩
def d_plus_all : FD := ⟨"plus_all", top 32, ["one", "other", "tower", "a", "b"], ["one", "other", "tower"], B_plus_all 14⟩
def d_minus_all : FD := ⟨"minus_all", top 33, ["one", "other", "tower", "a", "b"], ["one", "other", "tower"], B_minus_all 15⟩
def d_by : FD := ⟨"by", top 34, ["one", "times", "tower", "part"], ["one", "times", "tower"], B_by 17⟩
def d_dot : FD := ⟨"dot", top 35, ["one", "other", "tower", "first", "second", "third", "a", "b"], ["one", "other", "tower"], B_dot 17 14⟩
def d_along : FD := ⟨"along", top 36, ["origin", "way", "time", "tower"], ["origin", "way", "time", "tower"], B_along 29 31⟩
def d_halves_of : FD := ⟨"halves_of", top 39, ["box", "found", "k", "way", "j", "one"], ["box"], B_halves_of 3⟩
def d_plain_body : FD := ⟨"plain_body", top 40, ["body", "half", "found", "rest"], ["body"], B_plain_body 34 35⟩
def d_quad_at : FD := ⟨"quad_at", top 41, ["nine", "point", "tower", "found", "parts", "share", "part"], ["nine", "point", "tower"], B_quad_at 12 37 14 19⟩
def d_products_of : FD := ⟨"products_of", top 42, ["point", "tower", "pairs", "x", "y", "z", "one", "other"], ["point", "tower"], B_products_of 17⟩
def d_slope_at : FD := ⟨"slope_at", top 43, ["nine", "point", "tower", "first", "rows", "found", "a", "b", "c", "d", "e", "f", "g", "h", "i", "x", "y", "z", "second", "third", "last", "own", "share", "part", "twice"], ["nine", "point", "tower"], B_slope_at 13 14 19 4⟩
def d_normal_at : FD := ⟨"normal_at", top 44, ["simple", "point", "tower"], ["simple", "point", "tower"], B_normal_at 30 27 38⟩
def d_plain_time : FD := ⟨"plain_time", top 46, ["one", "tower"], ["one", "tower"], B_plain_time 12⟩
def d_time_number : FD := ⟨"time_number", top 47, ["time", "tower", "first", "second", "under", "higher", "root"], ["time", "tower"], B_time_number 18 25 14 17 11⟩
def d_raised_time : FD := ⟨"raised_time", top 48, ["time", "tower", "higher", "one"], ["time", "tower", "higher"], B_raised_time 11⟩
def d_compare_times : FD := ⟨"compare_times", top 49, ["one", "other", "tower", "higher", "first", "last", "second"], ["one", "other", "tower"], B_compare_times 41 42 21 15 11⟩
def d_sign_of_time : FD := ⟨"sign_of_time", top 50, ["time", "tower"], ["time", "tower"], B_sign_of_time 43 40 12⟩
def d_times_of : FD := ⟨"times_of", top 52, ["simple", "ray", "far", "rest", "under", "share", "first", "tower", "origin", "way", "up", "steep", "left", "whole", "part"], ["simple", "ray"], B_times_of 27 32 21 15 13 40 23 47 46 30 17 22 16⟩
def d_parts_along : FD := ⟨"parts_along", top 53, ["quad", "ray", "nine", "square", "plain", "tower", "origin", "way"], ["quad", "ray"], B_parts_along 36 32 38 14 13⟩
def d_quad_times : FD := ⟨"quad_times", top 54, ["parts", "tower", "turn", "under", "share", "square", "plain", "rest", "first", "step"], ["parts", "tower"], B_quad_times 21 40 16 23 15 19 17 22⟩
def d_quad_begins : FD := ⟨"quad_begins", top 55, ["parts", "tower", "square", "plain", "rest", "one"], ["parts", "tower"], B_quad_begins 21⟩
def d_begins_in : FD := ⟨"begins_in", top 56, ["simple", "ray", "up", "steep", "tower", "origin", "way"], ["simple", "ray"], B_begins_in 48 46 27 21 32 15 13⟩
def d_crossing : FD := ⟨"crossing", top 57, ["body", "ray"], ["body", "ray"], B_crossing 51 35⟩
def d_cross_plain : FD := ⟨"cross_plain", top 58, ["body", "ray", "first", "second", "time"], ["body", "ray"], B_cross_plain 45 49 51 53⟩
def d_holds : FD := ⟨"holds", top 59, ["kind", "one", "other"], ["kind", "one", "other"], B_holds⟩
def d_joined : FD := ⟨"joined", top 60, ["kind", "first", "second", "tower", "now", "one", "other", "left", "right", "found", "order", "own"], ["kind", "first", "second", "tower"], B_joined 52 54 55⟩
def d_order_of : FD := ⟨"order_of", top 61, ["left", "right", "tower"], ["left", "right", "tower"], B_order_of 43⟩
def d_flipped : FD := ⟨"flipped", top 62, ["kind", "change", "time", "simple", "turned"], ["kind", "change"], B_flipped⟩
def d_first_change : FD := ⟨"first_change", top 63, ["body", "ray", "within", "changes", "time", "simple", "turned"], ["body", "ray"], B_first_change 50 44⟩
def d_point_at : FD := ⟨"point_at", top 65, ["ray", "time", "tower", "origin", "way", "higher", "found"], ["ray", "time"], B_point_at 41 33 28⟩
def d_raised_ray : FD := ⟨"raised_ray", top 66, ["ray", "higher", "tower", "origin", "way"], ["ray", "higher"], B_raised_ray 28⟩
def d_met_at : FD := ⟨"met_at", top 68, ["ray", "change", "up", "time", "simple", "turned", "_", "higher", "point", "one"], ["ray", "change"], B_met_at 57 39 16 58⟩
def d_thrown_back : FD := ⟨"thrown_back", top 69, ["ray", "point", "up", "share", "tower", "_", "way"], ["ray", "point", "up"], B_thrown_back 19 23 32 30 31⟩
def d_bounces : FD := ⟨"bounces", top 71, ["box", "ray", "many", "found", "_", "own", "point", "up"], ["box", "ray", "many"], B_bounces 59 56 60⟩
def d_times_of_levels : FD := ⟨"times_of_levels", top 72, ["low", "high", "start", "step", "most", "begin", "every", "time", "side", "found", "k", "one"], ["low", "high", "start", "step", "most"], B_times_of_levels 3 5 7 2 4⟩
def d_folded : FD := ⟨"folded", top 73, ["low", "high", "number", "side", "turns", "rest"], ["low", "high", "number"], B_folded 3 8 5 4 2⟩
def d_folded_place : FD := ⟨"folded_place", top 74, ["box", "place", "low", "high", "one"], ["box", "place"], B_folded_place 63⟩
def d_place_at : FD := ⟨"place_at", top 75, ["box", "ray", "time"], ["box", "ray", "time"], B_place_at 64 33⟩
def d_meeting_times : FD := ⟨"meeting_times", top 76, ["box", "ray", "many", "most", "found", "k"], ["box", "ray", "many"], B_meeting_times 62 67 4⟩
def d_in_order : FD := ⟨"in_order", top 77, ["fracs", "found", "one", "at", "own"], ["fracs"], B_in_order 7⟩
def d_is_through_edge : FD := ⟨"is_through_edge", top 78, ["box", "ray", "many", "row", "k"], ["box", "ray", "many"], B_is_through_edge 66⟩
def d_faces_met : FD := ⟨"faces_met", top 79, ["box", "ray", "many", "rows", "time", "k", "level", "turns", "_", "side", "upper", "row"], ["box", "ray", "many"], B_faces_met 66 2 4 5 3⟩
def d_comes_back : FD := ⟨"comes_back", top 80, ["box", "ray", "rows", "k", "found", "one", "pair"], ["box", "ray"], B_comes_back 4 3 5 71⟩
def d_shared_multiple : FD := ⟨"shared_multiple", top 81, ["one", "other", "share"], ["one", "other"], B_shared_multiple 5 4⟩
def d__law_draws : FD := ⟨"_law_draws", top 83, ["script", "many", "draws", "mixed", "k", "cell", "rest", "turn"], ["script", "many"], B__law_draws⟩
def d__law_next : FD := ⟨"_law_next", top 84, ["w", "many"], ["w", "many"], B__law_next⟩
def d__law_pick : FD := ⟨"_law_pick", top 85, ["w", "rows"], ["w", "rows"], B__law_pick 73⟩
def d__law_alike : FD := ⟨"_law_alike", top 86, ["given", "due", "k"], ["given", "due"], B__law_alike 75⟩
def d__law_gcd : FD := ⟨"_law_gcd", top 87, ["a", "b"], ["a", "b"], B__law_gcd⟩
def d__law_fr : FD := ⟨"_law_fr", top 88, ["n", "d", "g"], ["n", "d"], B__law_fr 76⟩
def d__law_add : FD := ⟨"_law_add", top 89, ["a", "b"], ["a", "b"], B__law_add 77⟩
def d__law_sub : FD := ⟨"_law_sub", top 90, ["a", "b"], ["a", "b"], B__law_sub 77⟩
def d__law_mul : FD := ⟨"_law_mul", top 91, ["a", "b"], ["a", "b"], B__law_mul 77⟩
def d__law_div : FD := ⟨"_law_div", top 92, ["a", "b"], ["a", "b"], B__law_div 77⟩
def d__law_sgn : FD := ⟨"_law_sgn", top 93, ["a"], ["a"], B__law_sgn⟩
def d__law_num : FD := ⟨"_law_num", top 94, ["w", "most"], ["w", "most"], B__law_num 77 74 73⟩
def d__law_place : FD := ⟨"_law_place", top 95, ["w", "most", "k"], ["w", "most"], B__law_place 83⟩
def d__law_way : FD := ⟨"_law_way", top 96, ["w", "found", "one"], ["w"], B__law_way 84⟩
def d__law_bounce : FD := ⟨"_law_bounce", top 97, ["box", "p", "d", "k", "best", "sides", "level", "time", "order"], ["box", "p", "d"], B__law_bounce 81 79 82⟩
def d__law_walk : FD := ⟨"_law_walk", top 98, ["box", "ray", "many", "turn", "p", "d", "now", "found", "side", "time", "sides", "k"], ["box", "ray", "many"], B__law_walk 86 78 80 79⟩
def d__law_at : FD := ⟨"_law_at", top 99, ["box", "ray", "time", "turn", "p", "d", "left", "step", "sides", "k"], ["box", "ray", "time"], B__law_at 86 82 79 78 80⟩
def d__law_fold : FD := ⟨"_law_fold", top 100, ["low", "high", "number_v", "turn"], ["low", "high", "number_v"], B__law_fold 82 79 80⟩
def d_law : FD := ⟨"law", top 101, ["script", "w", "turn", "low", "box", "inner", "walk", "edge", "rows", "twice", "look", "due", "home", "here", "part", "ray", "many", "time", "number_v", "p", "early", "k", "one", "own"], ["script"], B_law 72 84 78 77 73 80 79 85 87 75 66 69 68 61 88 65 83 89 64 63 70 81⟩
def defs : List FD := [d_common, d_frac, d_plus, d_minus, d_times, d_over, d_sign_of, d_less, d_floor_of, d_root_below, d_exact_root, d_lifted, d_nought, d_number, d_add, d_sub, d_neg, d_mul, d_is_nought, d_scaled, d_norm, d_sign, d_inverse, d_div, d_compare, d_with_root, d_fraction_of, d_vector, d_raised, d_plus_all, d_minus_all, d_by, d_dot, d_along, d_halves_of, d_plain_body, d_quad_at, d_products_of, d_slope_at, d_normal_at, d_plain_time, d_time_number, d_raised_time, d_compare_times, d_sign_of_time, d_times_of, d_parts_along, d_quad_times, d_quad_begins, d_begins_in, d_crossing, d_cross_plain, d_holds, d_joined, d_order_of, d_flipped, d_first_change, d_point_at, d_raised_ray, d_met_at, d_thrown_back, d_bounces, d_times_of_levels, d_folded, d_folded_place, d_place_at, d_meeting_times, d_in_order, d_is_through_edge, d_faces_met, d_comes_back, d_shared_multiple, d__law_draws, d__law_next, d__law_pick, d__law_alike, d__law_gcd, d__law_fr, d__law_add, d__law_sub, d__law_mul, d__law_div, d__law_sgn, d__law_num, d__law_place, d__law_way, d__law_bounce, d__law_walk, d__law_at, d__law_fold, d_law]
/-- the law: its number, its place in the top -/
def lawNo : Nat := 90
def lawAt : Nat := 101
def fs : List Str := defs.map FD.name
theorem chk_all : (defs.all fun d => d.chk fs) = true := by decide +kernel
end K12

set_option Elab.async false
set_option linter.all false
set_option maxRecDepth 100000
set_option maxHeartbeats 4000000
/-! the defs at the program's numbers: fractions -/
namespace K12
open FM
open PySem (Str sizeLine)
def T (n : Nat) : Fs := call (tabOf defs) W n
theorem T_at {n f : Nat} {d : FD} (h : defs[f]? = some d) (ds : List D) (μ : Cells) : T (n + 1) f ds μ = runFn (T n) W d.fn ds μ := call_at h ds μ
theorem common_at (n : Nat) : CommonC (T (n + 1)) 0 := fun a b μ h => (T_at (d := d_common) rfl _ _).trans (common_ok a b h μ)
theorem frac_at (n : Nat) : FracC (T (n + 2)) 1 := fun a b μ h => (T_at (d := d_frac) rfl _ _).trans (frac_ok (common_at n) a b μ h)
theorem gcd_at (n : Nat) (a b : Int) (μ : Cells) (h : Gp a b) : T (n + 1) 76 [.int a, .int b] μ = some (.int (Int.gcd a b), μ) := (T_at (d := d__law_gcd) rfl _ _).trans (gcd_ok a b h μ)
theorem lfr_at (n : Nat) : LFracC (T (n + 2)) 77 := fun a b μ ha h => (T_at (d := d__law_fr) rfl _ _).trans (law_fr_ok (gcd_at n) a b μ ha h)
/-- what may be divided by -/
structure Dd (x y : Rat) : Prop where
  ne : y ≠ 0
  ok : 0 < y ∨ x.den * y.num.natAbs < 1073741824
theorem Dd.pos {x y : Rat} (h : 0 < y) : Dd x y := ⟨by grind, .inl h⟩
theorem num_pos' {y : Rat} (h : 0 < y) : 0 < y.num := by
  have := (Rat.lt_iff 0 y).mp h
  simpa using this
theorem Dd.dn {a b : Nat} {x y : Rat} (h : Dd x y) (hx : Sz a x) (hy : Sz b y) (h1 : a ≤ 1800) (h2 : b ≤ 1800) : Dn ((pq x).2 * (pq y).1) := by
  refine ⟨(((hx.d.mono h1).mul (hy.n.mono h2))).mono (by decide), ?_⟩
  have hd := x.den_pos
  rcases h.ok with k | k
  · left
    exact Int.mul_pos (by show 0 < (x.den : Int); omega) (num_pos' k)
  · right
    refine ⟨Int.mul_ne_zero (by show (x.den : Int) ≠ 0; omega) (num_ne h.ne), ?_⟩
    show ((x.den : Int) * y.num).natAbs < _
    rw [Int.natAbs_mul, Int.natAbs_natCast]
    exact k
section
variable {n : Nat} {a b : Nat} {x y : Rat} [hx : Sz a x] [hy : Sz b y]
theorem plus_at (μ : Cells) (h1 : a ≤ 1800) (h2 : b ≤ 1800) : T (n + 3) 2 [qD x, qD y] μ = some (qD (x + y), μ) := by
  have z := (T_at (f := 2) (n := n + 2) (d := d_plus) rfl [qD x, qD y] μ).trans (plus_ok (hx.fq.mono h1) (hy.fq.mono h2) μ (frac_at n))
  rw [addF_pq] at z
  exact z
theorem minus_at (μ : Cells) (h1 : a ≤ 1800) (h2 : b ≤ 1800) : T (n + 3) 3 [qD x, qD y] μ = some (qD (x - y), μ) := by
  have z := (T_at (f := 3) (n := n + 2) (d := d_minus) rfl [qD x, qD y] μ).trans (minus_ok (hx.fq.mono h1) (hy.fq.mono h2) μ (frac_at n))
  rw [subF_pq] at z
  exact z
theorem times_at (μ : Cells) (h1 : a ≤ 1800) (h2 : b ≤ 1800) : T (n + 3) 4 [qD x, qD y] μ = some (qD (x * y), μ) := by
  have z := (T_at (f := 4) (n := n + 2) (d := d_times) rfl [qD x, qD y] μ).trans (times_ok (hx.fq.mono h1) (hy.fq.mono h2) μ (frac_at n))
  rw [mulF_pq] at z
  exact z
theorem over_at (μ : Cells) (h1 : a ≤ 1800) (h2 : b ≤ 1800) (h : Dd x y) : T (n + 3) 5 [qD x, qD y] μ = some (qD (x / y), μ) := by
  have z := (T_at (f := 5) (n := n + 2) (d := d_over) rfl [qD x, qD y] μ).trans (over_ok (hx.fq.mono h1) (hy.fq.mono h2) μ (frac_at n) (h.dn hx hy h1 h2))
  rw [divF_pq x h.ne] at z
  exact z
theorem ladd_at (μ : Cells) (h1 : a ≤ 1800) (h2 : b ≤ 1800) : T (n + 3) 78 [qD x, qD y] μ = some (qD (x + y), μ) := by
  have z := (T_at (f := 78) (n := n + 2) (d := d__law_add) rfl [qD x, qD y] μ).trans (law_add_ok (hx.fq.mono h1) (hy.fq.mono h2) μ (lfr_at n))
  rw [addF_pq] at z
  exact z
theorem lsub_at (μ : Cells) (h1 : a ≤ 1800) (h2 : b ≤ 1800) : T (n + 3) 79 [qD x, qD y] μ = some (qD (x - y), μ) := by
  have z := (T_at (f := 79) (n := n + 2) (d := d__law_sub) rfl [qD x, qD y] μ).trans (law_sub_ok (hx.fq.mono h1) (hy.fq.mono h2) μ (lfr_at n))
  rw [subF_pq] at z
  exact z
theorem lmul_at (μ : Cells) (h1 : a ≤ 1800) (h2 : b ≤ 1800) : T (n + 3) 80 [qD x, qD y] μ = some (qD (x * y), μ) := by
  have z := (T_at (f := 80) (n := n + 2) (d := d__law_mul) rfl [qD x, qD y] μ).trans (law_mul_ok (hx.fq.mono h1) (hy.fq.mono h2) μ (lfr_at n))
  rw [mulF_pq] at z
  exact z
theorem ldiv_at (μ : Cells) (h1 : a ≤ 1800) (h2 : b ≤ 1800) (h : Dd x y) : T (n + 3) 81 [qD x, qD y] μ = some (qD (x / y), μ) := by
  have z := (T_at (f := 81) (n := n + 2) (d := d__law_div) rfl [qD x, qD y] μ).trans (law_div_ok (hx.fq.mono h1) (hy.fq.mono h2) μ (lfr_at n) (h.dn hx hy h1 h2))
  rw [divF_pq x h.ne] at z
  exact z
theorem less_at (μ : Cells) (h1 : a ≤ 1800) (h2 : b ≤ 1800) : T (n + 1) 7 [qD x, qD y] μ = some (.bl (decide (x < y)), μ) := by
  have z := (T_at (f := 7) (n := n) (d := d_less) rfl [qD x, qD y] μ).trans (less_ok (hx.fq.mono h1) (hy.fq.mono h2) μ)
  have e := lessF_pq x y
  unfold lessF at e
  rw [e] at z
  exact z
theorem sign_of_at (μ : Cells) : T (n + 1) 6 [qD x] μ = some (.int (sg x), μ) := by
  have z := (T_at (f := 6) (n := n) (d := d_sign_of) rfl [qD x] μ).trans (sign_of_ok (pq x) μ)
  rw [sg_pq] at z
  exact z
theorem lsgn_at (μ : Cells) : T (n + 1) 82 [qD x] μ = some (.int (sg x), μ) := by
  have z := (T_at (f := 82) (n := n) (d := d__law_sgn) rfl [qD x] μ).trans (law_sgn_ok (pq x) μ)
  rw [sg_pq] at z
  exact z
theorem floor_at (μ : Cells) (h1 : a ≤ 1800) : T (n + 1) 8 [qD x] μ = some (.int x.floor, μ) := by
  have hp := x.den_pos
  have z := (T_at (f := 8) (n := n) (d := d_floor_of) rfl [qD x] μ).trans (floor_of_ok (x := pq x) (Dv.pos (k := 1800) (by show 0 < (x.den : Int); omega) (hx.d.mono h1) (by decide)) μ)
  have e : (pq x).1.fdiv (pq x).2 = x.floor := by
    show x.num.fdiv (x.den : Int) = _
    rw [Rat.floor_def, Int.fdiv_eq_ediv_of_nonneg _ (by omega)]
  rw [e] at z
  exact z
end
end K12

set_option Elab.async false
set_option linter.all false
set_option maxRecDepth 100000
set_option maxHeartbeats 4000000
/-! towers without roots, vectors -/
namespace K12
open FM
open PySem (Str sizeLine)
theorem eqD_nil : eqD (.tup []) (.tup []) = some true := rfl
theorem qD_0 (μ : Cells) (q : Rat) : ixD μ (qD q) (.int 0) = some (.int q.num) := by unfold qD; rw [ix_tup, atI_0]
theorem qD_1 (μ : Cells) (q : Rat) : ixD μ (qD q) (.int 1) = some (.int (q.den : Int)) := by unfold qD; rw [ix_tup, atI_1]
theorem vD_0 (μ : Cells) (v : I3 → Rat) : ixD μ (vD v) (.int 0) = some (qD (v 0)) := by unfold vD; rw [ix_tup, atI_0]
theorem vD_1 (μ : Cells) (v : I3 → Rat) : ixD μ (vD v) (.int 1) = some (qD (v 1)) := by unfold vD; rw [ix_tup, atI_1]
theorem vD_2 (μ : Cells) (v : I3 → Rat) : ixD μ (vD v) (.int 2) = some (qD (v 2)) := by unfold vD; rw [ix_tup, atI_2]
theorem rng3' : True := trivial
theorem rng3 : rngD 0 3 = [.int 0, .int 1, .int 2] := rfl
theorem rng0 : rngD 0 0 = [] := rfl
theorem rngOk_3 : rngOk 3 = true := by decide
theorem rngOk_0 : rngOk 0 = true := by decide
theorem len_nil (μ : Cells) : biD μ .len [.tup []] = some (.int 0) := rfl
local macro_rules | `(tactic| walk_at "go") => `(tactic| simp [FM.runFn, FM.FD.fn, FM.execs, FM.exec, FM.ev, FM.evs, FM.evo, FM.evc, FM.evi, FM.lk, FM.lks, FM.It.lk, FM.isOw, FM.noOw, FM.Sl.isOw, FM.Sl.d, FM.isiD, FM.cmpD, FM.negD, FM.setAll, FM.bindT, FM.andThen_some', FM.onBl_bl, FM.wthD_some', FM.eqD_int, FM.ix_tup, FM.ix_lst, FM.atI_0, FM.atI_1, FM.atI_2, FM.op_add, FM.op_sub, FM.szle, FM.forF, FM.lcGo, FM.biD, K12.eqD_nil, K12.qD_0, K12.qD_1, K12.vD_0, K12.vD_1, K12.vD_2, K12.rng3, K12.rng0, K12.rngOk_3, K12.rngOk_0, FM.zipD, FM.zipD3, *])
section
variable {n : Nat} {a b : Nat} {x y : Rat} (μ : Cells)
theorem lifted_at (d : D) : T (n + 1) 11 [d, .tup [], .tup []] μ = some (d, μ) := by
  refine (T_at (f := 11) (n := n) (d := d_lifted) rfl _ _).trans ?_
  unfold d_lifted B_lifted
  walk_at "go"
local macro_rules | `(tactic| walk_at "go") => `(tactic| simp [FM.runFn, FM.FD.fn, FM.execs, FM.exec, FM.ev, FM.evs, FM.evo, FM.evc, FM.evi, FM.lk, FM.lks, FM.It.lk, FM.isOw, FM.noOw, FM.Sl.isOw, FM.Sl.d, FM.isiD, FM.cmpD, FM.negD, FM.setAll, FM.bindT, FM.andThen_some', FM.onBl_bl, FM.wthD_some', FM.eqD_int, FM.ix_tup, FM.ix_lst, FM.atI_0, FM.atI_1, FM.atI_2, FM.op_add, FM.op_sub, FM.szle, FM.forF, FM.lcGo, FM.biD, K12.eqD_nil, K12.qD_0, K12.qD_1, K12.vD_0, K12.vD_1, K12.vD_2, K12.rng3, K12.rng0, K12.rngOk_3, K12.rngOk_0, FM.zipD, FM.zipD3, lifted_at, plus_at, minus_at, times_at, sign_of_at, *])
theorem number_at (d : D) : T (n + 2) 13 [d, .tup []] μ = some (d, μ) := by
  refine (T_at (f := 13) (n := n + 1) (d := d_number) rfl _ _).trans ?_
  unfold d_number B_number
  walk_at "go"
theorem nought_at : T (n + 2) 12 [.tup []] μ = some (qD 0, μ) := by
  refine (T_at (f := 12) (n := n + 1) (d := d_nought) rfl _ _).trans ?_
  unfold d_nought B_nought
  walk_at "go"
  rfl
theorem is_nought_at : T (n + 1) 18 [qD x, .tup []] μ = some (.bl (decide (x = 0)), μ) := by
  refine (T_at (f := 18) (n := n) (d := d_is_nought) rfl _ _).trans ?_
  unfold d_is_nought B_is_nought
  walk_at "go"
variable [hx : Sz a x] [hy : Sz b y] (h1 : a ≤ 1800) (h2 : b ≤ 1800)
include h1
theorem add_at (h2 : b ≤ 1800) : T (n + 4) 14 [qD x, qD y, .tup []] μ = some (qD (x + y), μ) := by
  refine (T_at (f := 14) (n := n + 3) (d := d_add) rfl _ _).trans ?_
  unfold d_add B_add
  walk_at "go"
theorem sub_at (h2 : b ≤ 1800) : T (n + 4) 15 [qD x, qD y, .tup []] μ = some (qD (x - y), μ) := by
  refine (T_at (f := 15) (n := n + 3) (d := d_sub) rfl _ _).trans ?_
  unfold d_sub B_sub
  walk_at "go"
theorem mul_at (h2 : b ≤ 1800) : T (n + 4) 17 [qD x, qD y, .tup []] μ = some (qD (x * y), μ) := by
  refine (T_at (f := 17) (n := n + 3) (d := d_mul) rfl _ _).trans ?_
  unfold d_mul B_mul
  walk_at "go"
theorem scaled_at (h2 : b ≤ 1800) : T (n + 4) 19 [qD x, qD y, .tup []] μ = some (qD (x * y), μ) := by
  refine (T_at (f := 19) (n := n + 3) (d := d_scaled) rfl _ _).trans ?_
  unfold d_scaled B_scaled
  walk_at "go"
theorem sign_at : T (n + 2) 21 [qD x, .tup []] μ = some (.int (sg x), μ) := by
  refine (T_at (f := 21) (n := n + 1) (d := d_sign) rfl _ _).trans ?_
  unfold d_sign B_sign
  walk_at "go"
theorem inverse_at (h : Dd 1 x) : T (n + 3) 22 [qD x, .tup []] μ = some (qD (1 / x), μ) := by
  have dn : Dn x.num := by
    have := h.dn Sz.one hx (by decide) h1
    have e : (pq 1).2 * (pq x).1 = x.num := by show (1 : Int) * x.num = _; omega
    rw [e] at this
    exact this
  have hf : T (n + 2) 1 [.int (x.den : Int), .int x.num] μ = some (qD (1 / x), μ) := by
    rw [frac_at n _ _ μ dn, fr_pq _ (num_ne h.ne)]
    have e : ((x.den : Int) : Rat) / ((x.num : Int) : Rat) = 1 / x := by
      conv => rhs; rw [rat_nd x]
      have := den_ne x
      have hn : ((x.num : Int) : Rat) ≠ 0 := by exact_mod_cast num_ne h.ne
      grind
    rw [e]
    rfl
  refine (T_at (f := 22) (n := n + 2) (d := d_inverse) rfl _ _).trans ?_
  unfold d_inverse B_inverse
  walk_at "go"
theorem div_at (h2 : b ≤ 1700) (h : Dd 1 y) : T (n + 5) 23 [qD x, qD y, .tup []] μ = some (qD (x / y), μ) := by
  have e : x * (1 / y) = x / y := by
    have := h.ne
    grind
  have z := mul_at (n := n) (x := x) (y := 1 / y) μ h1 (by omega)
  rw [e] at z
  have z2 := inverse_at (n := n + 1) (x := y) μ (by omega) h
  refine (T_at (f := 23) (n := n + 4) (d := d_div) rfl _ _).trans ?_
  unfold d_div B_div
  walk_at "go"
end

local macro_rules | `(tactic| walk_at "go") => `(tactic| simp [FM.runFn, FM.FD.fn, FM.execs, FM.exec, FM.ev, FM.evs, FM.evo, FM.evc, FM.evi, FM.lk, FM.lks, FM.It.lk, FM.isOw, FM.noOw, FM.Sl.isOw, FM.Sl.d, FM.isiD, FM.cmpD, FM.negD, FM.setAll, FM.bindT, FM.andThen_some', FM.onBl_bl, FM.wthD_some', FM.eqD_int, FM.ix_tup, FM.ix_lst, FM.atI_0, FM.atI_1, FM.atI_2, FM.op_add, FM.op_sub, FM.szle, FM.forF, FM.lcGo, FM.biD, K12.eqD_nil, K12.qD_0, K12.qD_1, K12.vD_0, K12.vD_1, K12.vD_2, K12.rng3, K12.rng0, K12.rngOk_3, K12.rngOk_0, FM.zipD, FM.zipD3, lifted_at, plus_at, minus_at, times_at, sign_of_at, number_at, nought_at, is_nought_at, add_at, sub_at, mul_at, scaled_at, sign_at, inverse_at, div_at, *])
section
variable {n : Nat} {a b c : Nat} {u v : I3 → Rat} {t : Rat} (μ : Cells)
theorem vector_at : T (n + 3) 27 [vD u, .tup []] μ = some (vD u, μ) := by
  refine (T_at (f := 27) (n := n + 2) (d := d_vector) rfl _ _).trans ?_
  unfold d_vector B_vector vD
  walk_at "go"
theorem raised_at : T (n + 2) 28 [vD u, .tup [], .tup []] μ = some (vD u, μ) := by
  refine (T_at (f := 28) (n := n + 1) (d := d_raised) rfl _ _).trans ?_
  unfold d_raised B_raised vD
  walk_at "go"
variable [hu : ∀ k, Sz a (u k)] (h1 : a ≤ 1800)
include h1
theorem by_at [ht : Sz b t] (h2 : b ≤ 1800) : T (n + 5) 31 [vD u, qD t, .tup []] μ = some (vD (fun k => u k * t), μ) := by
  refine (T_at (f := 31) (n := n + 4) (d := d_by) rfl _ _).trans ?_
  unfold d_by B_by vD
  walk_at "go"
theorem plus_all_at [hv : ∀ k, Sz b (v k)] (h2 : b ≤ 1800) : T (n + 5) 29 [vD u, vD v, .tup []] μ = some (vD (fun k => u k + v k), μ) := by
  refine (T_at (f := 29) (n := n + 4) (d := d_plus_all) rfl _ _).trans ?_
  unfold d_plus_all B_plus_all vD
  walk_at "go"
theorem minus_all_at [hv : ∀ k, Sz b (v k)] (h2 : b ≤ 1800) : T (n + 5) 30 [vD u, vD v, .tup []] μ = some (vD (fun k => u k - v k), μ) := by
  refine (T_at (f := 30) (n := n + 4) (d := d_minus_all) rfl _ _).trans ?_
  unfold d_minus_all B_minus_all vD
  walk_at "go"
theorem dot_at [hv : ∀ k, Sz b (v k)] (h2 : a + b ≤ 600) : T (n + 5) 32 [vD u, vD v, .tup []] μ = some (qD (u 0 * v 0 + u 1 * v 1 + u 2 * v 2), μ) := by
  have g1 : a + b ≤ 1800 := by omega
  have g2 : a + b + (a + b) + 1 ≤ 1800 := by omega
  have g3 : b ≤ 1800 := by omega
  refine (T_at (f := 32) (n := n + 4) (d := d_dot) rfl _ _).trans ?_
  unfold d_dot B_dot vD
  walk_at "go"
theorem along_at [hv : ∀ k, Sz b (v k)] [ht : Sz c t] (h2 : b + c ≤ 1800) : T (n + 6) 33 [vD u, vD v, qD t, .tup []] μ = some (vD (fun k => u k + v k * t), μ) := by
  have g2 : b ≤ 1800 := by omega
  have g3 : c ≤ 1800 := by omega
  have z1 := by_at (n := n) (u := v) (t := t) μ g2 g3
  have z2 := plus_all_at (n := n) (u := u) (v := fun k => v k * t) (b := b + c) μ h1 h2
  refine (T_at (f := 33) (n := n + 5) (d := d_along) rfl _ _).trans ?_
  unfold d_along B_along
  walk_at "go"
end
end K12

set_option Elab.async false
set_option linter.all false
set_option maxRecDepth 100000
set_option maxHeartbeats 4000000
/-! halves, times, crossings -/
namespace K12
open FM
open PySem (Str sizeLine)
theorem szlt {n : Nat} (h : n ≤ 1000) : n < sizeLine := Nat.lt_of_le_of_lt h (by decide)
theorem qd0 : D.tup [.int 0, .int 1] = qD 0 := rfl
theorem qd1 : D.tup [.int 1, .int 1] = qD 1 := rfl
theorem qdm1 : D.tup [.int (-1), .int 1] = qD (-1) := rfl
theorem qd2 : D.tup [.int 2, .int 1] = qD 2 := rfl
theorem eqD_str (a b : Str) : eqD (.str a) (.str b) = some (a == b) := by simp [eqD, scalOk, eqS, D.scal]
theorem s1 : (Str.ofString "box" == Str.ofString "box") = true := by decide +kernel
theorem s2 : (Str.ofString "half" == Str.ofString "half") = true := by decide +kernel
theorem s3 : (Str.ofString "half" == Str.ofString "ball") = false := by decide +kernel
theorem s4 : (Str.ofString "half" == Str.ofString "quad") = false := by decide +kernel
theorem s5 : (Str.ofString "both" == Str.ofString "both") = true := by decide +kernel
theorem is_non_s (a : Str) : isNon (.str a) = false := rfl
theorem is_non_n : isNon .non = true := rfl
theorem is_non_t (l : List D) : isNon (.tup l) = false := rfl
theorem bx0 (μ : Cells) (lo hi : I3 → Rat) : ixD μ (boxD lo hi) (.int 0) = some (.str "box") := by unfold boxD; rw [ix_tup, atI_0]
theorem bx1 (μ : Cells) (lo hi : I3 → Rat) : ixD μ (boxD lo hi) (.int 1) = some (vD lo) := by unfold boxD; rw [ix_tup, atI_1]
theorem bx2 (μ : Cells) (lo hi : I3 → Rat) : ixD μ (boxD lo hi) (.int 2) = some (vD hi) := by unfold boxD; rw [ix_tup, atI_2]
theorem ry0 (μ : Cells) (p d : I3 → Rat) : ixD μ (rayD p d) (.int 0) = some (.tup []) := by unfold rayD; rw [ix_tup, atI_0]
theorem ry1 (μ : Cells) (p d : I3 → Rat) : ixD μ (rayD p d) (.int 1) = some (vD p) := by unfold rayD; rw [ix_tup, atI_1]
theorem ry2 (μ : Cells) (p d : I3 → Rat) : ixD μ (rayD p d) (.int 2) = some (vD d) := by unfold rayD; rw [ix_tup, atI_2]
theorem h_0 (μ : Cells) (lo hi : I3 → Rat) (k : I3) (up : Bool) : ixD μ (hD lo hi k up) (.int 0) = some (.str "half") := by unfold hD; rw [ix_tup, atI_0]
theorem h_1 (μ : Cells) (lo hi : I3 → Rat) (k : I3) (up : Bool) : ixD μ (hD lo hi k up) (.int 1) = some (vD (e3 k up)) := by unfold hD; rw [ix_tup, atI_1]
theorem h_2 (μ : Cells) (lo hi : I3 → Rat) (k : I3) (up : Bool) : ixD μ (hD lo hi k up) (.int 2) = some (qD (hfar lo hi k up)) := by unfold hD; rw [ix_tup, atI_2]
theorem isnon_h (lo hi : I3 → Rat) (k : I3) (up : Bool) : isNon (hD lo hi k up) = false := rfl
local macro_rules | `(tactic| walk_at "go") => `(tactic| simp [FM.runFn, FM.FD.fn, FM.execs, FM.exec, FM.ev, FM.evs, FM.evo, FM.evc, FM.evi, FM.lk, FM.lks, FM.It.lk, FM.isOw, FM.noOw, FM.Sl.isOw, FM.Sl.d, FM.isiD, FM.cmpD, FM.negD, FM.setAll, FM.bindT, FM.andThen_some', FM.onBl_bl, FM.wthD_some', FM.eqD_int, FM.ix_tup, FM.ix_lst, FM.atI_0, FM.atI_1, FM.atI_2, FM.op_add, FM.op_sub, FM.szle, FM.forF, FM.lcGo, FM.biD, K12.eqD_nil, K12.qD_0, K12.qD_1, K12.vD_0, K12.vD_1, K12.vD_2, K12.rng3, K12.rng0, K12.rngOk_3, K12.rngOk_0, FM.zipD, FM.zipD3, K12.szlt, vector_at, raised_at, K12.qd0, K12.qd1, K12.qdm1, K12.qd2, K12.eqD_str, K12.s1, K12.s2, K12.s3, K12.s4, K12.s5, K12.is_non_s, K12.is_non_n, K12.is_non_t, K12.bx0, K12.bx1, K12.bx2, K12.ry0, K12.ry1, K12.ry2, K12.h_0, K12.h_1, K12.h_2, K12.isnon_h, FM.eqD_q, FM.eqD_tm, number_at, nought_at, is_nought_at, add_at, sub_at, mul_at, scaled_at, sign_at, inverse_at, div_at, lifted_at, plus_at, minus_at, times_at, sign_of_at, *])
section
variable {n : Nat} {a : Nat} {lo hi p d : I3 → Rat} (μ : Cells)
section
variable [hl : ∀ k, Sz a (lo k)] [hh : ∀ k, Sz a (hi k)] (h1 : a ≤ 200)
include h1
theorem halves_at : T (n + 4) 34 [boxD lo hi] μ = some (.tup [hD lo hi 0 false, hD lo hi 0 true, hD lo hi 1 false, hD lo hi 1 true, hD lo hi 2 false, hD lo hi 2 true], μ) := by
  have g1 : a ≤ 1800 := by omega
  refine (T_at (f := 34) (n := n + 3) (d := d_halves_of) rfl _ _).trans ?_
  unfold d_halves_of B_halves_of
  walk_at "go"
  have e1 : (0 : Rat) - -1 = 1 := by grind
  have e2 : (0 : Rat) - 0 = 0 := by grind
  simp [hD, vD, e3, hfar, e1, e2]
/-- both of the halves, the first with all the others -/
def nestD : List D → D
  | [] => .non
  | [x] => x
  | x :: xs => .tup [.str "both", x, nestD xs]
theorem plain_body_at : T (n + 5) 35 [boxD lo hi] μ = some (nestD [hD lo hi 0 false, hD lo hi 0 true, hD lo hi 1 false, hD lo hi 1 true, hD lo hi 2 false, hD lo hi 2 true], μ) := by
  have z := halves_at (n := n) (lo := lo) (hi := hi) μ h1
  refine (T_at (f := 35) (n := n + 4) (d := d_plain_body) rfl _ _).trans ?_
  unfold d_plain_body B_plain_body
  walk_at "go"
  simp [nestD]
end
theorem normal_at (k : I3) (up : Bool) (x : D) : T (n + 4) 39 [hD lo hi k up, x, .tup []] μ = some (vD (e3 k up), μ) := by
  refine (T_at (f := 39) (n := n + 3) (d := d_normal_at) rfl _ _).trans ?_
  unfold d_normal_at B_normal_at
  walk_at "go"
theorem plain_time_at (t : Rat) : T (n + 3) 40 [qD t, .tup []] μ = some (tmD t, μ) := by
  refine (T_at (f := 40) (n := n + 2) (d := d_plain_time) rfl _ _).trans ?_
  unfold d_plain_time B_plain_time tmD
  walk_at "go"
theorem time_number_at (t : Rat) : T (n + 2) 41 [tmD t, .tup []] μ = some (.tup [.tup [], qD t], μ) := by
  refine (T_at (f := 41) (n := n + 1) (d := d_time_number) rfl _ _).trans ?_
  unfold d_time_number B_time_number tmD
  walk_at "go"
theorem raised_time_at (t : Rat) : T (n + 2) 42 [tmD t, .tup [], .tup []] μ = some (tmD t, μ) := by
  refine (T_at (f := 42) (n := n + 1) (d := d_raised_time) rfl _ _).trans ?_
  unfold d_raised_time B_raised_time tmD
  walk_at "go"
theorem compare_times_at (s t : Rat) [hs : Sz a s] {b : Nat} [ht : Sz b t] (h1 : a + b ≤ 1700) : T (n + 6) 43 [tmD s, tmD t, .tup []] μ = some (.int (sg (s - t)), μ) := by
  have g1 : a ≤ 1800 := by omega
  have g2 : b ≤ 1800 := by omega
  have g3 : a + b + 1 ≤ 1800 := by omega
  have z1 := time_number_at (n := n + 3) μ s
  have z2 := time_number_at (n := n + 3) μ t
  have z3 := raised_time_at (n := n + 3) μ t
  by_cases e : s = t
  · subst e
    have e1 : s - s = 0 := by grind
    have e2 : sg 0 = 0 := by unfold sg; rw [if_neg (by grind), if_neg (by grind)]
    refine (T_at (f := 43) (n := n + 5) (d := d_compare_times) rfl _ _).trans ?_
    unfold d_compare_times B_compare_times
    walk_at "go"
  · refine (T_at (f := 43) (n := n + 5) (d := d_compare_times) rfl _ _).trans ?_
    unfold d_compare_times B_compare_times
    walk_at "go"
theorem sign_of_time_at (t : Rat) [ht : Sz a t] (h1 : a ≤ 1600) : T (n + 7) 44 [tmD t, .tup []] μ = some (.int (sg t), μ) := by
  have z := compare_times_at (n := n) (s := t) (t := 0) μ (by omega : a + 1 ≤ 1700)
  have z1 := plain_time_at (n := n + 3) μ 0
  have e : t - 0 = t := by grind
  rw [e] at z
  refine (T_at (f := 44) (n := n + 6) (d := d_sign_of_time) rfl _ _).trans ?_
  unfold d_sign_of_time B_sign_of_time
  walk_at "go"
/-! ### one half crossed -/
def sB (up : Bool) (q : Rat) : Rat := if up then q else -q
instance {up : Bool} {q : Rat} [h : Sz a q] : Sz a (sB up q) := by
  unfold sB
  split
  · exact h
  · exact Sz.neg
theorem dot_e_at (k : I3) (up : Bool) (v : I3 → Rat) [hv : ∀ k, Sz a (v k)] (h1 : a ≤ 500) : T (n + 5) 32 [vD (e3 k up), vD v, .tup []] μ = some (qD (sB up (v k)), μ) := by
  rw [dot_at (n := n) μ (by decide : 1 ≤ 1800) (by omega : 1 + a ≤ 600), dot_e3]
  rfl
theorem dot_e_at' (k : I3) (up : Bool) (v : I3 → Rat) [hv : ∀ k, Sz a (v k)] (h1 : a ≤ 500) : T (n + 5) 32 [vD v, vD (e3 k up), .tup []] μ = some (qD (sB up (v k)), μ) := by
  rw [dot_at (n := n) μ (by omega : a ≤ 1800) (by omega : a + 1 ≤ 600), dot_e3']
  rfl
/-- the way is short -/
def Sml (d : I3 → Rat) : Prop := ∀ k, (d k).num.natAbs < 1048576
theorem sB_ne {up : Bool} {q : Rat} (h : q ≠ 0) : sB up q ≠ 0 := by unfold sB; split <;> grind
theorem sB_dd {up : Bool} {q : Rat} (h : q ≠ 0) (g : q.num.natAbs < 1048576) : Dd 1 (sB up q) := by
  refine ⟨sB_ne h, .inr ?_⟩
  have e : (sB up q).num.natAbs = q.num.natAbs := by
    unfold sB
    split
    · rfl
    · rw [Rat.neg_num, Int.natAbs_neg]
  rw [e]
  show 1 * q.num.natAbs < _
  omega
theorem sg_zero {q : Rat} : (sg q = 0) ↔ q = 0 := by
  unfold sg
  split
  · constructor
    · intro h; omega
    · intro h; subst h; grind
  · split
    · constructor
      · intro h; omega
      · intro h; subst h; grind
    · constructor
      · intro _; grind
      · intro _; rfl
theorem sg_pos {q : Rat} : (0 < sg q) ↔ 0 < q := by
  unfold sg
  split
  · constructor
    · intro _; assumption
    · intro _; omega
  · split
    · constructor
      · intro h; omega
      · intro h; grind
    · constructor
      · intro h; omega
      · intro h; grind
theorem sg_neg {q : Rat} : (sg q < 0) ↔ q < 0 := by
  unfold sg
  split
  · constructor
    · intro h; omega
    · intro h; grind
  · split
    · constructor
      · intro _; assumption
      · intro _; omega
    · constructor
      · intro h; omega
      · intro h; grind
/-- when a half's face is reached -/
def lev (lo hi : I3 → Rat) (k : I3) (up : Bool) : Rat := if up then hi k else lo k
def tk (lo hi p d : I3 → Rat) (k : I3) (up : Bool) : Rat := (lev lo hi k up - p k) / d k
theorem tk_eq (k : I3) (up : Bool) (h : d k ≠ 0) : (hfar lo hi k up - sB up (p k)) / sB up (d k) = tk lo hi p d k up := by
  unfold hfar sB tk lev
  cases up
  · simp only [Bool.false_eq_true, if_false]
    grind
  · simp only [if_true]
variable [hl : ∀ k, Sz a (lo k)] [hh : ∀ k, Sz a (hi k)] [hp : ∀ k, Sz a (p k)] [hd : ∀ k, Sz a (d k)] (h1 : a ≤ 150) (hs : Sml d)
local macro_rules | `(tactic| walk_at "go") => `(tactic| simp [FM.runFn, FM.FD.fn, FM.execs, FM.exec, FM.ev, FM.evs, FM.evo, FM.evc, FM.evi, FM.lk, FM.lks, FM.It.lk, FM.isOw, FM.noOw, FM.Sl.isOw, FM.Sl.d, FM.isiD, FM.cmpD, FM.negD, FM.setAll, FM.bindT, FM.andThen_some', FM.onBl_bl, FM.wthD_some', FM.eqD_int, FM.ix_tup, FM.ix_lst, FM.atI_0, FM.atI_1, FM.atI_2, FM.op_add, FM.op_sub, FM.szle, FM.forF, FM.lcGo, FM.biD, K12.eqD_nil, K12.qD_0, K12.qD_1, K12.vD_0, K12.vD_1, K12.vD_2, K12.rng3, K12.rng0, K12.rngOk_3, K12.rngOk_0, FM.zipD, FM.zipD3, K12.szlt, vector_at, raised_at, K12.qd0, K12.qd1, K12.qdm1, K12.qd2, K12.eqD_str, K12.s1, K12.s2, K12.s3, K12.s4, K12.s5, K12.is_non_s, K12.is_non_n, K12.is_non_t, K12.bx0, K12.bx1, K12.bx2, K12.ry0, K12.ry1, K12.ry2, K12.h_0, K12.h_1, K12.h_2, K12.isnon_h, FM.eqD_q, FM.eqD_tm, number_at, nought_at, is_nought_at, add_at, sub_at, mul_at, scaled_at, sign_at, inverse_at, div_at, lifted_at, plus_at, minus_at, times_at, sign_of_at, K12.eqD_nil, *])
include h1 hs
theorem times_of_at (k : I3) (up : Bool) : T (n + 7) 45 [hD lo hi k up, rayD p d] μ = some (.tup (if d k = 0 then [] else [tmD (tk lo hi p d k up)]), μ) := by
  have g1 : a ≤ 500 := by omega
  have g2 : 1 + a + 1 ≤ 1800 := by omega
  have g3 : a ≤ 1800 := by omega
  have g4 : a ≤ 1700 := by omega
  have g5 : 1 + a + 1 + a + 1 ≤ 1800 := by omega
  have z1 := dot_e_at (n := n + 1) μ k up d g1
  have z2 := dot_e_at (n := n + 1) μ k up p g1
  have z3 := sub_at (n := n + 2) (x := hfar lo hi k up) (y := sB up (p k)) μ g2 g3
  by_cases e : d k = 0
  · have e2 : sg (sB up (d k)) = 0 := by
      rw [sg_zero, e]
      unfold sB
      split <;> grind
    have z4 := sign_at (n := n + 4) (x := sB up (d k)) μ g3
    rw [e2] at z4
    rw [e] at e2
    refine (T_at (f := 45) (n := n + 6) (d := d_times_of) rfl _ _).trans ?_
    unfold d_times_of B_times_of
    have er : rayD p d = .tup [.tup [], vD p, vD d] := rfl
    walk_at "go"
  · have e2 : sg (sB up (d k)) ≠ 0 := fun z => sB_ne e (sg_zero.mp z)
    have z4 := sign_at (n := n + 4) (x := sB up (d k)) μ g3
    have z5 := div_at (n := n + 1) (x := hfar lo hi k up - sB up (p k)) (y := sB up (d k)) μ g5 g4 (sB_dd e (hs k))
    rw [tk_eq k up e] at z5
    have z6 := plain_time_at (n := n + 3) μ (tk lo hi p d k up)
    refine (T_at (f := 45) (n := n + 6) (d := d_times_of) rfl _ _).trans ?_
    unfold d_times_of B_times_of
    have er : rayD p d = .tup [.tup [], vD p, vD d] := rfl
    walk_at "go"
/-- a half begins within -/
def bI (d : I3 → Rat) (k : I3) (up : Bool) : Bool := if d k = 0 then true else decide (0 < sB up (d k))
theorem begins_in_at (k : I3) (up : Bool) (hg : d k = 0 → lo k < p k ∧ p k < hi k) : T (n + 7) 49 [hD lo hi k up, rayD p d] μ = some (.bl (bI d k up), μ) := by
  have g1 : a ≤ 500 := by omega
  have g2 : 1 + a + 1 ≤ 1800 := by omega
  have g3 : a ≤ 1800 := by omega
  have g5 : a + (1 + a + 1) + 1 ≤ 1800 := by omega
  have z1 := dot_e_at (n := n + 1) μ k up d g1
  have z2 := dot_e_at (n := n + 1) μ k up p g1
  have z3 := sub_at (n := n + 2) (x := sB up (p k)) (y := hfar lo hi k up) μ g3 g2
  have z4 := sign_at (n := n + 4) (x := sB up (d k)) μ g3
  have z5 := sign_at (n := n + 4) (x := sB up (p k) - hfar lo hi k up) μ g5
  have er : rayD p d = .tup [.tup [], vD p, vD d] := rfl
  by_cases e : d k = 0
  · have e2 : sg (sB up (d k)) = 0 := by
      rw [sg_zero, e]
      unfold sB
      split <;> grind
    have e6 : sg (sB up (p k) - hfar lo hi k up) < 0 := by
      rw [sg_neg]
      obtain ⟨l1, l2⟩ := hg e
      unfold sB hfar
      cases up
      · simp only [Bool.false_eq_true, if_false]
        grind
      · simp only [if_true]
        grind
    have e7 : bI d k up = true := by unfold bI; rw [if_pos e]
    rw [e2] at z4
    rw [e7]
    clear hg e7 e2
    generalize sg (sB up (p k) - hfar lo hi k up) = w at z5 e6
    generalize d k = dk at *
    subst e
    refine (T_at (f := 49) (n := n + 6) (d := d_begins_in) rfl _ _).trans ?_
    unfold d_begins_in B_begins_in
    walk_at "go"
  · have e2 : sg (sB up (d k)) ≠ 0 := fun z => sB_ne e (sg_zero.mp z)
    have e7 : bI d k up = decide (0 < sg (sB up (d k))) := by
      unfold bI
      rw [if_neg e]
      exact decide_eq_decide.mpr sg_pos.symm
    rw [e7]
    clear e7 hg
    refine (T_at (f := 49) (n := n + 6) (d := d_begins_in) rfl _ _).trans ?_
    unfold d_begins_in B_begins_in
    walk_at "go"
end
end K12

set_option Elab.async false
set_option linter.all false
set_option maxRecDepth 100000
set_option maxHeartbeats 4000000
/-! crossings of boxes -/
namespace K12
open FM
open PySem (Str sizeLine)
theorem s6 : (Str.ofString "both" == Str.ofString "without") = false := by decide +kernel
theorem s7 : (Str.ofString "both" == Str.ofString "either") = false := by decide +kernel
theorem sl_tail (x : D) (xs : List D) : slD (.lst (x :: xs)) (some 1) none = some (.lst xs) := by
  show some (D.lst (cutD (x :: xs) (some 1) none)) = _
  congr 2
  unfold cutD
  have e1 : HT.sIx (x :: xs).length 0 (some 1) = 1 := by
    show min (1 : Int).toNat (x :: xs).length = 1
    rw [List.length_cons]
    omega
  have e2 : HT.sIx (x :: xs).length (x :: xs).length none = (x :: xs).length := rfl
  rw [e1, e2, List.length_cons]
  simp
section
variable {n : Nat} {lo hi : I3 → Rat} (μ : Cells)
abbrev chL (lo hi : I3 → Rat) (l : List Chg) : List D := l.map (chD lo hi)
theorem nil_ch (l : List Chg) : eqD (.lst (chL lo hi l)) (.lst []) = some l.isEmpty := by
  rw [lst_nil (ShL.map (chD lo hi) (sh_ch lo hi) l) (by decide)]
  cases l <;> rfl
theorem nil_ch0 : eqD (.lst []) (.lst []) = some true := rfl
theorem nil_chc (c : Chg) (l : List Chg) : eqD (.lst (chD lo hi c :: chL lo hi l)) (.lst []) = some false := nil_ch (c :: l)
theorem eqD_bl (a b : Bool) : eqD (.bl a) (.bl b) = some (a == b) := rfl
theorem lst_t (l : List D) : biD μ .list [.tup l] = some (.lst l) := rfl
theorem ch0 (c : Chg) : ixD μ (chD lo hi c) (.int 0) = some (tmD c.t) := by unfold chD; rw [ix_tup, atI_0]
def ord : List Chg → List Chg → Int
  | _, [] => -1
  | [], _ => 1
  | a :: _, b :: _ => sg (a.t - b.t)
local macro_rules | `(tactic| walk_at "go") => `(tactic| simp [FM.runFn, FM.FD.fn, FM.execs, FM.exec, FM.ev, FM.evs, FM.evo, FM.evc, FM.evi, FM.lk, FM.lks, FM.It.lk, FM.isOw, FM.noOw, FM.Sl.isOw, FM.Sl.d, FM.isiD, FM.cmpD, FM.negD, FM.setAll, FM.bindT, FM.andThen_some', FM.onBl_bl, FM.wthD_some', FM.eqD_int, FM.ix_tup, FM.ix_lst, FM.atI_0, FM.atI_1, FM.atI_2, FM.op_add, FM.op_sub, FM.szle, FM.forF, FM.lcGo, FM.biD, K12.eqD_nil, K12.qD_0, K12.qD_1, K12.vD_0, K12.vD_1, K12.vD_2, K12.rng3, K12.rng0, K12.rngOk_3, K12.rngOk_0, FM.zipD, FM.zipD3, K12.szlt, vector_at, raised_at, K12.qd0, K12.qd1, K12.qdm1, K12.qd2, K12.eqD_str, K12.s1, K12.s2, K12.s3, K12.s4, K12.s5, K12.s6, K12.s7, K12.is_non_s, K12.is_non_n, K12.is_non_t, K12.bx0, K12.bx1, K12.bx2, K12.ry0, K12.ry1, K12.ry2, K12.h_0, K12.h_1, K12.h_2, K12.isnon_h, FM.eqD_q, FM.eqD_tm, number_at, nought_at, is_nought_at, add_at, sub_at, mul_at, scaled_at, sign_at, inverse_at, div_at, lifted_at, plus_at, minus_at, times_at, sign_of_at, K12.nil_ch, K12.nil_ch0, K12.nil_chc, K12.ch0, K12.sl_tail, K12.eqD_bl, K12.lst_t, *])
theorem holds_at (x y : Bool) : T (n + 1) 52 [.str "both", .bl x, .bl y] μ = some (.bl (x && y), μ) := by
  refine (T_at (f := 52) (n := n) (d := d_holds) rfl _ _).trans ?_
  unfold d_holds B_holds
  cases x <;> walk_at "go"
theorem flipped_at (c : Chg) : T (n + 1) 55 [.str "both", chD lo hi c] μ = some (chD lo hi c, μ) := by
  refine (T_at (f := 55) (n := n) (d := d_flipped) rfl _ _).trans ?_
  unfold d_flipped B_flipped chD
  walk_at "go"
theorem order_of_at (l r : List Chg) (h : l ≠ [] ∨ r ≠ []) : T (n + 7) 54 [.lst (chL lo hi l), .lst (chL lo hi r), .tup []] μ = some (.int (ord l r), μ) := by
  refine (T_at (f := 54) (n := n + 6) (d := d_order_of) rfl _ _).trans ?_
  unfold d_order_of B_order_of
  cases r with
  | nil =>
    cases l with
    | nil => simp at h
    | cons a l =>
      walk_at "go"
      rfl
  | cons b r =>
    cases l with
    | nil =>
      walk_at "go"
      rfl
    | cons a l =>
      have z := compare_times_at (n := n) μ a.t b.t (by decide)
      walk_at "go"
      rfl
/-! ### joined -/
/-- where the loop stands -/
def J (lo hi : I3 → Rat) (K Fi Se : D) (now one other : Bool) (l r f : List Chg) (o : Option (D × D)) : Env :=
  [some (.pl K), some (.pl Fi), some (.pl Se), some (.pl (.tup [])), some (.pl (.bl now)), some (.pl (.bl one)), some (.pl (.bl other)), some (.pl (.lst (chL lo hi l))), some (.pl (.lst (chL lo hi r))), some (.ow (chL lo hi f)), o.map (fun x => .pl x.1), o.map (fun x => .pl x.2)]
def jmp (now one other : Bool) (f : List Chg) (c : Chg) : Bool × List Chg := if (one && other) = now then (now, f) else (!now, f ++ [c])
def jm : Bool → Bool → Bool → List Chg → List Chg → List Chg → List Chg
  | _, _, _, [], [], f => f
  | now, one, other, a :: l, [], f => jm (jmp now (!one) other f a).1 (!one) other l [] (jmp now (!one) other f a).2
  | now, one, other, [], b :: r, f => jm (jmp now one (!other) f b).1 one (!other) [] r (jmp now one (!other) f b).2
  | now, one, other, a :: l, b :: r, f =>
    if a.t < b.t then jm (jmp now (!one) other f a).1 (!one) other l (b :: r) (jmp now (!one) other f a).2
    else if a.t = b.t then jm (jmp now (!one) (!other) f a).1 (!one) (!other) l r (jmp now (!one) (!other) f a).2
    else jm (jmp now one (!other) f b).1 one (!other) (a :: l) r (jmp now one (!other) f b).2
termination_by _ _ _ l r _ => l.length + r.length
def jbody : Ss := (.cons (.asg 10 (.call 54 (.cons (.var 7) (.cons (.var 8) (.cons (.var 3) .nil))))) (.cons (.asg 11 (.ife (.cmp .LtE (.var 10) (.int 0)) (.ix (.var 7) (.int 0)) (.call 55 (.cons (.var 0) (.cons (.ix (.var 8) (.int 0)) .nil))))) (.cons (.ifs (.cmp .LtE (.var 10) (.int 0)) (.cons (.par 5 7 (.not (.var 5)) (.sl (.var 7) (.some (.int 1)) .none)) .nil) .nil) (.cons (.ifs (.cmp .GtE (.var 10) (.int 0)) (.cons (.par 6 8 (.not (.var 6)) (.sl (.var 8) (.some (.int 1)) .none)) .nil) .nil) (.cons (.ifs (.cmp .NotEq (.call 52 (.cons (.var 0) (.cons (.var 5) (.cons (.var 6) .nil)))) (.var 4)) (.cons (.asg 4 (.not (.var 4))) (.cons (.app 9 (.var 11)) .nil)) .nil) .nil)))))
def jcond : E := (.or (.cmp .NotEq (.var 7) (.lst .nil)) (.cmp .NotEq (.var 8) (.lst .nil)))
variable {Fi Se : D} {now one other : Bool} {l r f : List Chg} {o : Option (D × D)}
theorem jb_l (a : Chg) (hf : f.length ≤ 1000) : ∃ o', execs (T (n + 8)) W jbody (J lo hi (.str "both") Fi Se now one other (a :: l) [] f o) μ = some (.nx (J lo hi (.str "both") Fi Se (jmp now (!one) other f a).1 (!one) other l [] (jmp now (!one) other f a).2 o') μ) := by
  have z := order_of_at (n := n + 1) μ (a :: l) [] (lo := lo) (hi := hi) (by simp)
  have e : ord (a :: l) [] = -1 := rfl
  rw [e] at z
  simp only [chL, List.map_cons, List.map_nil] at z
  clear e
  refine ⟨some (.int (-1), chD lo hi a), ?_⟩
  have z2 := holds_at (n := n + 7) μ (!one) other
  unfold jbody jmp J
  by_cases h : ((!one) && other) = now
  · rw [if_pos h]
    rw [h] at z2
    cases o <;> walk_at "go"
  · rw [if_neg h]
    cases o <;> walk_at "go"
theorem jb_r (b : Chg) (hf : f.length ≤ 1000) : ∃ o', execs (T (n + 8)) W jbody (J lo hi (.str "both") Fi Se now one other [] (b :: r) f o) μ = some (.nx (J lo hi (.str "both") Fi Se (jmp now one (!other) f b).1 one (!other) [] r (jmp now one (!other) f b).2 o') μ) := by
  have z := order_of_at (n := n + 1) μ [] (b :: r) (lo := lo) (hi := hi) (by simp)
  have e : ord [] (b :: r) = 1 := rfl
  rw [e] at z
  simp only [chL, List.map_cons, List.map_nil] at z
  clear e
  refine ⟨some (.int 1, chD lo hi b), ?_⟩
  have z2 := holds_at (n := n + 7) μ one (!other)
  have z3 := flipped_at (n := n + 7) (lo := lo) (hi := hi) μ b
  unfold jbody jmp J
  by_cases h : (one && (!other)) = now
  · rw [if_pos h]
    rw [h] at z2
    cases o <;> walk_at "go"
  · rw [if_neg h]
    cases o <;> walk_at "go"
theorem jb_lt (a b : Chg) (hf : f.length ≤ 1000) (hab : a.t < b.t) : ∃ o', execs (T (n + 8)) W jbody (J lo hi (.str "both") Fi Se now one other (a :: l) (b :: r) f o) μ = some (.nx (J lo hi (.str "both") Fi Se (jmp now (!one) other f a).1 (!one) other l (b :: r) (jmp now (!one) other f a).2 o') μ) := by
  have z := order_of_at (n := n + 1) μ (a :: l) (b :: r) (lo := lo) (hi := hi) (by simp)
  have e : ord (a :: l) (b :: r) = -1 := by
    show sg (a.t - b.t) = -1
    unfold sg
    rw [if_neg (by grind), if_pos (by grind)]
  rw [e] at z
  simp only [chL, List.map_cons, List.map_nil] at z
  clear e hab
  refine ⟨some (.int (-1), chD lo hi a), ?_⟩
  have z2 := holds_at (n := n + 7) μ (!one) other
  unfold jbody jmp J
  by_cases h : ((!one) && other) = now
  · rw [if_pos h]
    rw [h] at z2
    cases o <;> walk_at "go"
  · rw [if_neg h]
    cases o <;> walk_at "go"
theorem jb_eq (a b : Chg) (hf : f.length ≤ 1000) (hab : a.t = b.t) : ∃ o', execs (T (n + 8)) W jbody (J lo hi (.str "both") Fi Se now one other (a :: l) (b :: r) f o) μ = some (.nx (J lo hi (.str "both") Fi Se (jmp now (!one) (!other) f a).1 (!one) (!other) l r (jmp now (!one) (!other) f a).2 o') μ) := by
  have z := order_of_at (n := n + 1) μ (a :: l) (b :: r) (lo := lo) (hi := hi) (by simp)
  have e : ord (a :: l) (b :: r) = 0 := by
    show sg (a.t - b.t) = 0
    unfold sg
    rw [if_neg (by grind), if_neg (by grind)]
  rw [e] at z
  simp only [chL, List.map_cons, List.map_nil] at z
  clear e hab
  refine ⟨some (.int 0, chD lo hi a), ?_⟩
  have z2 := holds_at (n := n + 7) μ (!one) (!other)
  unfold jbody jmp J
  by_cases h : ((!one) && (!other)) = now
  · rw [if_pos h]
    rw [h] at z2
    cases o <;> walk_at "go"
  · rw [if_neg h]
    cases o <;> walk_at "go"
theorem jb_gt (a b : Chg) (hf : f.length ≤ 1000) (hab : b.t < a.t) : ∃ o', execs (T (n + 8)) W jbody (J lo hi (.str "both") Fi Se now one other (a :: l) (b :: r) f o) μ = some (.nx (J lo hi (.str "both") Fi Se (jmp now one (!other) f b).1 one (!other) (a :: l) r (jmp now one (!other) f b).2 o') μ) := by
  have z := order_of_at (n := n + 1) μ (a :: l) (b :: r) (lo := lo) (hi := hi) (by simp)
  have e : ord (a :: l) (b :: r) = 1 := by
    show sg (a.t - b.t) = 1
    unfold sg
    rw [if_pos (by grind)]
  rw [e] at z
  simp only [chL, List.map_cons, List.map_nil] at z
  clear e hab
  refine ⟨some (.int 1, chD lo hi b), ?_⟩
  have z2 := holds_at (n := n + 7) μ one (!other)
  have z3 := flipped_at (n := n + 7) (lo := lo) (hi := hi) μ b
  unfold jbody jmp J
  by_cases h : (one && (!other)) = now
  · rw [if_pos h]
    rw [h] at z2
    cases o <;> walk_at "go"
  · rw [if_neg h]
    cases o <;> walk_at "go"
theorem jc_at : onBl (ev (T n) jcond (J lo hi (.str "both") Fi Se now one other l r f o) μ) (fun x μ1 => some (x, μ1)) = some (!l.isEmpty || !r.isEmpty, μ) := by
  unfold jcond J
  cases l with
  | nil =>
    cases r with
    | nil => cases o <;> walk_at "go"
    | cons b r => cases o <;> walk_at "go"
  | cons a l => cases o <;> walk_at "go"
theorem jmp_len (c : Chg) : (jmp now one other f c).2.length ≤ f.length + 1 := by
  unfold jmp
  split
  · show f.length ≤ _
    omega
  · simp
theorem jloop : ∀ (m : Nat) (l r f : List Chg) (now one other : Bool) (o : Option (D × D)) (k : Nat), l.length + r.length ≤ m → f.length + m ≤ 1000 →
    ∃ now' one' other' o', whileF (fun ρ' μ' => onBl (ev (T (n + 8)) jcond ρ' μ') fun x μ1 => some (x, μ1)) (fun ρ' μ' => execs (T (n + 8)) W jbody ρ' μ') (m + 1 + k) (J lo hi (.str "both") Fi Se now one other l r f o) μ = some (.nx (J lo hi (.str "both") Fi Se now' one' other' [] [] (jm now one other l r f) o') μ)
  | m, [], [], f, now, one, other, o, k, _, _ => by
    refine ⟨now, one, other, o, ?_⟩
    rw [show m + 1 + k = (m + k) + 1 by omega]
    unfold whileF
    rw [jc_at]
    simp only [jm]
    rfl
  | 0, _ :: _, _, _, _, _, _, _, _, h, _ => by simp at h
  | 0, [], _ :: _, _, _, _, _, _, _, h, _ => by simp at h
  | m + 1, a :: l, [], f, now, one, other, o, k, h, hf => by
    obtain ⟨o1, e⟩ := jb_l (n := n) (lo := lo) (hi := hi) μ (Fi := Fi) (Se := Se) (now := now) (one := one) (other := other) (l := l) (o := o) a (f := f) (by omega)
    have hl := jmp_len (now := now) (one := !one) (other := other) (f := f) a
    obtain ⟨n', o2, o3, o4, ih⟩ := jloop m l [] (jmp now (!one) other f a).2 (jmp now (!one) other f a).1 (!one) other o1 k (by simp at h ⊢; omega) (by omega)
    refine ⟨n', o2, o3, o4, ?_⟩
    rw [show m + 1 + 1 + k = (m + 1 + k) + 1 by omega]
    unfold whileF
    rw [jc_at]
    simp only [List.isEmpty_cons, Bool.not_false, Bool.true_or]
    rw [e]
    simp only [jm]
    exact ih
  | m + 1, [], b :: r, f, now, one, other, o, k, h, hf => by
    obtain ⟨o1, e⟩ := jb_r (n := n) (lo := lo) (hi := hi) μ (Fi := Fi) (Se := Se) (now := now) (one := one) (other := other) (r := r) (o := o) b (f := f) (by omega)
    have hl := jmp_len (now := now) (one := one) (other := !other) (f := f) b
    obtain ⟨n', o2, o3, o4, ih⟩ := jloop m [] r (jmp now one (!other) f b).2 (jmp now one (!other) f b).1 one (!other) o1 k (by simp at h ⊢; omega) (by omega)
    refine ⟨n', o2, o3, o4, ?_⟩
    rw [show m + 1 + 1 + k = (m + 1 + k) + 1 by omega]
    unfold whileF
    rw [jc_at]
    simp only [List.isEmpty_cons, Bool.not_false, Bool.or_true]
    rw [e]
    simp only [jm]
    exact ih
  | m + 1, a :: l, b :: r, f, now, one, other, o, k, h, hf => by
    rw [show m + 1 + 1 + k = (m + 1 + k) + 1 by omega]
    unfold whileF
    rw [jc_at]
    simp only [List.isEmpty_cons, Bool.not_false, Bool.true_or]
    simp only [jm]
    by_cases h1 : a.t < b.t
    · obtain ⟨o1, e⟩ := jb_lt (n := n) (lo := lo) (hi := hi) μ (Fi := Fi) (Se := Se) (now := now) (one := one) (other := other) (l := l) (r := r) (o := o) a b (f := f) (by omega) h1
      have hl := jmp_len (now := now) (one := !one) (other := other) (f := f) a
      obtain ⟨n', o2, o3, o4, ih⟩ := jloop m l (b :: r) (jmp now (!one) other f a).2 (jmp now (!one) other f a).1 (!one) other o1 k (by simp at h ⊢; omega) (by omega)
      refine ⟨n', o2, o3, o4, ?_⟩
      rw [e, if_pos h1]
      exact ih
    · by_cases h2 : a.t = b.t
      · obtain ⟨o1, e⟩ := jb_eq (n := n) (lo := lo) (hi := hi) μ (Fi := Fi) (Se := Se) (now := now) (one := one) (other := other) (l := l) (r := r) (o := o) a b (f := f) (by omega) h2
        have hl := jmp_len (now := now) (one := !one) (other := !other) (f := f) a
        obtain ⟨n', o2, o3, o4, ih⟩ := jloop m l r (jmp now (!one) (!other) f a).2 (jmp now (!one) (!other) f a).1 (!one) (!other) o1 k (by simp at h ⊢; omega) (by omega)
        refine ⟨n', o2, o3, o4, ?_⟩
        rw [e, if_neg h1, if_pos h2]
        exact ih
      · obtain ⟨o1, e⟩ := jb_gt (n := n) (lo := lo) (hi := hi) μ (Fi := Fi) (Se := Se) (now := now) (one := one) (other := other) (l := l) (r := r) (o := o) a b (f := f) (by omega) (by grind)
        have hl := jmp_len (now := now) (one := one) (other := !other) (f := f) b
        obtain ⟨n', o2, o3, o4, ih⟩ := jloop m (a :: l) r (jmp now one (!other) f b).2 (jmp now one (!other) f b).1 one (!other) o1 k (by simp at h ⊢; omega) (by omega)
        refine ⟨n', o2, o3, o4, ?_⟩
        rw [e, if_neg h1, if_neg h2]
        exact ih
/-- a crossing -/
def cD (lo hi : I3 → Rat) (w : Bool) (cs : List Chg) : D := .tup [.bl w, .tup (chL lo hi cs)]
theorem cD_0 (w : Bool) (cs : List Chg) : ixD μ (cD lo hi w cs) (.int 0) = some (.bl w) := by unfold cD; rw [ix_tup, atI_0]
theorem cD_1 (w : Bool) (cs : List Chg) : ixD μ (cD lo hi w cs) (.int 1) = some (.tup (chL lo hi cs)) := by unfold cD; rw [ix_tup, atI_1]
local macro_rules | `(tactic| walk_at "go") => `(tactic| simp [FM.runFn, FM.FD.fn, FM.execs, FM.exec, FM.ev, FM.evs, FM.evo, FM.evc, FM.evi, FM.lk, FM.lks, FM.It.lk, FM.isOw, FM.noOw, FM.Sl.isOw, FM.Sl.d, FM.isiD, FM.cmpD, FM.negD, FM.setAll, FM.bindT, FM.andThen_some', FM.onBl_bl, FM.wthD_some', FM.eqD_int, FM.ix_tup, FM.ix_lst, FM.atI_0, FM.atI_1, FM.atI_2, FM.op_add, FM.op_sub, FM.szle, FM.forF, FM.lcGo, FM.biD, K12.eqD_nil, K12.qD_0, K12.qD_1, K12.vD_0, K12.vD_1, K12.vD_2, K12.rng3, K12.rng0, K12.rngOk_3, K12.rngOk_0, FM.zipD, FM.zipD3, K12.szlt, vector_at, raised_at, K12.qd0, K12.qd1, K12.qdm1, K12.qd2, K12.eqD_str, K12.s1, K12.s2, K12.s3, K12.s4, K12.s5, K12.s6, K12.s7, K12.is_non_s, K12.is_non_n, K12.is_non_t, K12.bx0, K12.bx1, K12.bx2, K12.ry0, K12.ry1, K12.ry2, K12.h_0, K12.h_1, K12.h_2, K12.isnon_h, FM.eqD_q, FM.eqD_tm, number_at, nought_at, is_nought_at, add_at, sub_at, mul_at, scaled_at, sign_at, inverse_at, div_at, lifted_at, plus_at, minus_at, times_at, sign_of_at, K12.nil_ch, K12.nil_ch0, K12.nil_chc, K12.ch0, K12.sl_tail, K12.eqD_bl, K12.lst_t, K12.cD_0, K12.cD_1, *])
theorem joined_at (w1 w2 : Bool) (c1 c2 : List Chg) (h : c1.length + c2.length ≤ 900) : T (n + 9) 53 [.str "both", cD lo hi w1 c1, cD lo hi w2 c2, .tup []] μ = some (cD lo hi (w1 && w2) (jm (w1 && w2) w1 w2 c1 c2 []), μ) := by
  have hW : ∃ k, W = (c1.length + c2.length) + 1 + k := ⟨W - (c1.length + c2.length + 1), by
    have : 1000 ≤ W := by unfold W; exact Nat.le_trans (by decide : 1000 ≤ 2 ^ 10) (Nat.pow_le_pow_right (by decide) (by decide))
    omega⟩
  obtain ⟨k, hk⟩ := hW
  obtain ⟨n', o2, o3, o4, e⟩ := jloop (n := n) (lo := lo) (hi := hi) μ (Fi := cD lo hi w1 c1) (Se := cD lo hi w2 c2) (c1.length + c2.length) c1 c2 [] (w1 && w2) w1 w2 none k (Nat.le_refl _) (by simp; omega)
  rw [← hk] at e
  have z2 := holds_at (n := n + 7) μ w1 w2
  have hx : exec (T (n + 8)) W (.whl jcond jbody) (J lo hi (.str "both") (cD lo hi w1 c1) (cD lo hi w2 c2) (w1 && w2) w1 w2 c1 c2 [] none) μ = some (.nx (J lo hi (.str "both") (cD lo hi w1 c1) (cD lo hi w2 c2) n' o2 o3 [] [] (jm (w1 && w2) w1 w2 c1 c2 []) o4) μ) := whl_of e
  have hb : B_joined 52 54 55 = (.cons (.par 5 6 (.ix (.var 1) (.int 0)) (.ix (.var 2) (.int 0))) (.cons (.par3L 7 8 9 (.bi .list (.cons (.ix (.var 1) (.int 1)) .nil)) (.bi .list (.cons (.ix (.var 2) (.int 1)) .nil))) (.cons (.asg 4 (.call 52 (.cons (.var 0) (.cons (.var 5) (.cons (.var 6) .nil))))) (.cons (.whl jcond jbody) (.cons (.ret (.tup (.cons (.call 52 (.cons (.var 0) (.cons (.ix (.var 1) (.int 0)) (.cons (.ix (.var 2) (.int 0)) .nil)))) (.cons (.bi .tuple (.cons (.var 9) .nil)) .nil)))) .nil))))) := rfl
  clear e hk
  generalize S.whl jcond jbody = sw at hx hb
  unfold J at hx
  simp only [Option.map_none, chL, List.map_nil] at hx
  refine (T_at (f := 53) (n := n + 8) (d := d_joined) rfl _ _).trans ?_
  unfold d_joined
  rw [hb]
  cases o4 <;> walk_at "go" <;> simp [cD]
/-- the crossing of a half -/
def hc (lo hi p d : I3 → Rat) {a : Nat} [∀ k, Sz a (lo k)] [∀ k, Sz a (hi k)] [∀ k, Sz a (p k)] [∀ k, Sz a (d k)] (h1 : a ≤ 150) (k : I3) (up : Bool) : Chg := ⟨tk lo hi p d k up, k, up, by
  have hl : Sz a (lev lo hi k up) := by
    unfold lev
    split
    · infer_instance
    · infer_instance
  exact (Sz.div : Sz (a + a + 1 + a + 1) (tk lo hi p d k up)).mono (by omega)⟩
end
section
variable {n : Nat} {lo hi p d : I3 → Rat} (μ : Cells) {a : Nat} [hl : ∀ k, Sz a (lo k)] [hh : ∀ k, Sz a (hi k)] [hp : ∀ k, Sz a (p k)] [hd : ∀ k, Sz a (d k)] (h1 : a ≤ 150) (hs : Sml d) (hg : ∀ k, d k = 0 → lo k < p k ∧ p k < hi k)
theorem nj_h : inD (.str "half") [.str "both", .str "either", .str "without"] = some false := by decide +kernel
theorem nj_b : inD (.str "both") [.str "both", .str "either", .str "without"] = some true := by decide +kernel
local macro_rules | `(tactic| walk_at "go") => `(tactic| simp [FM.runFn, FM.FD.fn, FM.execs, FM.exec, FM.ev, FM.evs, FM.evo, FM.evc, FM.evi, FM.lk, FM.lks, FM.It.lk, FM.isOw, FM.noOw, FM.Sl.isOw, FM.Sl.d, FM.isiD, FM.cmpD, FM.negD, FM.setAll, FM.bindT, FM.andThen_some', FM.onBl_bl, FM.wthD_some', FM.eqD_int, FM.ix_tup, FM.ix_lst, FM.atI_0, FM.atI_1, FM.atI_2, FM.op_add, FM.op_sub, FM.szle, FM.forF, FM.lcGo, FM.biD, K12.eqD_nil, K12.qD_0, K12.qD_1, K12.vD_0, K12.vD_1, K12.vD_2, K12.rng3, K12.rng0, K12.rngOk_3, K12.rngOk_0, FM.zipD, FM.zipD3, K12.szlt, vector_at, raised_at, K12.qd0, K12.qd1, K12.qdm1, K12.qd2, K12.eqD_str, K12.s1, K12.s2, K12.s3, K12.s4, K12.s5, K12.s6, K12.s7, K12.is_non_s, K12.is_non_n, K12.is_non_t, K12.bx0, K12.bx1, K12.bx2, K12.ry0, K12.ry1, K12.ry2, K12.h_0, K12.h_1, K12.h_2, K12.isnon_h, FM.eqD_q, FM.eqD_tm, number_at, nought_at, is_nought_at, add_at, sub_at, mul_at, scaled_at, sign_at, inverse_at, div_at, lifted_at, plus_at, minus_at, times_at, sign_of_at, K12.nil_ch, K12.nil_ch0, K12.nil_chc, K12.ch0, K12.sl_tail, K12.eqD_bl, K12.lst_t, K12.cD_0, K12.cD_1, K12.nj_h, K12.nj_b, *])
include hs hg
theorem cross_half (k : I3) (up : Bool) : T (n + 8) 51 [hD lo hi k up, rayD p d] μ = some (cD lo hi (bI d k up) (if d k = 0 then [] else [hc lo hi p d h1 k up]), μ) := by
  have z1 := begins_in_at (n := n) (lo := lo) (hi := hi) (p := p) (d := d) μ h1 hs k up (hg k)
  have z2 := times_of_at (n := n) (lo := lo) (hi := hi) (p := p) (d := d) μ h1 hs k up
  clear hg
  refine (T_at (f := 51) (n := n + 7) (d := d_cross_plain) rfl _ _).trans ?_
  unfold d_cross_plain B_cross_plain
  by_cases e : d k = 0
  · rw [if_pos e] at z2 ⊢
    clear e
    walk_at "go"
    rfl
  · rw [if_neg e] at z2 ⊢
    clear e
    walk_at "go"
    rfl
end
end K12

set_option Elab.async false
set_option linter.all false
set_option maxRecDepth 100000
set_option maxHeartbeats 4000000
/-! the first change -/
namespace K12
open FM
open PySem (Str sizeLine)
def ivl (e x : Option Chg) : List Chg := e.toList ++ x.toList
def emax : Option Chg → Option Chg → Option Chg
  | none, e => e
  | some a, none => some a
  | some a, some b => some (if a.t < b.t then b else a)
def xmin : Option Chg → Option Chg → Option Chg
  | none, e => e
  | some a, none => some a
  | some a, some b => some (if b.t < a.t then b else a)
def EntOk (e : Option Chg) : Prop := ∀ c, e = some c → c.t ≤ 0
def ExiOk (e : Option Chg) : Prop := ∀ c, e = some c → 0 < c.t
theorem jm_iv (e1 x1 e2 x2 : Option Chg) (h1 : EntOk e1) (h2 : ExiOk x1) (h3 : EntOk e2) (h4 : ExiOk x2) :
    jm (e1.isNone && e2.isNone) e1.isNone e2.isNone (ivl e1 x1) (ivl e2 x2) [] = ivl (emax e1 e2) (xmin x1 x2) := by
  have tri : ∀ x y : Rat, (x < y ∧ ¬ y < x ∧ ¬ x = y) ∨ (x = y) ∨ (y < x ∧ ¬ x < y ∧ ¬ x = y) := fun x y => by
    by_cases h : x < y
    · exact .inl ⟨h, by grind, by grind⟩
    · by_cases g : x = y
      · exact .inr (.inl g)
      · exact .inr (.inr ⟨by grind, h, g⟩)
  have apart : ∀ {a b : Chg}, a.t ≤ 0 → 0 < b.t → a.t < b.t ∧ ¬ b.t < a.t ∧ ¬ a.t = b.t ∧ ¬ b.t = a.t := fun h g => ⟨by grind, by grind, by grind, by grind⟩
  cases e1 with
  | none =>
    cases e2 with
    | none =>
      cases x1 with
      | none => cases x2 <;> simp [ivl, jm, jmp, emax, xmin]
      | some b =>
        cases x2 with
        | none => simp [ivl, jm, jmp, emax, xmin]
        | some d => rcases tri b.t d.t with ⟨g1, g2, g3⟩ | g1 | ⟨g1, g2, g3⟩ <;> simp [ivl, jm, jmp, emax, xmin, *] <;> grind
    | some c =>
      have hc := h3 c rfl
      cases x1 with
      | none => cases x2 <;> simp [ivl, jm, jmp, emax, xmin]
      | some b =>
        obtain ⟨a1, a2, a3, a4⟩ := apart hc (h2 b rfl)
        cases x2 with
        | none => simp [ivl, jm, jmp, emax, xmin, *]
        | some d => rcases tri b.t d.t with ⟨g1, g2, g3⟩ | g1 | ⟨g1, g2, g3⟩ <;> simp [ivl, jm, jmp, emax, xmin, *] <;> grind
  | some a =>
    have ha := h1 a rfl
    cases e2 with
    | none =>
      cases x2 with
      | none => cases x1 <;> simp [ivl, jm, jmp, emax, xmin]
      | some d =>
        obtain ⟨a1, a2, a3, a4⟩ := apart ha (h4 d rfl)
        cases x1 with
        | none => simp [ivl, jm, jmp, emax, xmin, *]
        | some b => rcases tri b.t d.t with ⟨g1, g2, g3⟩ | g1 | ⟨g1, g2, g3⟩ <;> simp [ivl, jm, jmp, emax, xmin, *] <;> grind
    | some c =>
      have hc := h3 c rfl
      cases x1 with
      | none =>
        cases x2 with
        | none => rcases tri a.t c.t with ⟨g1, g2, g3⟩ | g1 | ⟨g1, g2, g3⟩ <;> simp [ivl, jm, jmp, emax, xmin, *]
        | some d =>
          obtain ⟨b1, b2, b3, b4⟩ := apart ha (h4 d rfl)
          rcases tri a.t c.t with ⟨g1, g2, g3⟩ | g1 | ⟨g1, g2, g3⟩ <;> simp [ivl, jm, jmp, emax, xmin, *]
      | some b =>
        obtain ⟨a1, a2, a3, a4⟩ := apart hc (h2 b rfl)
        cases x2 with
        | none => rcases tri a.t c.t with ⟨g1, g2, g3⟩ | g1 | ⟨g1, g2, g3⟩ <;> simp [ivl, jm, jmp, emax, xmin, *]
        | some d =>
          obtain ⟨b1, b2, b3, b4⟩ := apart ha (h4 d rfl)
          rcases tri a.t c.t with ⟨g1, g2, g3⟩ | g1 | ⟨g1, g2, g3⟩ <;> rcases tri b.t d.t with ⟨k1, k2, k3⟩ | k1 | ⟨k1, k2, k3⟩ <;> simp [ivl, jm, jmp, emax, xmin, *] <;> grind
theorem emax_ok {e1 e2 : Option Chg} (h1 : EntOk e1) (h2 : EntOk e2) : EntOk (emax e1 e2) := by
  intro c h
  cases e1 with
  | none => exact h2 c h
  | some a =>
    cases e2 with
    | none => exact h1 c h
    | some b =>
      have h : some (if a.t < b.t then b else a) = some c := h
      split at h
      · exact h2 c h
      · exact h1 c h
theorem xmin_ok {e1 e2 : Option Chg} (h1 : ExiOk e1) (h2 : ExiOk e2) : ExiOk (xmin e1 e2) := by
  intro c h
  cases e1 with
  | none => exact h2 c h
  | some a =>
    cases e2 with
    | none => exact h1 c h
    | some b =>
      have h : some (if b.t < a.t then b else a) = some c := h
      split at h
      · exact h2 c h
      · exact h1 c h
theorem xmin_spec {e1 e2 : Option Chg} {c : Chg} (h : xmin e1 e2 = some c) : (e1 = some c ∨ e2 = some c) ∧ (∀ a, e1 = some a → c.t ≤ a.t) ∧ (∀ a, e2 = some a → c.t ≤ a.t) := by
  cases e1 with
  | none =>
    have h : e2 = some c := h
    exact ⟨.inr h, fun a q => (nomatch q), fun a q => by rw [h] at q; cases q; exact Rat.le_refl⟩
  | some a =>
    cases e2 with
    | none =>
      have h : some a = some c := h
      cases h
      exact ⟨.inl rfl, fun b q => by cases q; exact Rat.le_refl, fun a q => (nomatch q)⟩
    | some b =>
      have h : some (if b.t < a.t then b else a) = some c := h
      split at h
      · rename_i hl
        cases h
        exact ⟨.inr rfl, fun x q => by cases q; grind, fun x q => by cases q; exact Rat.le_refl⟩
      · rename_i hl
        cases h
        exact ⟨.inl rfl, fun x q => by cases q; exact Rat.le_refl, fun x q => by cases q; grind⟩
theorem xmin_none {e1 e2 : Option Chg} (h : xmin e1 e2 = none) : e1 = none ∧ e2 = none := by
  cases e1 with
  | none => exact ⟨rfl, h⟩
  | some a => cases e2 <;> cases h
theorem emax_none (e1 e2 : Option Chg) : (emax e1 e2).isNone = (e1.isNone && e2.isNone) := by
  cases e1 <;> cases e2 <;> rfl
local macro_rules | `(tactic| walk_at "go") => `(tactic| simp [FM.runFn, FM.FD.fn, FM.execs, FM.exec, FM.ev, FM.evs, FM.evo, FM.evc, FM.evi, FM.lk, FM.lks, FM.It.lk, FM.isOw, FM.noOw, FM.Sl.isOw, FM.Sl.d, FM.isiD, FM.cmpD, FM.negD, FM.setAll, FM.bindT, FM.andThen_some', FM.onBl_bl, FM.wthD_some', FM.eqD_int, FM.ix_tup, FM.ix_lst, FM.atI_0, FM.atI_1, FM.atI_2, FM.op_add, FM.op_sub, FM.szle, FM.forF, FM.lcGo, FM.biD, K12.eqD_nil, K12.qD_0, K12.qD_1, K12.vD_0, K12.vD_1, K12.vD_2, K12.rng3, K12.rng0, K12.rngOk_3, K12.rngOk_0, FM.zipD, FM.zipD3, K12.szlt, vector_at, raised_at, K12.qd0, K12.qd1, K12.qdm1, K12.qd2, K12.eqD_str, K12.s1, K12.s2, K12.s3, K12.s4, K12.s5, K12.s6, K12.s7, K12.is_non_s, K12.is_non_n, K12.is_non_t, K12.bx0, K12.bx1, K12.bx2, K12.ry0, K12.ry1, K12.ry2, K12.h_0, K12.h_1, K12.h_2, K12.isnon_h, FM.eqD_q, FM.eqD_tm, number_at, nought_at, is_nought_at, add_at, sub_at, mul_at, scaled_at, sign_at, inverse_at, div_at, lifted_at, plus_at, minus_at, times_at, sign_of_at, K12.nil_ch, K12.nil_ch0, K12.nil_chc, K12.ch0, K12.sl_tail, K12.eqD_bl, K12.lst_t, K12.cD_0, K12.cD_1, K12.nj_h, K12.nj_b, *])
section
variable {n : Nat} {lo hi p d : I3 → Rat} (μ : Cells)
theorem cross_both (m : Nat) {x y : D} {w1 w2 : Bool} {c1 c2 : List Chg} (p d : I3 → Rat) (hx : T (n + m + 9) 51 [x, rayD p d] μ = some (cD lo hi w1 c1, μ)) (hy : T (n + m + 9) 51 [y, rayD p d] μ = some (cD lo hi w2 c2, μ)) (h : c1.length + c2.length ≤ 900) :
    T (n + m + 10) 51 [.tup [.str "both", x, y], rayD p d] μ = some (cD lo hi (w1 && w2) (jm (w1 && w2) w1 w2 c1 c2 []), μ) := by
  have z := joined_at (n := n + m) (lo := lo) (hi := hi) μ w1 w2 c1 c2 h
  clear h
  refine (T_at (f := 51) (n := n + m + 9) (d := d_cross_plain) rfl _ _).trans ?_
  unfold d_cross_plain B_cross_plain
  walk_at "go"
variable {a : Nat} [hl : ∀ k, Sz a (lo k)] [hh : ∀ k, Sz a (hi k)] [hp : ∀ k, Sz a (p k)] [hd : ∀ k, Sz a (d k)]
/-- a ray within, or on a face and on its way in -/
structure Good (lo hi p d : I3 → Rat) : Prop where
  l : ∀ k, lo k ≤ p k
  h : ∀ k, p k ≤ hi k
  z : ∀ k, d k = 0 → lo k < p k ∧ p k < hi k
  u : ∀ k, 0 < d k → p k < hi k
  v : ∀ k, d k < 0 → lo k < p k
def ent (lo hi p d : I3 → Rat) {a : Nat} [∀ k, Sz a (lo k)] [∀ k, Sz a (hi k)] [∀ k, Sz a (p k)] [∀ k, Sz a (d k)] (h1 : a ≤ 150) (k : I3) (up : Bool) : Option Chg := if d k = 0 then none else if 0 < sB up (d k) then none else some (hc lo hi p d h1 k up)
def exi (lo hi p d : I3 → Rat) {a : Nat} [∀ k, Sz a (lo k)] [∀ k, Sz a (hi k)] [∀ k, Sz a (p k)] [∀ k, Sz a (d k)] (h1 : a ≤ 150) (k : I3) (up : Bool) : Option Chg := if d k = 0 then none else if 0 < sB up (d k) then some (hc lo hi p d h1 k up) else none
variable (h1 : a ≤ 150) (hs : Sml d) (g : Good lo hi p d)
theorem div_np {x y : Rat} (hx : x ≤ 0) (hy : 0 < y) : x / y ≤ 0 := by
  have h : (x / y) * y = x := by grind
  apply Classical.byContradiction
  intro q
  have q : 0 < x / y := by grind
  have := Rat.mul_pos q hy
  grind
theorem div_np' {x y : Rat} (hx : 0 ≤ x) (hy : y < 0) : x / y ≤ 0 := by
  have h : (x / y) = (-x) / (-y) := by grind
  rw [h]
  exact div_np (by grind) (by grind)
theorem div_pp {x y : Rat} (hx : 0 < x) (hy : 0 < y) : 0 < x / y := by
  have h : (x / y) * y = x := by grind
  apply Classical.byContradiction
  intro q
  have e : x / y = 0 := by
    have q : x / y ≤ 0 := by grind
    have : 0 ≤ x / y := by
      apply Classical.byContradiction
      intro w
      have w : 0 < -(x / y) := by grind
      have := Rat.mul_pos w hy
      grind
    grind
  rw [e] at h
  grind
theorem sB_t (q : Rat) : sB true q = q := rfl
theorem sB_f (q : Rat) : sB false q = -q := rfl
include g in
theorem ent_ok (k : I3) (up : Bool) : EntOk (ent lo hi p d h1 k up) := by
  intro c h
  unfold ent at h
  split at h
  · cases h
  · split at h
    · cases h
    · rename_i h2 h3
      cases h
      show tk lo hi p d k up ≤ 0
      have l := g.l k
      have u := g.h k
      unfold tk lev
      cases up
      · simp only [Bool.false_eq_true, if_false]
        rw [sB_f] at h3
        exact div_np (by grind) (by grind)
      · simp only [if_true]
        rw [sB_t] at h3
        exact div_np' (by grind) (by grind)
include g in
theorem exi_ok (k : I3) (up : Bool) : ExiOk (exi lo hi p d h1 k up) := by
  intro c h
  unfold exi at h
  split at h
  · cases h
  · split at h
    · rename_i h2 h3
      cases h
      show 0 < tk lo hi p d k up
      unfold tk lev
      cases up
      · simp only [Bool.false_eq_true, if_false]
        rw [sB_f] at h3
        have l := g.v k (by grind)
        have e : (lo k - p k) / d k = (p k - lo k) / (-(d k)) := by grind
        rw [e]
        exact div_pp (by grind) (by grind)
      · simp only [if_true]
        rw [sB_t] at h3
        have u := g.u k h3
        exact div_pp (by grind) h3
    · cases h
include hs g in
theorem cross_h (k : I3) (up : Bool) : T (n + 8) 51 [hD lo hi k up, rayD p d] μ = some (cD lo hi (ent lo hi p d h1 k up).isNone (ivl (ent lo hi p d h1 k up) (exi lo hi p d h1 k up)), μ) := by
  rw [cross_half (n := n) μ h1 hs g.z k up]
  unfold bI ent exi ivl
  by_cases e : d k = 0
  · simp [e]
  · by_cases e2 : 0 < sB up (d k)
    · simp [e, e2]
    · simp [e, e2]
/-- the halves behind one another -/
def hl6 : List (I3 × Bool) := [(0, false), (0, true), (1, false), (1, true), (2, false), (2, true)]
def eAll (f : I3 × Bool → Option Chg) : List (I3 × Bool) → Option Chg
  | [] => none
  | [x] => f x
  | x :: xs => emax (f x) (eAll f xs)
def xAll (f : I3 × Bool → Option Chg) : List (I3 × Bool) → Option Chg
  | [] => none
  | [x] => f x
  | x :: xs => xmin (f x) (xAll f xs)
theorem eAll_ok {f : I3 × Bool → Option Chg} (hf : ∀ x, EntOk (f x)) : ∀ l, EntOk (eAll f l)
  | [] => fun c h => by cases h
  | [x] => hf x
  | x :: y :: xs => emax_ok (hf x) (eAll_ok hf (y :: xs))
theorem xAll_ok {f : I3 × Bool → Option Chg} (hf : ∀ x, ExiOk (f x)) : ∀ l, ExiOk (xAll f l)
  | [] => fun c h => by cases h
  | [x] => hf x
  | x :: y :: xs => xmin_ok (hf x) (xAll_ok hf (y :: xs))
theorem xAll_spec {f : I3 × Bool → Option Chg} {c : Chg} : ∀ {l}, xAll f l = some c → (∃ x ∈ l, f x = some c) ∧ ∀ x ∈ l, ∀ a, f x = some a → c.t ≤ a.t
  | [], h => by cases h
  | [x], h => ⟨⟨x, List.mem_cons_self, h⟩, fun y hy a q => by
    rw [List.mem_singleton.mp hy] at q
    have h' : f x = some c := h
    rw [h'] at q
    cases q
    exact Rat.le_refl⟩
  | x :: y :: xs, h => by
    obtain ⟨h1, h2, h3⟩ := xmin_spec (e1 := f x) (e2 := xAll f (y :: xs)) h
    refine ⟨?_, fun z hz a q => ?_⟩
    · rcases h1 with h1 | h1
      · exact ⟨x, List.mem_cons_self, h1⟩
      · obtain ⟨⟨z, hz, e⟩, _⟩ := xAll_spec h1
        exact ⟨z, List.mem_cons_of_mem _ hz, e⟩
    · rcases List.mem_cons.mp hz with rfl | hz
      · exact h2 a q
      · cases hx : xAll f (y :: xs) with
        | none =>
          exfalso
          have : ∀ l, z ∈ l → xAll f l = none → f z = none := by
            intro l
            induction l with
            | nil => intro hm; cases hm
            | cons u us ih =>
              intro hm hn
              cases us with
              | nil => rw [List.mem_singleton.mp hm]; exact hn
              | cons v vs =>
                obtain ⟨n1, n2⟩ := xmin_none (e1 := f u) (e2 := xAll f (v :: vs)) hn
                rcases List.mem_cons.mp hm with rfl | hm
                · exact n1
                · exact ih hm n2
          rw [this _ hz hx] at q
          cases q
        | some c2 =>
          have := h3 c2 hx
          have := (xAll_spec hx).2 z hz a q
          grind
theorem ivl_len (e x : Option Chg) : (ivl e x).length ≤ 2 := by
  cases e <;> cases x <;> simp [ivl]
include hs g in
theorem cross_nest : ∀ (l : List (I3 × Bool)), l ≠ [] → T (n + l.length + 9) 51 [nestD (l.map fun x => hD lo hi x.1 x.2), rayD p d] μ = some (cD lo hi (eAll (fun x => ent lo hi p d h1 x.1 x.2) l).isNone (ivl (eAll (fun x => ent lo hi p d h1 x.1 x.2) l) (xAll (fun x => exi lo hi p d h1 x.1 x.2) l)), μ)
  | [], h => absurd rfl h
  | [x], _ => cross_h (n := n + 1 + 1) μ h1 hs g x.1 x.2
  | x :: y :: xs, _ => by
    have i1 := cross_nest (y :: xs) (by simp)
    have i2 := cross_h (n := n + (y :: xs).length + 1) μ h1 hs g x.1 x.2
    have := cross_both (n := n) (lo := lo) (hi := hi) μ (y :: xs).length p d i2 i1 (by
      have := ivl_len (ent lo hi p d h1 x.1 x.2) (exi lo hi p d h1 x.1 x.2)
      have := ivl_len (eAll (fun x => ent lo hi p d h1 x.1 x.2) (y :: xs)) (xAll (fun x => exi lo hi p d h1 x.1 x.2) (y :: xs))
      omega)
    rw [jm_iv _ _ _ _ (ent_ok h1 g x.1 x.2) (exi_ok h1 g x.1 x.2) (eAll_ok (fun x => ent_ok h1 g x.1 x.2) _) (xAll_ok (fun x => exi_ok h1 g x.1 x.2) _), ← emax_none] at this
    exact this
/-- the next face along a side -/
def ex (lo hi p d : I3 → Rat) (k : I3) : Rat := tk lo hi p d k (decide (0 < d k))
theorem exi_some {k : I3} {up : Bool} {c : Chg} (h : exi lo hi p d h1 k up = some c) : d k ≠ 0 ∧ up = decide (0 < d k) ∧ c.t = ex lo hi p d k ∧ c.k = k ∧ c.up = up := by
  unfold exi at h
  split at h
  · cases h
  · split at h
    · rename_i h2 h3
      cases h
      have e : up = decide (0 < d k) := by
        cases up
        · rw [sB_f] at h3
          rw [decide_eq_false (by grind)]
        · rw [sB_t] at h3
          rw [decide_eq_true h3]
      refine ⟨h2, e, ?_, rfl, rfl⟩
      unfold ex
      rw [← e]
      rfl
    · cases h
theorem exi_of {k : I3} (h : d k ≠ 0) : ∃ c, exi lo hi p d h1 k (decide (0 < d k)) = some c ∧ c.t = ex lo hi p d k := by
  refine ⟨hc lo hi p d h1 k (decide (0 < d k)), ?_, rfl⟩
  unfold exi
  rw [if_neg h, if_pos]
  by_cases q : 0 < d k
  · rw [decide_eq_true q, sB_t]; exact q
  · rw [decide_eq_false q, sB_f]; grind
theorem mem_hl6 (k : I3) (up : Bool) : (k, up) ∈ hl6 := by
  rcases i3_cases k with rfl | rfl | rfl <;> cases up <;> decide
theorem xAll_ex : ∀ {f : I3 × Bool → Option Chg} {l : List (I3 × Bool)} {x : I3 × Bool}, x ∈ l → xAll f l = none → f x = none := by
  intro f l
  induction l with
  | nil => intro x hm; cases hm
  | cons u us ih =>
    intro z hm hn
    cases us with
    | nil => rw [List.mem_singleton.mp hm]; exact hn
    | cons v vs =>
      obtain ⟨n1, n2⟩ := xmin_none (e1 := f u) (e2 := xAll f (v :: vs)) hn
      rcases List.mem_cons.mp hm with rfl | hm
      · exact n1
      · exact ih hm n2
include hs g in
theorem crossing_at : T (n + 16) 50 [boxD lo hi, rayD p d] μ = some (cD lo hi (eAll (fun x => ent lo hi p d h1 x.1 x.2) hl6).isNone (ivl (eAll (fun x => ent lo hi p d h1 x.1 x.2) hl6) (xAll (fun x => exi lo hi p d h1 x.1 x.2) hl6)), μ) := by
  have z1 := plain_body_at (n := n + 10) (lo := lo) (hi := hi) μ (by omega : a ≤ 200)
  have z2 := cross_nest (n := n) μ h1 hs g hl6 (by decide)
  have e : (hl6.map fun x => hD lo hi x.1 x.2) = [hD lo hi 0 false, hD lo hi 0 true, hD lo hi 1 false, hD lo hi 1 true, hD lo hi 2 false, hD lo hi 2 true] := rfl
  rw [e] at z2
  clear g hs e
  generalize nestD [hD lo hi 0 false, hD lo hi 0 true, hD lo hi 1 false, hD lo hi 1 true, hD lo hi 2 false, hD lo hi 2 true] = b at z1 z2
  have z2' : T (n + 15) 51 [b, rayD p d] μ = _ := z2
  refine (T_at (f := 50) (n := n + 15) (d := d_crossing) rfl _ _).trans ?_
  unfold d_crossing B_crossing
  clear z2
  walk_at "go"
include h1 hs g in
theorem first_change_at (hd0 : ∃ k, d k ≠ 0) : ∃ k, d k ≠ 0 ∧ (∀ j, d j ≠ 0 → ex lo hi p d k ≤ ex lo hi p d j) ∧ 0 < ex lo hi p d k ∧ T (n + 17) 56 [boxD lo hi, rayD p d] μ = some (.tup [tmD (ex lo hi p d k), hD lo hi k (decide (0 < d k)), .bl false, .bl false], μ) := by
  have z := crossing_at (n := n) μ h1 hs g
  have he := eAll_ok (fun x => ent_ok h1 g x.1 x.2) hl6
  have hx := xAll_ok (fun x => exi_ok h1 g x.1 x.2) hl6
  cases hxa : xAll (fun x => exi lo hi p d h1 x.1 x.2) hl6 with
  | none =>
    exfalso
    obtain ⟨k, hk⟩ := hd0
    obtain ⟨c, hc1, _⟩ := exi_of (lo := lo) (hi := hi) (p := p) h1 hk
    have := xAll_ex (f := fun x => exi lo hi p d h1 x.1 x.2) (mem_hl6 k (decide (0 < d k))) hxa
    rw [hc1] at this
    cases this
  | some c =>
    obtain ⟨⟨⟨k, up⟩, hm, hk⟩, hmin⟩ := xAll_spec hxa
    obtain ⟨k1, k2, k3, k4, k5⟩ := exi_some h1 hk
    have hpos := hx c hxa
    rw [hxa] at z
    refine ⟨k, k1, fun j hj => ?_, by rw [← k3]; exact hpos, ?_⟩
    · obtain ⟨c2, c3, c4⟩ := exi_of (lo := lo) (hi := hi) (p := p) h1 hj
      have := hmin (j, decide (0 < d j)) (mem_hl6 _ _) c2 c3
      rw [← k3, ← c4]
      exact this
    · rw [← k3, ← k2, ← k5]
      have hck : hD lo hi k c.up = hD lo hi c.k c.up := by rw [k4]
      rw [hck]
      generalize eAll (fun x => ent lo hi p d h1 x.1 x.2) hl6 = e at z he
      have hch : ∀ c, chD lo hi c = .tup [tmD c.t, hD lo hi c.k c.up, .bl false] := fun c => rfl
      have hsp : 0 < sg c.t := sg_pos.mpr hpos
      have zc := sign_of_time_at (n := n + 9) μ c.t (by decide)
      clear k1 k2 k3 k4 k5 hck hmin hm hk hxa hx hpos hd0 g hs
      cases e with
      | none =>
        have e1 : cD lo hi true (ivl none (some c)) = .tup [.bl true, .tup [chD lo hi c]] := rfl
        rw [show (none : Option Chg).isNone = true from rfl, e1] at z
        clear he e1
        refine (T_at (f := 56) (n := n + 16) (d := d_first_change) rfl _ _).trans ?_
        unfold d_first_change B_first_change
        walk_at "go"
      | some b =>
        have hb := he b rfl
        have hsb : ¬ 0 < sg b.t := fun q => by
          have := sg_pos.mp q
          grind
        have zb := sign_of_time_at (n := n + 9) μ b.t (by decide)
        have e1 : cD lo hi false (ivl (some b) (some c)) = .tup [.bl false, .tup [chD lo hi b, chD lo hi c]] := rfl
        rw [show (some b : Option Chg).isNone = false from rfl, e1] at z
        clear he e1 hb
        refine (T_at (f := 56) (n := n + 16) (d := d_first_change) rfl _ _).trans ?_
        unfold d_first_change B_first_change
        walk_at "go"
end
end K12

set_option Elab.async false
set_option linter.all false
set_option maxRecDepth 100000
set_option maxHeartbeats 4000000
/-! V1: rays in boxes, unfolded (no program here). -/
namespace FM
def lvl (lo hi : I3 → Rat) (k : I3) (up : Bool) : Rat := if up then hi k else lo k
/-- the time to the next face along a side -/
def exT (lo hi p d : I3 → Rat) (k : I3) : Rat := (lvl lo hi k (decide (0 < d k)) - p k) / d k
/-- as many faces of each side have been met -/
abbrev Cnt := I3 → Nat
section
variable (lo hi p0 d0 : I3 → Rat)
def sd (k : I3) : Rat := hi k - lo k
def bb (k : I3) : Rat := (lvl lo hi k (decide (0 < d0 k)) - p0 k) / d0 k
def ab (q : Rat) : Rat := if 0 < q then q else -q
def ee (k : I3) : Rat := sd lo hi k / ab (d0 k)
def nx (n : Cnt) (k : I3) : Rat := bb lo hi p0 d0 k + (n k : Rat) * ee lo hi d0 k
def mm (n : Cnt) (k : I3) : Rat := if 0 < d0 k then (n k : Rat) else -(n k : Rat)
def PP (n : Cnt) (s : Rat) (k : I3) : Rat := if n k % 2 = 0 then p0 k + d0 k * s - mm d0 n k * sd lo hi k else hi k + lo k + mm d0 n k * sd lo hi k - (p0 k + d0 k * s)
def DD (n : Cnt) (k : I3) : Rat := if n k % 2 = 0 then d0 k else -(d0 k)
/-- where one may stand -/
structure Val (n : Cnt) (s : Rat) : Prop where
  z : ∀ k, d0 k = 0 → n k = 0
  u : ∀ k, d0 k ≠ 0 → s < nx lo hi p0 d0 n k
  l : ∀ k, d0 k ≠ 0 → n k ≠ 0 → bb lo hi p0 d0 k + ((n k : Rat) - 1) * ee lo hi d0 k ≤ s
  p : 0 ≤ s
structure Bx : Prop where
  l : ∀ k, lo k < p0 k
  h : ∀ k, p0 k < hi k
end
section
variable {lo hi p0 d0 : I3 → Rat} {n : Cnt} {s t : Rat} {k : I3}
theorem exT_nx (h : d0 k ≠ 0) : exT lo hi (PP lo hi p0 d0 n s) (DD d0 n) k = nx lo hi p0 d0 n k - s := by
  unfold exT nx bb ee ab PP DD mm sd lvl
  by_cases e : n k % 2 = 0
  · simp only [e, if_true]
    by_cases g : 0 < d0 k
    · simp only [g, if_true, decide_true]
      grind
    · simp only [g, if_false, decide_false, Bool.false_eq_true]
      have : -(d0 k) ≠ 0 := by grind
      grind
  · simp only [e, if_false]
    by_cases g : 0 < d0 k
    · have g2 : ¬ 0 < -(d0 k) := by grind
      simp only [g, if_true, decide_true, g2, decide_false, Bool.false_eq_true, if_false]
      have : -(d0 k) ≠ 0 := by grind
      grind
    · have g2 : 0 < -(d0 k) := by grind
      simp only [g, if_false, decide_false, Bool.false_eq_true, g2, decide_true, if_true]
      have : -(d0 k) ≠ 0 := by grind
      grind
theorem PP_flow : PP lo hi p0 d0 n (s + t) k = PP lo hi p0 d0 n s k + DD d0 n k * t := by
  unfold PP DD
  split <;> grind
theorem ab_pos {q : Rat} (h : q ≠ 0) : 0 < ab q := by unfold ab; split <;> grind
theorem nx_mul (h : d0 k ≠ 0) : d0 k * nx lo hi p0 d0 n k = lvl lo hi k (decide (0 < d0 k)) - p0 k + mm d0 n k * sd lo hi k := by
  unfold nx bb ee ab mm
  by_cases g : 0 < d0 k
  · simp only [g, if_true]
    grind
  · simp only [g, if_false]
    have : -(d0 k) ≠ 0 := by grind
    grind
/-- a face met: one more -/
def inc (n : Cnt) (k : I3) : Cnt := fun j => if j = k then n j + 1 else n j
theorem PP_turn {n' : Cnt} (h : d0 k ≠ 0) (hn : n' k = n k + 1) : PP lo hi p0 d0 n' (nx lo hi p0 d0 n k) k = PP lo hi p0 d0 n (nx lo hi p0 d0 n k) k := by
  have e := nx_mul (lo := lo) (hi := hi) (p0 := p0) (n := n) h
  unfold PP
  rw [e, hn]
  unfold mm lvl sd
  rw [hn]
  have c : ((n k + 1 : Nat) : Rat) = (n k : Rat) + 1 := by push_cast; rfl
  rw [c]
  by_cases ev : n k % 2 = 0
  · have ev2 : ¬ (n k + 1) % 2 = 0 := by omega
    rw [if_neg ev2, if_pos ev]
    by_cases g : 0 < d0 k
    · simp only [g, if_true, decide_true]; grind
    · simp only [g, if_false, decide_false, Bool.false_eq_true]; grind
  · have ev2 : (n k + 1) % 2 = 0 := by omega
    rw [if_pos ev2, if_neg ev]
    by_cases g : 0 < d0 k
    · simp only [g, if_true, decide_true]; grind
    · simp only [g, if_false, decide_false, Bool.false_eq_true]; grind
theorem DD_turn {n' : Cnt} (hn : n' k = n k + 1) : DD d0 n' k = 0 - DD d0 n k := by
  unfold DD
  rw [hn]
  by_cases ev : n k % 2 = 0
  · have ev2 : ¬ (n k + 1) % 2 = 0 := by omega
    rw [if_neg ev2, if_pos ev]; grind
  · have ev2 : (n k + 1) % 2 = 0 := by omega
    rw [if_pos ev2, if_neg ev]; grind
theorem PP_same {n' : Cnt} (hn : n' k = n k) : PP lo hi p0 d0 n' s k = PP lo hi p0 d0 n s k := by
  unfold PP mm
  rw [hn]
theorem DD_same {n' : Cnt} (hn : n' k = n k) : DD d0 n' k = DD d0 n k := by
  unfold DD
  rw [hn]
theorem DD_zero : DD d0 n k = 0 ↔ d0 k = 0 := by
  unfold DD
  split
  · exact Iff.rfl
  · constructor <;> intro h <;> grind
end
end FM

set_option Elab.async false
set_option linter.all false
set_option maxRecDepth 100000
set_option maxHeartbeats 4000000
/-! V2: where a ray stands is within the box; the next faces. -/
namespace FM
section
variable {lo hi p0 d0 : I3 → Rat} {n : Cnt} {s t : Rat} {k : I3}
theorem mul_lt_pos {a b c : Rat} (h : a < b) (hc : 0 < c) : c * a < c * b := by
  have : 0 < b - a := by grind
  have := Rat.mul_pos hc this
  grind
theorem mul_le_pos {a b c : Rat} (h : a ≤ b) (hc : 0 < c) : c * a ≤ c * b := by
  by_cases e : a = b
  · subst e; exact Rat.le_refl
  · have := mul_lt_pos (a := a) (b := b) (by grind) hc
    grind
theorem mul_lt_neg {a b c : Rat} (h : a < b) (hc : c < 0) : c * b < c * a := by
  have := mul_lt_pos (c := -c) h (by grind)
  grind
theorem mul_le_neg {a b c : Rat} (h : a ≤ b) (hc : c < 0) : c * b ≤ c * a := by
  have := mul_le_pos (c := -c) h (by grind)
  grind
/-- in the cell: where the straight line stands -/
theorem cell (bx : Bx lo hi p0) (v : Val lo hi p0 d0 n s) (h : d0 k ≠ 0) :
    (0 < d0 k → p0 k + d0 k * s < hi k + (n k : Rat) * sd lo hi k ∧ lo k + (n k : Rat) * sd lo hi k ≤ p0 k + d0 k * s ∧ (n k = 0 → lo k < p0 k + d0 k * s)) ∧
    (d0 k < 0 → lo k - (n k : Rat) * sd lo hi k < p0 k + d0 k * s ∧ p0 k + d0 k * s ≤ hi k - (n k : Rat) * sd lo hi k ∧ (n k = 0 → p0 k + d0 k * s < hi k)) := by
  have u := v.u k h
  have b1 := bx.l k
  have b2 := bx.h k
  have sp := v.p
  have e := nx_mul (lo := lo) (hi := hi) (p0 := p0) (n := n) h
  unfold mm lvl at e
  refine ⟨fun g => ?_, fun g => ?_⟩
  · simp only [g, if_true, decide_true] at e
    have m := mul_lt_pos u g
    rw [e] at m
    refine ⟨by grind, ?_, fun z => ?_⟩
    · by_cases z : n k = 0
      · have q := mul_le_pos sp g
        rw [z]
        have c : ((0 : Nat) : Rat) = 0 := rfl
        rw [c]
        grind
      · have w := v.l k h z
        have q := mul_le_pos w g
        have e2 : d0 k * (bb lo hi p0 d0 k + ((n k : Rat) - 1) * ee lo hi d0 k) = hi k - p0 k + ((n k : Rat) - 1) * sd lo hi k := by
          unfold bb ee ab lvl
          simp only [g, if_true, decide_true]
          grind
        rw [e2] at q
        unfold sd at *
        grind
    · have q := mul_le_pos sp g
      grind
  · have g2 : ¬ 0 < d0 k := by grind
    simp only [g2, if_false, decide_false, Bool.false_eq_true] at e
    have m := mul_lt_neg u g
    rw [e] at m
    refine ⟨by grind, ?_, fun z => ?_⟩
    · by_cases z : n k = 0
      · have q := mul_le_neg sp g
        rw [z]
        have c : ((0 : Nat) : Rat) = 0 := rfl
        rw [c]
        grind
      · have w := v.l k h z
        have q := mul_le_neg w g
        have e2 : d0 k * (bb lo hi p0 d0 k + ((n k : Rat) - 1) * ee lo hi d0 k) = lo k - p0 k - ((n k : Rat) - 1) * sd lo hi k := by
          unfold bb ee ab lvl
          simp only [g2, if_false, decide_false, Bool.false_eq_true]
          have : -(d0 k) ≠ 0 := by grind
          grind
        rw [e2] at q
        unfold sd at *
        grind
    · have q := mul_le_neg sp g
      grind
structure GoodV (lo hi p d : I3 → Rat) : Prop where
  l : ∀ k, lo k ≤ p k
  h : ∀ k, p k ≤ hi k
  z : ∀ k, d k = 0 → lo k < p k ∧ p k < hi k
  u : ∀ k, 0 < d k → p k < hi k
  v : ∀ k, d k < 0 → lo k < p k
theorem PP_zero (v : Val lo hi p0 d0 n s) (h : d0 k = 0) : PP lo hi p0 d0 n s k = p0 k := by
  have z := v.z k h
  unfold PP mm
  rw [z, h]
  have c : ((0 : Nat) : Rat) = 0 := rfl
  rw [c]
  simp
  grind
theorem goodv (bx : Bx lo hi p0) (v : Val lo hi p0 d0 n s) : GoodV lo hi (PP lo hi p0 d0 n s) (DD d0 n) := by
  have key : ∀ k, d0 k ≠ 0 → lo k ≤ PP lo hi p0 d0 n s k ∧ PP lo hi p0 d0 n s k ≤ hi k ∧ (0 < DD d0 n k → PP lo hi p0 d0 n s k < hi k) ∧ (DD d0 n k < 0 → lo k < PP lo hi p0 d0 n s k) := by
    intro k h
    obtain ⟨c1, c2⟩ := cell bx v h
    unfold PP DD mm
    by_cases g : 0 < d0 k
    · obtain ⟨a1, a2, a3⟩ := c1 g
      unfold sd at *
      by_cases ev : n k % 2 = 0
      · simp only [ev, g, if_true]
        exact ⟨by grind, by grind, fun _ => by grind, fun _ => by grind⟩
      · simp only [ev, g, if_true, if_false]
        exact ⟨by grind, by grind, fun _ => by grind, fun _ => by grind⟩
    · have g3 : d0 k < 0 := by grind
      obtain ⟨a1, a2, a3⟩ := c2 g3
      unfold sd at *
      by_cases ev : n k % 2 = 0
      · simp only [ev, g, if_true, if_false]
        exact ⟨by grind, by grind, fun _ => by grind, fun _ => by grind⟩
      · simp only [ev, g, if_false]
        exact ⟨by grind, by grind, fun _ => by grind, fun _ => by grind⟩
  refine ⟨fun k => ?_, fun k => ?_, fun k hz => ?_, fun k hu => ?_, fun k hv => ?_⟩
  · by_cases h : d0 k = 0
    · rw [PP_zero v h]; have := bx.l k; grind
    · exact (key k h).1
  · by_cases h : d0 k = 0
    · rw [PP_zero v h]; have := bx.h k; grind
    · exact (key k h).2.1
  · have h := DD_zero.mp hz
    rw [PP_zero v h]
    exact ⟨bx.l k, bx.h k⟩
  · exact (key k (fun e => by rw [DD_zero.mpr e] at hu; grind)).2.2.1 hu
  · exact (key k (fun e => by rw [DD_zero.mpr e] at hv; grind)).2.2.2 hv
end
/-! ### the first of the next faces -/
/-- as the law looks: the best so far, the sides met there -/
def bstStep (f : I3 → Option Rat) (b : Option Rat × List I3) (k : I3) : Option Rat × List I3 := match f k with
  | none => b
  | some t => match b.1 with
    | none => (some t, [k])
    | some c => if t < c then (some t, [k]) else if t = c then (some t, b.2 ++ [k]) else b
def bst (f : I3 → Option Rat) : Option Rat × List I3 := bstStep f (bstStep f (bstStep f (none, []) 0) 1) 2
def sidesAt (f : I3 → Option Rat) (t : Rat) : List I3 := [0, 1, 2].filter fun k => decide (f k = some t)
theorem bst_spec (f : I3 → Option Rat) (h : ∃ k, f k ≠ none) : ∃ t, bst f = (some t, sidesAt f t) ∧ (∃ k, f k = some t) ∧ ∀ k c, f k = some c → t ≤ c := by
  have fin : ∀ P : I3 → Prop, P 0 → P 1 → P 2 → ∀ k, P k := fun P h0 h1 h2 k => by rcases i3_cases k with rfl | rfl | rfl <;> assumption
  have tri : ∀ x y : Rat, (x < y ∧ ¬ y < x ∧ ¬ x = y ∧ ¬ y = x) ∨ (x = y) ∨ (y < x ∧ ¬ x < y ∧ ¬ x = y ∧ ¬ y = x) := fun x y => by
    by_cases h : x < y
    · exact .inl ⟨h, by grind, by grind, by grind⟩
    · by_cases g : x = y
      · exact .inr (.inl g)
      · exact .inr (.inr ⟨by grind, h, g, by grind⟩)
  unfold bst
  cases h0 : f 0 with
  | none =>
    cases h1 : f 1 with
    | none =>
      cases h2 : f 2 with
      | none =>
        obtain ⟨k, hk⟩ := h
        exact absurd (fin (fun k => f k = none) h0 h1 h2 k) hk
      | some c => exact ⟨c, by simp [bstStep, sidesAt, h0, h1, h2], ⟨2, h2⟩, fin _ (by simp [h0]) (by simp [h1]) (by rw [h2]; intro x e; cases e; exact Rat.le_refl)⟩
    | some b =>
      cases h2 : f 2 with
      | none => exact ⟨b, by simp [bstStep, sidesAt, h0, h1, h2], ⟨1, h1⟩, fin _ (by simp [h0]) (by rw [h1]; intro x e; cases e; exact Rat.le_refl) (by simp [h2])⟩
      | some c =>
        rcases tri c b with ⟨g1, g2, g3, g4⟩ | g1 | ⟨g1, g2, g3, g4⟩
        · exact ⟨c, by simp [bstStep, sidesAt, *], ⟨2, h2⟩, fin _ (by simp [h0]) (by rw [h1]; intro x e; cases e; grind) (by rw [h2]; intro x e; cases e; grind)⟩
        · exact ⟨c, by subst g1; simp [bstStep, sidesAt, *], ⟨2, h2⟩, fin _ (by simp [h0]) (by rw [h1]; intro x e; cases e; grind) (by rw [h2]; intro x e; cases e; grind)⟩
        · exact ⟨b, by simp [bstStep, sidesAt, *], ⟨1, h1⟩, fin _ (by simp [h0]) (by rw [h1]; intro x e; cases e; grind) (by rw [h2]; intro x e; cases e; grind)⟩
  | some a =>
    cases h1 : f 1 with
    | none =>
      cases h2 : f 2 with
      | none => exact ⟨a, by simp [bstStep, sidesAt, h0, h1, h2], ⟨0, h0⟩, fin _ (by rw [h0]; intro x e; cases e; exact Rat.le_refl) (by simp [h1]) (by simp [h2])⟩
      | some c =>
        rcases tri c a with ⟨g1, g2, g3, g4⟩ | g1 | ⟨g1, g2, g3, g4⟩
        · exact ⟨c, by simp [bstStep, sidesAt, *], ⟨2, h2⟩, fin _ (by rw [h0]; intro x e; cases e; grind) (by simp [h1]) (by rw [h2]; intro x e; cases e; grind)⟩
        · exact ⟨c, by subst g1; simp [bstStep, sidesAt, *], ⟨2, h2⟩, fin _ (by rw [h0]; intro x e; cases e; grind) (by simp [h1]) (by rw [h2]; intro x e; cases e; grind)⟩
        · exact ⟨a, by simp [bstStep, sidesAt, *], ⟨0, h0⟩, fin _ (by rw [h0]; intro x e; cases e; grind) (by simp [h1]) (by rw [h2]; intro x e; cases e; grind)⟩
    | some b =>
      cases h2 : f 2 with
      | none =>
        rcases tri b a with ⟨g1, g2, g3, g4⟩ | g1 | ⟨g1, g2, g3, g4⟩
        · exact ⟨b, by simp [bstStep, sidesAt, *], ⟨1, h1⟩, fin _ (by rw [h0]; intro x e; cases e; grind) (by rw [h1]; intro x e; cases e; grind) (by simp [h2])⟩
        · exact ⟨b, by subst g1; simp [bstStep, sidesAt, *], ⟨1, h1⟩, fin _ (by rw [h0]; intro x e; cases e; grind) (by rw [h1]; intro x e; cases e; grind) (by simp [h2])⟩
        · exact ⟨a, by simp [bstStep, sidesAt, *], ⟨0, h0⟩, fin _ (by rw [h0]; intro x e; cases e; grind) (by rw [h1]; intro x e; cases e; grind) (by simp [h2])⟩
      | some c =>
        have sub : ∀ m l, bstStep f (bstStep f (none, []) 0) 1 = (some m, l) → l = ([0, 1].filter fun k => decide (f k = some m)) → (f 0 = some m ∨ f 1 = some m) → m ≤ a → m ≤ b →
            ∃ t, bstStep f (bstStep f (bstStep f (none, []) 0) 1) 2 = (some t, sidesAt f t) ∧ (∃ k, f k = some t) ∧ ∀ k c, f k = some c → t ≤ c := by
          intro m l e el em ma mb
          rw [e]
          rcases tri c m with ⟨g1, g2, g3, g4⟩ | g1 | ⟨g1, g2, g3, g4⟩
          · have ga : ¬ a = c := by grind
            have gb : ¬ b = c := by grind
            exact ⟨c, by simp [bstStep, sidesAt, *], ⟨2, h2⟩, fin _ (by rw [h0]; intro x e; cases e; grind) (by rw [h1]; intro x e; cases e; grind) (by rw [h2]; intro x e; cases e; grind)⟩
          · refine ⟨c, ?_, ⟨2, h2⟩, fin _ (by rw [h0]; intro x e; cases e; grind) (by rw [h1]; intro x e; cases e; grind) (by rw [h2]; intro x e; cases e; grind)⟩
            subst g1
            have gg : ¬ c < c := by grind
            rw [el]
            simp only [bstStep, h2, gg, if_false, if_true]
            unfold sidesAt
            rw [show ([0, 1, 2] : List I3) = [0, 1] ++ [2] from rfl, List.filter_append]
            simp [h2]
          · refine ⟨m, ?_, ?_, fin _ (by rw [h0]; intro x e; cases e; grind) (by rw [h1]; intro x e; cases e; grind) (by rw [h2]; intro x e; cases e; grind)⟩
            · rw [el]
              simp only [bstStep, h2, g2, g3, if_false]
              unfold sidesAt
              rw [show ([0, 1, 2] : List I3) = [0, 1] ++ [2] from rfl, List.filter_append]
              simp [h2, g3]
            · rcases em with em | em
              · exact ⟨0, em⟩
              · exact ⟨1, em⟩
        rcases tri b a with ⟨g1, g2, g3, g4⟩ | g1 | ⟨g1, g2, g3, g4⟩
        · exact sub b [1] (by simp [bstStep, *]) (by simp [*]) (.inr h1) (by grind) (by grind)
        · exact sub b [0, 1] (by subst g1; simp [bstStep, *]) (by subst g1; simp [*]) (.inr h1) (by grind) (by grind)
        · exact sub a [0] (by simp [bstStep, *]) (by simp [*]) (.inl h0) (by grind) (by grind)
end FM

set_option Elab.async false
set_option linter.all false
set_option maxRecDepth 100000
set_option maxHeartbeats 4000000
/-! V3: the walk of a ray from face to face, and the faces told in order. -/
namespace FM
open List (Perm)
/-! ### in order -/
def ins (x : Rat) (L : List Rat) : List Rat := insAt L (L.filter fun o => !decide (x < o)).length x
def isort (l : List Rat) : List Rat := l.foldl (fun acc x => ins x acc) []
abbrev Srt (l : List Rat) : Prop := l.Pairwise (· ≤ ·)
theorem ins_nil (x : Rat) : ins x [] = [x] := rfl
theorem ins_cons {x y : Rat} {L : List Rat} (h : Srt (y :: L)) : ins x (y :: L) = if y ≤ x then y :: ins x L else x :: y :: L := by
  obtain ⟨h1, h2⟩ := List.pairwise_cons.mp h
  by_cases c : y ≤ x
  · rw [if_pos c]
    have e : (!decide (x < y)) = true := by
      have : ¬ x < y := by grind
      rw [decide_eq_false this]; rfl
    unfold ins
    rw [List.filter_cons, e, if_pos rfl, List.length_cons]
    rfl
  · rw [if_neg c]
    have e : ((y :: L).filter fun o => !decide (x < o)) = [] := by
      rw [List.filter_eq_nil_iff]
      intro o ho
      have : x < o := by
        rcases List.mem_cons.mp ho with rfl | ho
        · grind
        · have := h1 o ho; grind
      rw [decide_eq_true this]
      simp
    unfold ins
    rw [e]
    rfl
theorem ins_perm (x : Rat) (L : List Rat) : Perm (ins x L) (x :: L) := by
  unfold ins insAt
  have := List.perm_middle (a := x) (l₁ := L.take (L.filter fun o => !decide (x < o)).length) (l₂ := L.drop (L.filter fun o => !decide (x < o)).length)
  rw [List.take_append_drop] at this
  rw [List.append_assoc]
  exact this
theorem ins_srt {x : Rat} : ∀ {L : List Rat}, Srt L → Srt (ins x L)
  | [], _ => by rw [ins_nil]; exact List.pairwise_singleton _ _
  | y :: L, h => by
    obtain ⟨h1, h2⟩ := List.pairwise_cons.mp h
    rw [ins_cons h]
    by_cases c : y ≤ x
    · rw [if_pos c]
      refine List.pairwise_cons.mpr ⟨fun o ho => ?_, ins_srt h2⟩
      rcases List.mem_cons.mp ((ins_perm x L).mem_iff.mp ho) with rfl | ho
      · exact c
      · exact h1 o ho
    · rw [if_neg c]
      refine List.pairwise_cons.mpr ⟨fun o ho => ?_, h⟩
      rcases List.mem_cons.mp ho with rfl | ho
      · grind
      · have := h1 o ho; grind
theorem isort_go : ∀ (l acc : List Rat), Srt acc → Srt (l.foldl (fun acc x => ins x acc) acc) ∧ Perm (l.foldl (fun acc x => ins x acc) acc) (acc ++ l)
  | [], acc, h => ⟨h, by rw [List.append_nil]; exact Perm.refl _⟩
  | x :: l, acc, h => by
    obtain ⟨i1, i2⟩ := isort_go l (ins x acc) (ins_srt h)
    refine ⟨i1, i2.trans ?_⟩
    refine ((ins_perm x acc).append_right l).trans ?_
    exact (List.perm_middle).symm
theorem isort_srt (l : List Rat) : Srt (isort l) := (isort_go l [] List.Pairwise.nil).1
theorem isort_perm (l : List Rat) : Perm (isort l) l := (isort_go l [] List.Pairwise.nil).2
theorem srt_eq {a b : List Rat} (ha : Srt a) (hb : Srt b) (p : Perm a b) : a = b :=
  List.Perm.eq_of_pairwise (le := fun x y => decide (x ≤ y)) (fun x y _ _ h1 h2 => by
    have h1 := of_decide_eq_true h1
    have h2 := of_decide_eq_true h2
    grind) (ha.imp fun h => decide_eq_true h) (hb.imp fun h => decide_eq_true h) p
/-! ### the faces by counts -/
section
variable (lo hi p0 d0 : I3 → Rat)
def nxO (n : Cnt) (k : I3) : Option Rat := if d0 k = 0 then none else some (nx lo hi p0 d0 n k)
def tm (n : Cnt) : Rat := (bst (nxO lo hi p0 d0 n)).1.getD 0
def sN (n : Cnt) : List I3 := (bst (nxO lo hi p0 d0 n)).2
def nN (n : Cnt) : Cnt := fun k => if k ∈ sN lo hi p0 d0 n then n k + 1 else n k
structure Ev where
  t : Rat
  p : I3 → Rat
  k : I3
  up : Bool
def evs1 (n : Cnt) : List Ev := (sN lo hi p0 d0 n).map fun k => ⟨tm lo hi p0 d0 n, PP lo hi p0 d0 (nN lo hi p0 d0 n) (tm lo hi p0 d0 n), k, decide (0 < DD d0 n k)⟩
def wk : Nat → Cnt → List Ev
  | 0, _ => []
  | m + 1, n => evs1 lo hi p0 d0 n ++ wk m (nN lo hi p0 d0 n)
end
section
variable {lo hi p0 d0 : I3 → Rat} {n : Cnt} {s : Rat} (hd : ∃ k, d0 k ≠ 0)
include hd
theorem tm_spec : sN lo hi p0 d0 n = [0, 1, 2].filter (fun k => decide (d0 k ≠ 0 ∧ nx lo hi p0 d0 n k = tm lo hi p0 d0 n)) ∧ (∃ k, d0 k ≠ 0 ∧ nx lo hi p0 d0 n k = tm lo hi p0 d0 n) ∧ ∀ k, d0 k ≠ 0 → tm lo hi p0 d0 n ≤ nx lo hi p0 d0 n k := by
  obtain ⟨k0, hk0⟩ := hd
  obtain ⟨t, e1, ⟨k1, e2⟩, e3⟩ := bst_spec (nxO lo hi p0 d0 n) ⟨k0, by unfold nxO; rw [if_neg hk0]; exact fun h => by cases h⟩
  have et : tm lo hi p0 d0 n = t := by unfold tm; rw [e1]; rfl
  have es : sN lo hi p0 d0 n = sidesAt (nxO lo hi p0 d0 n) t := by unfold sN; rw [e1]
  have h1 : d0 k1 ≠ 0 ∧ nx lo hi p0 d0 n k1 = t := by
    unfold nxO at e2
    split at e2
    · cases e2
    · rename_i h; cases e2; exact ⟨h, rfl⟩
  refine ⟨?_, ⟨k1, h1.1, by rw [et]; exact h1.2⟩, fun k hk => ?_⟩
  · rw [es, et]
    unfold sidesAt
    apply List.filter_congr
    intro k _
    unfold nxO
    by_cases h : d0 k = 0
    · simp [h]
    · simp [h]
  · rw [et]
    exact e3 k _ (by unfold nxO; rw [if_neg hk])
theorem mem_sN {k : I3} : k ∈ sN lo hi p0 d0 n ↔ d0 k ≠ 0 ∧ nx lo hi p0 d0 n k = tm lo hi p0 d0 n := by
  rw [(tm_spec hd).1, List.mem_filter]
  constructor
  · intro h; exact of_decide_eq_true h.2
  · intro h
    refine ⟨?_, decide_eq_true h⟩
    rcases i3_cases k with rfl | rfl | rfl <;> simp
theorem sN_ne : sN lo hi p0 d0 n ≠ [] := by
  obtain ⟨k, h⟩ := (tm_spec (lo := lo) (hi := hi) (p0 := p0) (n := n) hd).2.1
  exact List.ne_nil_of_mem ((mem_sN hd).mpr h)
omit hd in
theorem ee_pos (bx : Bx lo hi p0) {k : I3} (h : d0 k ≠ 0) : 0 < ee lo hi d0 k := by
  have := ab_pos h
  have b1 := bx.l k
  have b2 := bx.h k
  unfold ee
  have hs : 0 < sd lo hi k := by unfold sd; grind
  have e : (sd lo hi k / ab (d0 k)) * ab (d0 k) = sd lo hi k := by grind
  apply Classical.byContradiction
  intro q
  by_cases z : sd lo hi k / ab (d0 k) = 0
  · rw [z] at e; grind
  · have w : 0 < -(sd lo hi k / ab (d0 k)) := by grind
    have := Rat.mul_pos w this
    grind
theorem val_step (bx : Bx lo hi p0) (v : Val lo hi p0 d0 n s) : Val lo hi p0 d0 (nN lo hi p0 d0 n) (tm lo hi p0 d0 n) ∧ s < tm lo hi p0 d0 n := by
  obtain ⟨h1, ⟨k1, h2, h3⟩, h4⟩ := tm_spec (lo := lo) (hi := hi) (p0 := p0) (n := n) hd
  have hst : s < tm lo hi p0 d0 n := by rw [← h3]; exact v.u k1 h2
  refine ⟨⟨fun k hk => ?_, fun k hk => ?_, fun k hk hn => ?_, ?_⟩, hst⟩
  · unfold nN
    rw [if_neg (fun m => ((mem_sN hd).mp m).1 hk)]
    exact v.z k hk
  · have ep := ee_pos (d0 := d0) bx hk
    by_cases m : k ∈ sN lo hi p0 d0 n
    · have := ((mem_sN hd).mp m).2
      unfold nx nN at *
      rw [if_pos m]
      have c : ((n k + 1 : Nat) : Rat) = (n k : Rat) + 1 := by push_cast; rfl
      rw [c]
      grind
    · have w := h4 k hk
      have ne : nx lo hi p0 d0 n k ≠ tm lo hi p0 d0 n := fun e => m ((mem_sN hd).mpr ⟨hk, e⟩)
      have e : nx lo hi p0 d0 (nN lo hi p0 d0 n) k = nx lo hi p0 d0 n k := by
        unfold nx nN
        rw [if_neg m]
      rw [e]
      grind
  · by_cases m : k ∈ sN lo hi p0 d0 n
    · have := ((mem_sN hd).mp m).2
      have en : nN lo hi p0 d0 n k = n k + 1 := by unfold nN; rw [if_pos m]
      rw [en]
      have c : ((n k + 1 : Nat) : Rat) = (n k : Rat) + 1 := by push_cast; rfl
      rw [c]
      unfold nx at this
      grind
    · have en : nN lo hi p0 d0 n k = n k := by unfold nN; rw [if_neg m]
      rw [en] at hn ⊢
      have := v.l k hk hn
      grind
  · have := v.p
    grind
theorem PP_next : PP lo hi p0 d0 (nN lo hi p0 d0 n) (tm lo hi p0 d0 n) = PP lo hi p0 d0 n (tm lo hi p0 d0 n) := by
  funext k
  by_cases m : k ∈ sN lo hi p0 d0 n
  · obtain ⟨m1, m2⟩ := (mem_sN hd).mp m
    rw [← m2]
    exact PP_turn m1 (by unfold nN; rw [if_pos m])
  · exact PP_same (by unfold nN; rw [if_neg m])
omit hd in
theorem DD_next (k : I3) : DD d0 (nN lo hi p0 d0 n) k = if k ∈ sN lo hi p0 d0 n then 0 - DD d0 n k else DD d0 n k := by
  by_cases m : k ∈ sN lo hi p0 d0 n
  · rw [if_pos m]
    exact DD_turn (by unfold nN; rw [if_pos m])
  · rw [if_neg m]
    exact DD_same (by unfold nN; rw [if_neg m])
end
end FM

set_option Elab.async false
set_option linter.all false
set_option maxRecDepth 100000
set_option maxHeartbeats 4000000
/-! V4: all the times at the faces, in order, are the walk's. -/
namespace FM
open List (Perm)
/-- how many of b, b + e, .. are at most T -/
def cntT (b e T : Rat) : Nat := if T < b then 0 else ((T - b) / e).floor.toNat + 1
theorem nat_floor {q : Rat} (h : 0 ≤ q) {j : Nat} : j ≤ q.floor.toNat ↔ (j : Rat) ≤ q := by
  have h0 : 0 ≤ q.floor := Rat.le_floor_iff.mpr (by simpa using h)
  have : (j : Rat) = ((j : Int) : Rat) := rfl
  rw [this, ← Rat.le_floor_iff]
  omega
theorem cntT_spec {b e T : Rat} (he : 0 < e) (j : Nat) : j < cntT b e T ↔ b + (j : Rat) * e ≤ T := by
  unfold cntT
  split
  · rename_i h
    have : 0 ≤ (j : Rat) := by exact_mod_cast Nat.zero_le j
    have := mul_le_pos this he
    constructor
    · intro h; omega
    · intro h; grind
  · rename_i h
    have q0 : 0 ≤ (T - b) / e := by
      have e1 : ((T - b) / e) * e = T - b := by grind
      apply Classical.byContradiction
      intro w
      have w : 0 < -((T - b) / e) := by grind
      have := Rat.mul_pos w he
      grind
    rw [Nat.lt_succ_iff, nat_floor q0]
    have e1 : ((T - b) / e) * e = T - b := by grind
    constructor
    · intro h
      have := mul_le_pos h he
      grind
    · intro h
      apply Classical.byContradiction
      intro w
      have w : (T - b) / e < (j : Rat) := by grind
      have := mul_lt_pos w he
      grind
section
variable (lo hi p0 d0 : I3 → Rat) (T : Rat)
def cn (k : I3) : Nat := if d0 k = 0 then 0 else cntT (bb lo hi p0 d0 k) (ee lo hi d0 k) T
/-- the times at a side's faces, from the n-th on, up to T -/
def hk (n : Cnt) (k : I3) : List Rat := (List.range' (n k) (cn lo hi p0 d0 T k - n k)).map fun (j : Nat) => bb lo hi p0 d0 k + (j : Rat) * ee lo hi d0 k
def hits (n : Cnt) (ks : List I3) : List Rat := ks.flatMap (hk lo hi p0 d0 T n)
end
section
variable {lo hi p0 d0 : I3 → Rat} {T : Rat} {n : Cnt} {k : I3} (hd : ∃ k, d0 k ≠ 0) (bx : Bx lo hi p0)
include bx in
theorem cn_lt (h : d0 k ≠ 0) (j : Nat) : j < cn lo hi p0 d0 T k ↔ bb lo hi p0 d0 k + (j : Rat) * ee lo hi d0 k ≤ T := by
  unfold cn
  rw [if_neg h]
  exact cntT_spec (ee_pos bx h) j
include hd
theorem hk_same (m : k ∉ sN lo hi p0 d0 n) : hk lo hi p0 d0 T (nN lo hi p0 d0 n) k = hk lo hi p0 d0 T n k := by
  have e : nN lo hi p0 d0 n k = n k := by unfold nN; rw [if_neg m]
  unfold hk
  rw [e]
include bx
theorem hk_turn (m : k ∈ sN lo hi p0 d0 n) (hT : tm lo hi p0 d0 n ≤ T) : hk lo hi p0 d0 T n k = tm lo hi p0 d0 n :: hk lo hi p0 d0 T (nN lo hi p0 d0 n) k := by
  obtain ⟨m1, m2⟩ := (mem_sN hd).mp m
  have e : nN lo hi p0 d0 n k = n k + 1 := by unfold nN; rw [if_pos m]
  have hlt : n k < cn lo hi p0 d0 T k := (cn_lt bx m1 (n k)).mpr (by unfold nx at m2; rw [m2]; exact hT)
  unfold hk
  rw [e, show cn lo hi p0 d0 T k - n k = (cn lo hi p0 d0 T k - (n k + 1)) + 1 by omega, List.range'_succ, List.map_cons]
  congr 1
theorem hits_perm (hT : tm lo hi p0 d0 n ≤ T) : ∀ ks : List I3, Perm (hits lo hi p0 d0 T n ks) ((ks.filter fun k => decide (k ∈ sN lo hi p0 d0 n)).map (fun _ => tm lo hi p0 d0 n) ++ hits lo hi p0 d0 T (nN lo hi p0 d0 n) ks)
  | [] => Perm.refl _
  | k :: ks => by
    have ih := hits_perm hT ks
    unfold hits at ih ⊢
    rw [List.flatMap_cons, List.flatMap_cons]
    by_cases m : k ∈ sN lo hi p0 d0 n
    · rw [hk_turn hd bx m hT, List.filter_cons, if_pos (decide_eq_true m), List.map_cons, List.cons_append, List.cons_append]
      refine List.Perm.cons _ ?_
      refine (ih.append_left _).trans ?_
      rw [← List.append_assoc, ← List.append_assoc]
      exact (List.perm_append_comm).append_right _
    · rw [hk_same hd m, List.filter_cons, if_neg (by simpa using m)]
      refine (ih.append_left _).trans ?_
      rw [← List.append_assoc, ← List.append_assoc]
      exact (List.perm_append_comm).append_right _
omit bx in
theorem sN_filter : ([0, 1, 2] : List I3).filter (fun k => decide (k ∈ sN lo hi p0 d0 n)) = sN lo hi p0 d0 n := by
  have e := (tm_spec (lo := lo) (hi := hi) (p0 := p0) (n := n) hd).1
  conv => rhs; rw [e]
  apply List.filter_congr
  intro k _
  exact decide_eq_decide.mpr (mem_sN hd)
omit hd in
theorem hits_ge (hv : ∀ k, d0 k ≠ 0 → tm lo hi p0 d0 n ≤ nx lo hi p0 d0 n k) {n' : Cnt} (hn : ∀ k, n k ≤ n' k) : ∀ x ∈ hits lo hi p0 d0 T n' [0, 1, 2], tm lo hi p0 d0 n ≤ x := by
  intro x hx
  obtain ⟨k, _, hk⟩ := List.mem_flatMap.mp hx
  unfold FM.hk at hk
  obtain ⟨j, hj, e⟩ := List.mem_map.mp hk
  have hj := List.mem_range'_1.mp hj
  have hc : d0 k ≠ 0 := by
    intro z
    unfold cn at hj
    rw [if_pos z] at hj
    omega
  have ep := ee_pos (d0 := d0) bx hc
  have h1 := hv k hc
  unfold nx at h1
  have h2 : (n k : Rat) ≤ (j : Rat) := by
    have := hn k
    exact_mod_cast (by omega : n k ≤ j)
  have := mul_le_pos h2 ep
  subst e
  grind
theorem merge_take : ∀ (m many : Nat) (n : Cnt), many ≤ m → many ≤ (hits lo hi p0 d0 T n [0, 1, 2]).length →
    (isort (hits lo hi p0 d0 T n [0, 1, 2])).take many = ((wk lo hi p0 d0 m n).map Ev.t).take many
  | _, 0, _, _, _ => by rw [List.take_zero, List.take_zero]
  | 0, many + 1, _, h, _ => by omega
  | m + 1, many + 1, n, h, hl => by
    have hne : hits lo hi p0 d0 T n [0, 1, 2] ≠ [] := by intro e; rw [e] at hl; simp at hl
    obtain ⟨x, hx⟩ := List.exists_mem_of_ne_nil _ hne
    obtain ⟨t1, t2, t3⟩ := tm_spec (lo := lo) (hi := hi) (p0 := p0) (n := n) hd
    have hT : tm lo hi p0 d0 n ≤ T := by
      obtain ⟨k, _, hk⟩ := List.mem_flatMap.mp hx
      unfold FM.hk at hk
      obtain ⟨j, hj, e⟩ := List.mem_map.mp hk
      have hj := List.mem_range'_1.mp hj
      have hc : d0 k ≠ 0 := by
        intro z
        unfold cn at hj
        rw [if_pos z] at hj
        omega
      have a1 := t3 k hc
      have a2 := (cn_lt (T := T) bx hc (n k)).mp (by omega)
      unfold nx at a1
      grind
    have hp := hits_perm hd bx hT [0, 1, 2]
    rw [sN_filter hd] at hp
    have hge := hits_ge (T := T) bx t3 (n' := nN lo hi p0 d0 n) (fun k => by unfold nN; split <;> omega)
    have e : isort (hits lo hi p0 d0 T n [0, 1, 2]) = (sN lo hi p0 d0 n).map (fun _ => tm lo hi p0 d0 n) ++ isort (hits lo hi p0 d0 T (nN lo hi p0 d0 n) [0, 1, 2]) := by
      refine srt_eq (isort_srt _) ?_ ?_
      · refine List.pairwise_append.mpr ⟨?_, isort_srt _, ?_⟩
        · rw [List.pairwise_map]
          exact List.pairwise_of_forall fun _ _ => Rat.le_refl
        · intro a ha b hb
          obtain ⟨_, _, rfl⟩ := List.mem_map.mp ha
          exact hge b ((isort_perm _).mem_iff.mp hb)
      · refine (isort_perm _).trans (hp.trans ?_)
        exact ((isort_perm _).symm).append_left _
    have e2 : (wk lo hi p0 d0 (m + 1) n).map Ev.t = (sN lo hi p0 d0 n).map (fun _ => tm lo hi p0 d0 n) ++ (wk lo hi p0 d0 m (nN lo hi p0 d0 n)).map Ev.t := by
      show (evs1 lo hi p0 d0 n ++ _).map Ev.t = _
      rw [List.map_append]
      unfold evs1
      rw [List.map_map]
      rfl
    rw [e, e2]
    have hs : (sN lo hi p0 d0 n).length ≠ 0 := fun z => sN_ne hd (List.length_eq_zero_iff.mp z)
    rw [List.take_append, List.take_append, List.length_map]
    congr 1
    have hl2 := hp.length_eq
    rw [List.length_append, List.length_map] at hl2
    exact merge_take m (many + 1 - (sN lo hi p0 d0 n).length) (nN lo hi p0 d0 n) (by omega) (by omega)
end
end FM

set_option Elab.async false
set_option linter.all false
set_option maxRecDepth 100000
set_option maxHeartbeats 4000000
/-! V5: the straight line folded; when a ray comes back. -/
namespace FM
/-- folded, as the program does -/
def phi (lo hi x : Rat) : Rat :=
  let m := ((x - lo) / (hi - lo)).floor
  let rest := (x - lo) - (hi - lo) * (m : Rat)
  if m % 2 = 0 then lo + rest else hi - rest
/-- in the m-th cell -/
def gm (lo hi : Rat) (m : Int) (x : Rat) : Rat := if m % 2 = 0 then x - (m : Rat) * (hi - lo) else hi + lo + (m : Rat) * (hi - lo) - x
theorem floor_is {q : Rat} {m : Int} (h1 : (m : Rat) ≤ q) (h2 : q < (m : Rat) + 1) : q.floor = m := by
  have a := Rat.le_floor_iff.mpr h1
  have c : ((m + 1 : Int) : Rat) = (m : Rat) + 1 := by push_cast; rfl
  have b := Rat.floor_lt_iff.mpr (show q < ((m + 1 : Int) : Rat) by rw [c]; exact h2)
  omega
theorem le_div {a b c : Rat} (hb : 0 < b) (h : a * b ≤ c) : a ≤ c / b := by
  have e : (c / b) * b = c := by grind
  apply Classical.byContradiction
  intro w
  have := mul_lt_pos (a := c / b) (b := a) (by grind) hb
  grind
theorem div_lt {a b c : Rat} (hb : 0 < b) (h : c < a * b) : c / b < a := by
  have e : (c / b) * b = c := by grind
  apply Classical.byContradiction
  intro w
  have := mul_le_pos (a := a) (b := c / b) (by grind) hb
  grind
theorem phi_lt {lo hi x : Rat} {m : Int} (h : lo < hi) (h1 : lo + (m : Rat) * (hi - lo) ≤ x) (h2 : x < lo + ((m : Rat) + 1) * (hi - lo)) : phi lo hi x = gm lo hi m x := by
  have e : ((x - lo) / (hi - lo)).floor = m := floor_is (le_div (by grind) (by grind)) (div_lt (by grind) (by grind))
  unfold phi gm
  rw [e]
  split <;> grind
theorem phi_cell {lo hi x : Rat} {m : Int} (h : lo < hi) (h1 : lo + (m : Rat) * (hi - lo) ≤ x) (h2 : x ≤ lo + ((m : Rat) + 1) * (hi - lo)) : phi lo hi x = gm lo hi m x := by
  by_cases e : x < lo + ((m : Rat) + 1) * (hi - lo)
  · exact phi_lt h h1 e
  · have e : x = lo + ((m : Rat) + 1) * (hi - lo) := by grind
    have c : ((m + 1 : Int) : Rat) = (m : Rat) + 1 := by push_cast; rfl
    rw [phi_lt (m := m + 1) h (by rw [c]; grind) (by rw [c]; grind)]
    unfold gm
    rw [c]
    by_cases ev : m % 2 = 0
    · have : ¬ (m + 1) % 2 = 0 := by omega
      rw [if_pos ev, if_neg this]
      grind
    · have : (m + 1) % 2 = 0 := by omega
      rw [if_neg ev, if_pos this]
      grind
section
variable {lo hi p0 d0 : I3 → Rat} {n : Cnt} {s t : Rat} {k : I3}
theorem fold_val (bx : Bx lo hi p0) (v : Val lo hi p0 d0 n t) : PP lo hi p0 d0 n t k = phi (lo k) (hi k) (p0 k + d0 k * t) := by
  have b1 := bx.l k
  have b2 := bx.h k
  by_cases h : d0 k = 0
  · rw [PP_zero v h, h, phi_cell (m := 0) (by grind) (by grind) (by grind)]
    unfold gm
    have c : ((0 : Int) : Rat) = 0 := rfl
    rw [if_pos (by decide), c]
    grind
  · obtain ⟨c1, c2⟩ := cell bx v h
    by_cases g : 0 < d0 k
    · obtain ⟨a1, a2, a3⟩ := c1 g
      have c : (((n k : Nat) : Int) : Rat) = (n k : Rat) := rfl
      unfold sd at *
      rw [phi_cell (m := (n k : Int)) (by grind) (by rw [c]; grind) (by rw [c]; grind)]
      unfold PP gm mm
      rw [c]
      by_cases ev : n k % 2 = 0
      · have : ((n k : Nat) : Int) % 2 = 0 := by omega
        rw [if_pos ev, if_pos this, if_pos g]
        unfold sd; grind
      · have : ¬ ((n k : Nat) : Int) % 2 = 0 := by omega
        rw [if_neg ev, if_neg this, if_pos g]
        unfold sd; grind
    · obtain ⟨a1, a2, a3⟩ := c2 (by grind)
      have c : ((-((n k : Nat) : Int) : Int) : Rat) = -(n k : Rat) := by push_cast; rfl
      unfold sd at *
      rw [phi_cell (m := -(n k : Int)) (by grind) (by rw [c]; grind) (by rw [c]; grind)]
      unfold PP gm mm
      rw [c]
      by_cases ev : n k % 2 = 0
      · have : (-((n k : Nat) : Int)) % 2 = 0 := by omega
        rw [if_pos ev, if_pos this, if_neg g]
        unfold sd; grind
      · have : ¬ (-((n k : Nat) : Int)) % 2 = 0 := by omega
        rw [if_neg ev, if_neg this, if_neg g]
        unfold sd; grind
/-- a time between: one stands there -/
theorem val_mid (hd : ∃ k, d0 k ≠ 0) (v : Val lo hi p0 d0 n s) (h1 : s ≤ t) (h2 : t < tm lo hi p0 d0 n) : Val lo hi p0 d0 n t := by
  obtain ⟨_, _, h4⟩ := tm_spec (lo := lo) (hi := hi) (p0 := p0) (n := n) hd
  refine ⟨v.z, fun k hk => ?_, fun k hk hn => ?_, ?_⟩
  · have := h4 k hk; grind
  · have := v.l k hk hn; grind
  · have := v.p; grind
/-! ### back again -/
def per (lo hi d0 : I3 → Rat) (k : I3) : Rat := (hi k - lo k) * 2 / ab (d0 k)
theorem home_ok (bx : Bx lo hi p0) (v : Val lo hi p0 d0 n t) (hm : ∀ k, d0 k ≠ 0 → ∃ i : Nat, t = (i : Rat) * per lo hi d0 k) : PP lo hi p0 d0 n t = p0 ∧ DD d0 n = d0 := by
  have key : ∀ k, PP lo hi p0 d0 n t k = p0 k ∧ DD d0 n k = d0 k := by
    intro k
    have b1 := bx.l k
    have b2 := bx.h k
    by_cases h : d0 k = 0
    · refine ⟨PP_zero v h, ?_⟩
      unfold DD
      rw [v.z k h]
      rfl
    · obtain ⟨i, e⟩ := hm k h
      obtain ⟨c1, c2⟩ := cell bx v h
      have c : (((2 * i : Nat)) : Rat) = 2 * (i : Rat) := by push_cast; rfl
      have hsd : 0 < hi k - lo k := by grind
      have cmp : ∀ a b : Nat, (a : Rat) * (hi k - lo k) < (b : Rat) * (hi k - lo k) + (hi k - lo k) → a ≤ b := by
        intro a b hab
        apply Classical.byContradiction
        intro w
        have w : (b : Rat) + 1 ≤ (a : Rat) := by
          have : b + 1 ≤ a := by omega
          exact_mod_cast this
        have := mul_le_pos w hsd
        grind
      have en : n k = 2 * i := by
        unfold per ab at e
        by_cases g : 0 < d0 k
        · obtain ⟨a1, a2, a3⟩ := c1 g
          rw [if_pos g] at e
          have e2 : d0 k * t = 2 * (i : Rat) * (hi k - lo k) := by rw [e]; grind
          rw [e2] at a1 a2
          unfold sd at *
          have x1 := cmp (n k) (2 * i) (by rw [c]; grind)
          have x2 := cmp (2 * i) (n k) (by rw [c]; grind)
          omega
        · obtain ⟨a1, a2, a3⟩ := c2 (by grind)
          rw [if_neg g] at e
          have e2 : d0 k * t = -(2 * (i : Rat) * (hi k - lo k)) := by
            rw [e]
            have : -(d0 k) ≠ 0 := by grind
            grind
          rw [e2] at a1 a2
          unfold sd at *
          have x1 := cmp (n k) (2 * i) (by rw [c]; grind)
          have x2 := cmp (2 * i) (n k) (by rw [c]; grind)
          omega
      have ev : n k % 2 = 0 := by omega
      unfold PP DD mm sd
      rw [if_pos ev, if_pos ev, en, c]
      refine ⟨?_, rfl⟩
      unfold per ab at e
      by_cases g : 0 < d0 k
      · rw [if_pos g] at e ⊢
        rw [e]; grind
      · rw [if_neg g] at e ⊢
        rw [e]
        have : -(d0 k) ≠ 0 := by grind
        grind
  exact ⟨funext fun k => (key k).1, funext fun k => (key k).2⟩
theorem back_mul (h1 : PP lo hi p0 d0 n t = p0) (h2 : DD d0 n = d0) (h : d0 k ≠ 0) : ∃ i : Nat, t = (i : Rat) * per lo hi d0 k := by
  have e1 := congrFun h1 k
  have e2 := congrFun h2 k
  unfold DD at e2
  by_cases ev : n k % 2 = 0
  · refine ⟨n k / 2, ?_⟩
    unfold PP at e1
    rw [if_pos ev] at e1
    have c : (n k : Rat) = 2 * ((n k / 2 : Nat) : Rat) := by
      have : n k = 2 * (n k / 2) := by omega
      have : (n k : Rat) = ((2 * (n k / 2) : Nat) : Rat) := by rw [← this]
      rw [this]; push_cast; rfl
    unfold per ab
    unfold mm sd at e1
    rw [c] at e1
    generalize ((n k / 2 : Nat) : Rat) = i at *
    by_cases g : 0 < d0 k
    · rw [if_pos g] at e1 ⊢
      grind
    · rw [if_neg g] at e1 ⊢
      have : -(d0 k) ≠ 0 := by grind
      grind
  · rw [if_neg ev] at e2
    grind
end
/-- the least that is a whole number of times each of two -/
def lcmQ (a b : Rat) : Rat := b * (((a / b).num : Int) : Rat)
theorem lcmQ_pos {a b : Rat} (ha : 0 < a) (hb : 0 < b) : 0 < lcmQ a b ∧ (∃ i : Nat, lcmQ a b = (i : Rat) * b) ∧ (∃ i : Nat, lcmQ a b = (i : Rat) * a) := by
  have hq : 0 < a / b := by
    have e : (a / b) * b = a := by grind
    apply Classical.byContradiction
    intro w
    by_cases z : a / b = 0
    · rw [z] at e; grind
    · have w : 0 < -(a / b) := by grind
      have := Rat.mul_pos w hb
      grind
  have hn : 0 < (a / b).num := by
    have := (Rat.lt_iff 0 (a / b)).mp hq
    simpa using this
  have e1 : (((a / b).num : Int) : Rat) = (((a / b).num.toNat : Nat) : Rat) := by
    have : (a / b).num = (((a / b).num.toNat : Nat) : Int) := by omega
    conv => lhs; rw [this]
    rfl
  have e2 : (((a / b).num : Int) : Rat) * b = (((a / b).den : Int) : Rat) * a := by
    have := rat_nd (a / b)
    have hd := den_ne (a / b)
    have e : (a / b) * b = a := by grind
    have e3 : (a / b) * (((a / b).den : Int) : Rat) = (((a / b).num : Int) : Rat) := by
      conv => lhs; arg 1; rw [this]
      grind
    rw [← e3]
    grind
  refine ⟨?_, ⟨(a / b).num.toNat, ?_⟩, ⟨(a / b).den, ?_⟩⟩
  · unfold lcmQ
    have : (0 : Rat) < (((a / b).num : Int) : Rat) := by exact_mod_cast hn
    exact Rat.mul_pos hb this
  · unfold lcmQ
    rw [← e1]; grind
  · unfold lcmQ
    have c : (((a / b).den : Int) : Rat) = ((a / b).den : Rat) := rfl
    rw [← c, ← e2]; grind
theorem lcmQ_dvd {a b x : Rat} (ha : 0 < a) (hb : 0 < b) {i j : Int} (h1 : x = (i : Rat) * a) (h2 : x = (j : Rat) * b) : ∃ l : Int, x = (l : Rat) * lcmQ a b := by
  have hd := den_ne (a / b)
  have e3 : (a / b) * (((a / b).den : Int) : Rat) = (((a / b).num : Int) : Rat) := by
    conv => lhs; arg 1; rw [rat_nd (a / b)]
    grind
  have e4 : (i : Rat) * (((a / b).num : Int) : Rat) = (j : Rat) * (((a / b).den : Int) : Rat) := by
    rw [← e3]
    have : (i : Rat) * a = (j : Rat) * b := by rw [← h1, ← h2]
    grind
  have e5 : i * (a / b).num = j * ((a / b).den : Int) := by exact_mod_cast e4
  have cop : Nat.Coprime (a / b).den (a / b).num.natAbs := (a / b).reduced.symm
  have e6 := congrArg Int.natAbs e5
  rw [Int.natAbs_mul, Int.natAbs_mul, Int.natAbs_natCast] at e6
  have dv : (a / b).den ∣ i.natAbs * (a / b).num.natAbs := ⟨j.natAbs, by rw [e6]; exact Nat.mul_comm _ _⟩
  have dv1 : (a / b).den ∣ i.natAbs := cop.dvd_of_dvd_mul_right dv
  have dv2 : ((a / b).den : Int) ∣ i := Int.natAbs_dvd_natAbs.mp (by rw [Int.natAbs_natCast]; exact dv1)
  obtain ⟨l, hl⟩ := dv2
  refine ⟨l, ?_⟩
  rw [h1, hl]
  unfold lcmQ
  rw [← e3, Rat.intCast_mul]
  grind
end FM

set_option Elab.async false
set_option linter.all false
set_option maxRecDepth 100000
set_option maxHeartbeats 4000000
/-! V6: the law's folding, turn by turn; which faces. -/
namespace FM
/-- one turn -/
def fold1 (lo hi x : Rat) : Rat := if 0 < lo - x then 2 * lo - x else if 0 < x - hi then 2 * hi - x else x
def foldN (lo hi : Rat) : Nat → Rat → Rat
  | 0, x => x
  | n + 1, x => foldN lo hi n (fold1 lo hi x)
def wt (m : Int) : Nat := if 0 < m then (2 * m - 1).toNat else (-2 * m).toNat
theorem foldN_in {lo hi x : Rat} (h1 : lo ≤ x) (h2 : x ≤ hi) : ∀ n, foldN lo hi n x = x
  | 0 => rfl
  | n + 1 => by
    unfold foldN
    have e : fold1 lo hi x = x := by
      unfold fold1
      rw [if_neg (by grind), if_neg (by grind)]
    rw [e, foldN_in h1 h2 n]
theorem foldN_cell {lo hi : Rat} (h : lo < hi) : ∀ (n : Nat) (m : Int) (x : Rat), lo + (m : Rat) * (hi - lo) ≤ x → x ≤ lo + ((m : Rat) + 1) * (hi - lo) → wt m ≤ n → foldN lo hi n x = gm lo hi m x := by
  intro n
  induction n with
  | zero =>
    intro m x h1 h2 hw
    have hm : m = 0 := by
      unfold wt at hw
      split at hw <;> omega
    subst hm
    unfold foldN gm
    have c : ((0 : Int) : Rat) = 0 := rfl
    rw [if_pos (by decide), c]
    grind
  | succ n ih =>
    intro m x h1 h2 hw
    have hsd : 0 < hi - lo := by grind
    by_cases hm : m = 0
    · subst hm
      have c : ((0 : Int) : Rat) = 0 := rfl
      rw [c] at h1 h2
      rw [foldN_in (by grind) (by grind)]
      unfold gm
      rw [if_pos (by decide), c]
      grind
    · by_cases hp : 0 < m
      · have hm1 : (1 : Rat) ≤ (m : Rat) := by exact_mod_cast hp
        have := mul_le_pos hm1 hsd
        by_cases hx : 0 < x - hi
        · have e : fold1 lo hi x = 2 * hi - x := by
            unfold fold1
            rw [if_neg (by grind), if_pos hx]
          unfold foldN
          have c : ((1 - m : Int) : Rat) = 1 - (m : Rat) := by push_cast; rfl
          rw [e, ih (1 - m) (2 * hi - x) (by rw [c]; grind) (by rw [c]; grind) (by unfold wt at hw ⊢; split at hw <;> split <;> omega)]
          unfold gm
          rw [c]
          by_cases ev : m % 2 = 0
          · have : ¬ (1 - m) % 2 = 0 := by omega
            rw [if_pos ev, if_neg this]; grind
          · have : (1 - m) % 2 = 0 := by omega
            rw [if_neg ev, if_pos this]; grind
        · have e : x = hi := by grind
          have em : m = 1 := by
            apply Classical.byContradiction
            intro w
            have w2 : (2 : Rat) ≤ (m : Rat) := by
              have : (2 : Int) ≤ m := by omega
              exact_mod_cast this
            have := mul_le_pos w2 hsd
            grind
          rw [foldN_in (by grind) (by grind)]
          subst em
          unfold gm
          have c : ((1 : Int) : Rat) = 1 := rfl
          rw [if_neg (by decide), c]
          grind
      · have hm1 : (m : Rat) ≤ -1 := by
          have : m + 1 ≤ 0 := by omega
          have c1 : ((m + 1 : Int) : Rat) = (m : Rat) + 1 := by push_cast; rfl
          have : ((m + 1 : Int) : Rat) ≤ 0 := by exact_mod_cast this
          grind
        have := mul_le_pos hm1 hsd
        by_cases hx : 0 < lo - x
        · have e : fold1 lo hi x = 2 * lo - x := by
            unfold fold1
            rw [if_pos hx]
          unfold foldN
          have c : ((-m - 1 : Int) : Rat) = -(m : Rat) - 1 := by push_cast; rfl
          rw [e, ih (-m - 1) (2 * lo - x) (by rw [c]; grind) (by rw [c]; grind) (by unfold wt at hw ⊢; split at hw <;> split <;> omega)]
          unfold gm
          rw [c]
          by_cases ev : m % 2 = 0
          · have : ¬ (-m - 1) % 2 = 0 := by omega
            rw [if_pos ev, if_neg this]; grind
          · have : (-m - 1) % 2 = 0 := by omega
            rw [if_neg ev, if_pos this]; grind
        · have e : x = lo := by grind
          have em : m = -1 := by
            apply Classical.byContradiction
            intro w
            have w2 : (m : Rat) ≤ -2 := by
              have : m + 2 ≤ 0 := by omega
              have c1 : ((m + 2 : Int) : Rat) = (m : Rat) + 2 := by push_cast; rfl
              have : ((m + 2 : Int) : Rat) ≤ 0 := by exact_mod_cast this
              grind
            have := mul_le_pos w2 hsd
            grind
          rw [foldN_in (by grind) (by grind)]
          subst em
          unfold gm
          have c : ((-1 : Int) : Rat) = -1 := rfl
          rw [if_neg (by decide), c]
          grind
/-- within 68 cells: two hundred turns are enough -/
theorem foldN_phi {lo hi x : Rat} (h : lo < hi) (h1 : lo - 90 * (hi - lo) ≤ x) (h2 : x ≤ lo + 90 * (hi - lo)) : foldN lo hi 200 x = phi lo hi x := by
  have hsd : 0 < hi - lo := by grind
  have a1 : -90 ≤ (x - lo) / (hi - lo) := le_div hsd (by grind)
  have a2 : (x - lo) / (hi - lo) ≤ 90 := by
    have e : ((x - lo) / (hi - lo)) * (hi - lo) = x - lo := by grind
    apply Classical.byContradiction
    intro w
    have := mul_lt_pos (a := 90) (b := (x - lo) / (hi - lo)) (by grind) hsd
    grind
  have f1 := Rat.floor_le ((x - lo) / (hi - lo))
  have f2 := Rat.lt_floor_add_one ((x - lo) / (hi - lo))
  have g1 : (-90 : Int) ≤ ((x - lo) / (hi - lo)).floor := Rat.le_floor_iff.mpr (by exact a1)
  have g2 : ((x - lo) / (hi - lo)).floor < 91 := Rat.floor_lt_iff.mpr (by have c : ((91 : Int) : Rat) = 91 := rfl; rw [c]; grind)
  generalize hm : ((x - lo) / (hi - lo)).floor = m at *
  have c : ((m + 1 : Int) : Rat) = (m : Rat) + 1 := by push_cast; rfl
  rw [c] at f2
  have e : ((x - lo) / (hi - lo)) * (hi - lo) = x - lo := by grind
  have m1 := mul_le_pos f1 hsd
  have m2 := mul_lt_pos f2 hsd
  rw [foldN_cell h 200 m x (by grind) (by grind) (by unfold wt; split <;> omega), phi_cell h (m := m) (by grind) (by grind)]
/-! ### which face -/
theorem den_int {q : Rat} {z : Int} (h : q = (z : Rat)) : q.den = 1 ∧ q.num = z := by subst h; exact ⟨Rat.den_intCast z, Rat.num_intCast z⟩
theorem den_not {q : Rat} {z : Int} (h1 : (z : Rat) < q) (h2 : q < (z : Rat) + 1) : q.den ≠ 1 := by
  intro e
  have hq : q = (q.num : Rat) := by
    conv => lhs; rw [rat_nd q]
    rw [e]
    have : (((1 : Nat) : Int) : Rat) = 1 := rfl
    rw [this]
    grind
  rw [hq] at h1 h2
  have a : z < q.num := by exact_mod_cast h1
  have c : ((z + 1 : Int) : Rat) = (z : Rat) + 1 := by push_cast; rfl
  rw [← c] at h2
  have b : q.num < z + 1 := by exact_mod_cast h2
  omega
section
variable {lo hi p0 d0 : I3 → Rat} {n : Cnt} {s : Rat} {k : I3}
def trn (lo hi p0 d0 : I3 → Rat) (t : Rat) (k : I3) : Rat := (p0 k + d0 k * t - lo k) / (hi k - lo k)
theorem trn_hit (hd : ∃ k, d0 k ≠ 0) (bx : Bx lo hi p0) (m : k ∈ sN lo hi p0 d0 n) : (trn lo hi p0 d0 (tm lo hi p0 d0 n) k).den = 1 ∧ ((trn lo hi p0 d0 (tm lo hi p0 d0 n) k).num % 2 = 1 ↔ 0 < DD d0 n k) := by
  obtain ⟨m1, m2⟩ := (mem_sN hd).mp m
  have e := nx_mul (lo := lo) (hi := hi) (p0 := p0) (n := n) m1
  have b1 := bx.l k
  have b2 := bx.h k
  have hsd : hi k - lo k ≠ 0 := by grind
  rw [← m2]
  by_cases g : 0 < d0 k
  · have q : trn lo hi p0 d0 (nx lo hi p0 d0 n k) k = (((n k : Int) + 1 : Int) : Rat) := by
      unfold trn
      have c : (((n k : Int) + 1 : Int) : Rat) = (n k : Rat) + 1 := by push_cast; rfl
      rw [e, c]
      unfold lvl mm sd
      simp only [g, if_true, decide_true]
      grind
    obtain ⟨h1, h2⟩ := den_int q
    refine ⟨h1, ?_⟩
    rw [h2]
    unfold DD
    by_cases ev : n k % 2 = 0
    · rw [if_pos ev]
      constructor
      · intro _; exact g
      · intro _; omega
    · rw [if_neg ev]
      constructor
      · intro w; omega
      · intro w; grind
  · have q : trn lo hi p0 d0 (nx lo hi p0 d0 n k) k = ((-(n k : Int) : Int) : Rat) := by
      unfold trn
      have c : ((-(n k : Int) : Int) : Rat) = -(n k : Rat) := by push_cast; rfl
      rw [e, c]
      unfold lvl mm sd
      simp only [g, if_false, decide_false, Bool.false_eq_true]
      grind
    obtain ⟨h1, h2⟩ := den_int q
    refine ⟨h1, ?_⟩
    rw [h2]
    unfold DD
    by_cases ev : n k % 2 = 0
    · rw [if_pos ev]
      constructor
      · intro w; omega
      · intro w; exact absurd w g
    · rw [if_neg ev]
      constructor
      · intro _; grind
      · intro _; omega
theorem trn_miss (hd : ∃ k, d0 k ≠ 0) (bx : Bx lo hi p0) (v : Val lo hi p0 d0 n s) (h : d0 k ≠ 0) (m : k ∉ sN lo hi p0 d0 n) : (trn lo hi p0 d0 (tm lo hi p0 d0 n) k).den ≠ 1 := by
  obtain ⟨_, _, h4⟩ := tm_spec (lo := lo) (hi := hi) (p0 := p0) (n := n) hd
  obtain ⟨v2, hst⟩ := val_step hd bx v
  have w := h4 k h
  have ne : nx lo hi p0 d0 n k ≠ tm lo hi p0 d0 n := fun e => m ((mem_sN hd).mpr ⟨h, e⟩)
  have hlt : tm lo hi p0 d0 n < nx lo hi p0 d0 n k := by grind
  have e := nx_mul (lo := lo) (hi := hi) (p0 := p0) (n := n) h
  have b1 := bx.l k
  have b2 := bx.h k
  have hsd : 0 < hi k - lo k := by grind
  obtain ⟨c1, c2⟩ := cell bx v h
  by_cases g : 0 < d0 k
  · obtain ⟨a1, a2, a3⟩ := c1 g
    have l1 := mul_lt_pos hlt g
    have l2 := mul_lt_pos hst g
    rw [e] at l1
    unfold lvl mm at l1
    simp only [g, if_true, decide_true] at l1
    unfold sd at *
    have c : (((n k : Nat) : Int) : Rat) = (n k : Rat) := rfl
    refine den_not (z := (n k : Int)) ?_ ?_
    · unfold trn
      rw [c]
      have e3 : ((p0 k + d0 k * tm lo hi p0 d0 n - lo k) / (hi k - lo k)) * (hi k - lo k) = p0 k + d0 k * tm lo hi p0 d0 n - lo k := by grind
      apply Classical.byContradiction
      intro w
      have := mul_le_pos (a := (p0 k + d0 k * tm lo hi p0 d0 n - lo k) / (hi k - lo k)) (b := (n k : Rat)) (by grind) hsd
      grind
    · unfold trn
      rw [c]
      exact div_lt hsd (by grind)
  · obtain ⟨a1, a2, a3⟩ := c2 (by grind)
    have l1 := mul_lt_neg hlt (by grind : d0 k < 0)
    have l2 := mul_lt_neg hst (by grind : d0 k < 0)
    rw [e] at l1
    unfold lvl mm at l1
    simp only [g, if_false, decide_false, Bool.false_eq_true] at l1
    unfold sd at *
    have c : ((-((n k : Nat) : Int) : Int) : Rat) = -(n k : Rat) := by push_cast; rfl
    refine den_not (z := -(n k : Int)) ?_ ?_
    · unfold trn
      rw [c]
      have e3 : ((p0 k + d0 k * tm lo hi p0 d0 n - lo k) / (hi k - lo k)) * (hi k - lo k) = p0 k + d0 k * tm lo hi p0 d0 n - lo k := by grind
      apply Classical.byContradiction
      intro w
      have := mul_le_pos (a := (p0 k + d0 k * tm lo hi p0 d0 n - lo k) / (hi k - lo k)) (b := -(n k : Rat)) (by grind) hsd
      grind
    · unfold trn
      rw [c]
      exact div_lt hsd (by grind)
end
end FM

set_option Elab.async false
set_option linter.all false
set_option maxRecDepth 100000
set_option maxHeartbeats 4000000
/-! V7: sizes of all that is met on the way. -/
namespace FM
def IsZ (q : Rat) : Prop := ∃ z : Int, q = (z : Rat)
theorem IsZ.int (z : Int) : IsZ (z : Rat) := ⟨z, rfl⟩
theorem IsZ.nat (z : Nat) : IsZ (z : Rat) := ⟨(z : Int), rfl⟩
theorem IsZ.add {x y : Rat} (h : IsZ x) (g : IsZ y) : IsZ (x + y) := by
  obtain ⟨a, rfl⟩ := h
  obtain ⟨b, rfl⟩ := g
  exact ⟨a + b, by push_cast; rfl⟩
theorem IsZ.sub {x y : Rat} (h : IsZ x) (g : IsZ y) : IsZ (x - y) := by
  obtain ⟨a, rfl⟩ := h
  obtain ⟨b, rfl⟩ := g
  exact ⟨a - b, by push_cast; rfl⟩
theorem IsZ.mul {x y : Rat} (h : IsZ x) (g : IsZ y) : IsZ (x * y) := by
  obtain ⟨a, rfl⟩ := h
  obtain ⟨b, rfl⟩ := g
  exact ⟨a * b, by push_cast; rfl⟩
theorem IsZ.neg {x : Rat} (h : IsZ x) : IsZ (-x) := by
  obtain ⟨a, rfl⟩ := h
  exact ⟨-a, by push_cast; rfl⟩
theorem IsZ.of {x y : Rat} (h : IsZ x) (e : x = y) : IsZ y := e ▸ h
theorem IsZ.lit (z : Int) {x : Rat} (e : x = (z : Rat)) : IsZ x := ⟨z, e⟩
/-- a lattice number: its size, its denominator -/
theorem lat_fr {q : Rat} {N : Nat} {z : Int} (hN : 0 < N) (h : q * (N : Rat) = (z : Rat)) : pq q = fr z (N : Int) := by
  have hN' : (N : Int) ≠ 0 := by omega
  rw [fr_pq z hN']
  congr 1
  have c : (((N : Nat) : Int) : Rat) = (N : Rat) := rfl
  have : (N : Rat) ≠ 0 := by
    have : 0 < (N : Rat) := by exact_mod_cast hN
    grind
  rw [c, ← h]
  grind
theorem lat_sz {q : Rat} {N k : Nat} (hN : 0 < N) (hz : IsZ (q * (N : Rat))) (hk : N < 2 ^ k) {B : Nat} (h1 : -(B : Rat) ≤ q) (h2 : q ≤ (B : Rat)) (hb : B * N < 2 ^ k) : Sz k q := by
  obtain ⟨z, h⟩ := hz
  have p : 0 < (N : Rat) := by exact_mod_cast hN
  have e := lat_fr hN h
  have m1 := mul_le_pos h1 p
  have m2 := mul_le_pos h2 p
  have z1 : z ≤ ((B * N : Nat) : Int) := by
    have : (z : Rat) ≤ (((B * N : Nat) : Int) : Rat) := by
      have c : (((B * N : Nat) : Int) : Rat) = (B : Rat) * (N : Rat) := by
        show ((B * N : Nat) : Rat) = _
        push_cast; rfl
      rw [c, ← h]; grind
    exact Rat.intCast_le_intCast.mp this
  have z2 : -((B * N : Nat) : Int) ≤ z := by
    have : ((-((B * N : Nat) : Int) : Int) : Rat) ≤ (z : Rat) := by
      have c : ((-((B * N : Nat) : Int) : Int) : Rat) = -((B : Rat) * (N : Rat)) := by push_cast; rfl
      rw [c, ← h]; grind
    exact Rat.intCast_le_intCast.mp this
  refine Sz.of ?_
  rw [e]
  refine fr_fq ?_ ?_ (by omega)
  · unfold Sm; omega
  · unfold Sm; omega
theorem lat_den {q : Rat} {N : Nat} (hN : 0 < N) (hz : IsZ (q * (N : Rat))) : q.den ≤ N := by
  obtain ⟨z, h⟩ := hz
  have e := lat_fr hN h
  have hN' : (N : Int) ≠ 0 := by omega
  obtain ⟨_, h2, h3, _⟩ := fr_spec z hN'
  have e2 : (q.den : Int) = (fr z (N : Int)).2 := congrArg Prod.snd e
  rw [← e2] at h2 h3
  have g0 : gs z (N : Int) ≠ 0 := gs_ne z hN'
  have gp : 0 < gs z (N : Int) := by
    apply Classical.byContradiction
    intro w
    have w : gs z (N : Int) < 0 := by omega
    have := Int.mul_neg_of_pos_of_neg h3 w
    omega
  have := Int.mul_le_mul_of_nonneg_left (show 1 ≤ gs z (N : Int) by omega) (show (0 : Int) ≤ (q.den : Int) by omega)
  omega
/-- as drawn -/
structure Dr (lo hi p0 d0 : I3 → Rat) : Prop where
  l6 : ∀ k, IsZ (lo k * 6)
  lb : ∀ k, -4 ≤ lo k ∧ lo k ≤ 4
  s2 : ∀ k, IsZ ((hi k - lo k) * 2)
  sb : ∀ k, 1 / 2 ≤ hi k - lo k ∧ hi k - lo k ≤ 5
  p48 : ∀ k, IsZ (p0 k * 48)
  d6 : ∀ k, IsZ (d0 k * 6)
  db : ∀ k, -3 ≤ d0 k ∧ d0 k ≤ 3
  bx : Bx lo hi p0
  hd : ∃ k, d0 k ≠ 0
/-- a time at a face, so many faces on -/
structure AtE (i : Nat) (s : Rat) : Prop where
  y : ∃ Y : Nat, 1 ≤ Y ∧ Y ≤ 18 ∧ IsZ (s * ((8 * Y : Nat) : Rat))
  l : 0 ≤ s
  u : s ≤ 30 * (i : Rat)
section
variable {lo hi p0 d0 : I3 → Rat} (h : Dr lo hi p0 d0) {n : Cnt} {s : Rat} {k : I3}
include h
theorem y_of (hk : d0 k ≠ 0) : ∃ Y : Nat, 1 ≤ Y ∧ Y ≤ 18 ∧ ab (d0 k) * 6 = (Y : Rat) := by
  obtain ⟨z, hz⟩ := h.d6 k
  obtain ⟨b1, b2⟩ := h.db k
  have hz18 : z ≤ 18 := by
    have : (z : Rat) ≤ ((18 : Int) : Rat) := by
      have c : ((18 : Int) : Rat) = 18 := rfl
      rw [c, ← hz]; grind
    exact Rat.intCast_le_intCast.mp this
  have hz18' : -18 ≤ z := by
    have : ((-18 : Int) : Rat) ≤ (z : Rat) := by
      have c : ((-18 : Int) : Rat) = -18 := rfl
      rw [c, ← hz]; grind
    exact Rat.intCast_le_intCast.mp this
  have hz0 : z ≠ 0 := by
    rintro rfl
    have c : ((0 : Int) : Rat) = 0 := rfl
    rw [c] at hz
    grind
  refine ⟨z.natAbs, by omega, by omega, ?_⟩
  have c : ((z.natAbs : Nat) : Rat) = (((z.natAbs : Nat) : Int) : Rat) := rfl
  rw [c]
  unfold ab
  by_cases g : 0 < d0 k
  · have hp : 0 < z := by
      have : ((0 : Int) : Rat) < (z : Rat) := by
        have c : ((0 : Int) : Rat) = 0 := rfl
        rw [c, ← hz]; grind
      exact Rat.intCast_lt_intCast.mp this
    have e : ((z.natAbs : Nat) : Int) = z := by omega
    rw [if_pos g, e, hz]
  · have hp : z < 0 := by
      have : (z : Rat) < ((0 : Int) : Rat) := by
        have c : ((0 : Int) : Rat) = 0 := rfl
        rw [c, ← hz]; grind
      exact Rat.intCast_lt_intCast.mp this
    have e : ((z.natAbs : Nat) : Int) = -z := by omega
    rw [if_neg g, e]
    have c2 : ((-z : Int) : Rat) = -(z : Rat) := by push_cast; rfl
    rw [c2, ← hz]; grind
theorem h6 (k : I3) : IsZ (hi k * 6) := ((h.l6 k).add ((h.s2 k).mul (IsZ.lit 3 rfl))).of (by grind)
/-- the times of a side -/
theorem bb_z (hk : d0 k ≠ 0) {Y : Nat} (hY : ab (d0 k) * 6 = (Y : Rat)) : IsZ (bb lo hi p0 d0 k * ((8 * Y : Nat) : Rat)) := by
  have c : ((8 * Y : Nat) : Rat) = 8 * (Y : Rat) := by push_cast; rfl
  rw [c, ← hY]
  have p := h.p48 k
  have l := h.l6 k
  have u := h6 h k
  unfold bb ab lvl
  by_cases g : 0 < d0 k
  · simp only [g, if_true, decide_true]
    exact ((u.mul (IsZ.lit 8 rfl)).sub p).of (by grind)
  · simp only [g, if_false, decide_false, Bool.false_eq_true]
    exact (p.sub (l.mul (IsZ.lit 8 rfl))).of (by grind)
theorem ee_z (hk : d0 k ≠ 0) {Y : Nat} (hY : ab (d0 k) * 6 = (Y : Rat)) : IsZ (ee lo hi d0 k * ((8 * Y : Nat) : Rat)) := by
  have c : ((8 * Y : Nat) : Rat) = 8 * (Y : Rat) := by push_cast; rfl
  rw [c, ← hY]
  have := ab_pos hk
  unfold ee sd
  exact ((h.s2 k).mul (IsZ.lit 24 rfl)).of (by grind)
theorem ee_le (hk : d0 k ≠ 0) : ee lo hi d0 k ≤ 30 ∧ bb lo hi p0 d0 k ≤ 30 ∧ 0 < bb lo hi p0 d0 k ∧ 1 / 6 ≤ ee lo hi d0 k := by
  obtain ⟨Y, y1, y2, hY⟩ := y_of h hk
  have hY1 : (1 : Rat) ≤ (Y : Rat) := by exact_mod_cast y1
  have hY2 : (Y : Rat) ≤ 18 := by exact_mod_cast y2
  obtain ⟨s1, s2⟩ := h.sb k
  have ap := ab_pos hk
  have b1 := h.bx.l k
  have b2 := h.bx.h k
  have e1 : ee lo hi d0 k * ab (d0 k) = hi k - lo k := by unfold ee sd; grind
  have e20 : bb lo hi p0 d0 k * ab (d0 k) = if 0 < d0 k then hi k - p0 k else p0 k - lo k := by
    unfold bb ab lvl
    by_cases g : 0 < d0 k
    · simp only [g, if_true, decide_true]
      grind
    · simp only [g, if_false, decide_false, Bool.false_eq_true]
      grind
  have e2 : bb lo hi p0 d0 k * ab (d0 k) ≤ hi k - lo k ∧ 0 < bb lo hi p0 d0 k * ab (d0 k) := by
    rw [e20]
    split
    · exact ⟨by grind, by grind⟩
    · exact ⟨by grind, by grind⟩
  refine ⟨?_, ?_, ?_, ?_⟩
  · apply Classical.byContradiction
    intro w
    have := mul_lt_pos (a := 30) (b := ee lo hi d0 k) (by grind) ap
    grind
  · apply Classical.byContradiction
    intro w
    have := mul_lt_pos (a := 30) (b := bb lo hi p0 d0 k) (by grind) ap
    grind
  · apply Classical.byContradiction
    intro w
    have := mul_le_pos (a := bb lo hi p0 d0 k) (b := 0) (by grind) ap
    grind
  · apply Classical.byContradiction
    intro w
    have := mul_lt_pos (a := ee lo hi d0 k) (b := 1 / 6) (by grind) ap
    grind
theorem nx_z (hk : d0 k ≠ 0) {Y : Nat} (hY : ab (d0 k) * 6 = (Y : Rat)) : IsZ (nx lo hi p0 d0 n k * ((8 * Y : Nat) : Rat)) := by
  unfold nx
  exact ((bb_z h hk hY).add ((IsZ.nat (n k)).mul (ee_z h hk hY))).of (by grind)
theorem ate0 : AtE 0 0 := ⟨⟨1, by decide, by decide, IsZ.lit 0 (by grind)⟩, Rat.le_refl, by have : ((0 : Nat) : Rat) = 0 := rfl; rw [this]; grind⟩
theorem ate_next {i : Nat} (v : Val lo hi p0 d0 n s) (a : AtE i s) : AtE (i + 1) (tm lo hi p0 d0 n) := by
  obtain ⟨_, ⟨k, k1, k2⟩, k3⟩ := tm_spec (lo := lo) (hi := hi) (p0 := p0) (n := n) h.hd
  obtain ⟨Y, y1, y2, hY⟩ := y_of h k1
  obtain ⟨e1, e2, e3, e4⟩ := ee_le h k1
  have hst := v.u k k1
  have c : ((i + 1 : Nat) : Rat) = (i : Rat) + 1 := by push_cast; rfl
  have al := a.l
  have au := a.u
  refine ⟨⟨Y, y1, y2, by rw [← k2]; exact nx_z h k1 hY⟩, by rw [← k2]; grind, ?_⟩
  rw [← k2, c]
  by_cases z : n k = 0
  · unfold nx
    rw [z]
    have c : ((0 : Nat) : Rat) = 0 := rfl
    rw [c]
    grind
  · have := v.l k k1 z
    unfold nx
    grind
omit h in
theorem AtE.sz {i : Nat} (a : AtE i s) (hi : i ≤ 500) : Sz 24 s := by
  obtain ⟨Y, y1, y2, hz⟩ := a.y
  have al := a.l
  have au := a.u
  have hi' : (i : Rat) ≤ 500 := by exact_mod_cast hi
  have c : ((15000 : Nat) : Rat) = 15000 := rfl
  exact lat_sz (N := 8 * Y) (B := 15000) (by omega) hz (by omega) (by rw [c]; grind) (by rw [c]; grind) (by omega)
/-- places at faces -/
theorem PP_z {i : Nat} (a : AtE i s) : ∃ Y : Nat, 1 ≤ Y ∧ Y ≤ 18 ∧ ∀ k, IsZ (PP lo hi p0 d0 n s k * ((48 * Y : Nat) : Rat)) := by
  obtain ⟨Y, y1, y2, hz⟩ := a.y
  refine ⟨Y, y1, y2, fun k => ?_⟩
  have c : ((48 * Y : Nat) : Rat) = 48 * (Y : Rat) := by push_cast; rfl
  have c8 : ((8 * Y : Nat) : Rat) = 8 * (Y : Rat) := by push_cast; rfl
  rw [c]
  rw [c8] at hz
  have p := h.p48 k
  have l := h.l6 k
  have u := h6 h k
  have s2 := h.s2 k
  have d := h.d6 k
  have m : IsZ (mm d0 n k) := by
    unfold mm
    split
    · exact IsZ.nat _
    · exact (IsZ.nat _).neg
  have yz := IsZ.nat Y
  have t1 := (p.mul yz).add (d.mul hz)
  have t2 := ((m.mul s2).mul (IsZ.lit 24 rfl)).mul yz
  have t3 := ((u.add l).mul (IsZ.lit 8 rfl)).mul yz
  unfold PP sd
  split
  · exact (t1.sub t2).of (by grind)
  · exact ((t3.add t2).sub t1).of (by grind)
theorem PP_sz {i : Nat} (a : AtE i s) (v : Val lo hi p0 d0 n s) (k : I3) : Sz 16 (PP lo hi p0 d0 n s k) := by
  obtain ⟨Y, y1, y2, hz⟩ := PP_z (n := n) h a
  have g := goodv h.bx v
  have g1 := g.l k
  have g2 := g.h k
  have b := h.lb k
  have sb := h.sb k
  have c : ((9 : Nat) : Rat) = 9 := rfl
  exact lat_sz (N := 48 * Y) (B := 9) (by omega) (hz k) (by omega) (by rw [c]; grind) (by rw [c]; grind) (by omega)
theorem DD_sz (k : I3) : Sz 8 (DD d0 n k) := by
  have b := h.db k
  have d := h.d6 k
  have c : ((3 : Nat) : Rat) = 3 := rfl
  have c6 : ((6 : Nat) : Rat) = 6 := rfl
  refine lat_sz (N := 6) (B := 3) (by omega) ?_ (by omega) ?_ ?_ (by omega)
  · rw [c6]
    unfold DD
    split
    · exact d
    · exact d.neg.of (by grind)
  · rw [c]; unfold DD; split <;> grind
  · rw [c]; unfold DD; split <;> grind
theorem lo_sz (k : I3) : Sz 8 (lo k) := by
  have b := h.lb k
  have c : ((4 : Nat) : Rat) = 4 := rfl
  exact lat_sz (N := 6) (B := 4) (by omega) (h.l6 k) (by omega) (by rw [c]; grind) (by rw [c]; grind) (by omega)
theorem hi_sz (k : I3) : Sz 8 (hi k) := by
  have b := h.lb k
  have sb := h.sb k
  have c : ((9 : Nat) : Rat) = 9 := rfl
  exact lat_sz (N := 6) (B := 9) (by omega) (h6 h k) (by omega) (by rw [c]; grind) (by rw [c]; grind) (by omega)
theorem p0_sz (k : I3) : Sz 10 (p0 k) := by
  have b := h.lb k
  have sb := h.sb k
  have b1 := h.bx.l k
  have b2 := h.bx.h k
  have c : ((9 : Nat) : Rat) = 9 := rfl
  exact lat_sz (N := 48) (B := 9) (by omega) (h.p48 k) (by omega) (by rw [c]; grind) (by rw [c]; grind) (by omega)
theorem d0_sz (k : I3) : Sz 8 (d0 k) := by
  have b := h.db k
  have c : ((3 : Nat) : Rat) = 3 := rfl
  exact lat_sz (N := 6) (B := 3) (by omega) (h.d6 k) (by omega) (by rw [c]; grind) (by rw [c]; grind) (by omega)
theorem tm_sz {i : Nat} (v : Val lo hi p0 d0 n s) (a : AtE i s) (h9 : i ≤ 499) : Sz 24 (tm lo hi p0 d0 n) := (ate_next h v a).sz (by omega)
omit h in
theorem num_small {q : Rat} {k : Nat} (h : Sz k q) : q.num.natAbs < 2 ^ k := h.n
theorem val0 : Val lo hi p0 d0 (fun _ => 0) 0 := by
  refine ⟨fun _ _ => rfl, fun k hk => ?_, fun k hk hn => absurd rfl hn, Rat.le_refl⟩
  obtain ⟨_, _, e3, _⟩ := ee_le h hk
  unfold nx
  have c : ((0 : Nat) : Rat) = 0 := rfl
  rw [c]
  grind
omit h in
theorem PP0 : PP lo hi p0 d0 (fun _ => 0) 0 = p0 := by
  funext k
  unfold PP mm sd
  have c : ((0 : Nat) : Rat) = 0 := rfl
  rw [c]
  simp
  grind
omit h in
theorem DD0 : DD d0 (fun _ => 0) = d0 := rfl
end
end FM

set_option Elab.async false
set_option linter.all false
set_option maxRecDepth 100000
set_option maxHeartbeats 4000000
/-! bounces -/
namespace K12
open FM
open PySem (Str sizeLine)
local macro_rules | `(tactic| walk_at "go") => `(tactic| simp [FM.runFn, FM.FD.fn, FM.execs, FM.exec, FM.ev, FM.evs, FM.evo, FM.evc, FM.evi, FM.lk, FM.lks, FM.It.lk, FM.isOw, FM.noOw, FM.Sl.isOw, FM.Sl.d, FM.isiD, FM.cmpD, FM.negD, FM.setAll, FM.bindT, FM.andThen_some', FM.onBl_bl, FM.wthD_some', FM.eqD_int, FM.ix_tup, FM.ix_lst, FM.atI_0, FM.atI_1, FM.atI_2, FM.op_add, FM.op_sub, FM.szle, FM.forF, FM.lcGo, FM.biD, K12.eqD_nil, K12.qD_0, K12.qD_1, K12.vD_0, K12.vD_1, K12.vD_2, K12.rng3, K12.rng0, K12.rngOk_3, K12.rngOk_0, FM.zipD, FM.zipD3, K12.szlt, vector_at, raised_at, K12.qd0, K12.qd1, K12.qdm1, K12.qd2, K12.eqD_str, K12.s1, K12.s2, K12.s3, K12.s4, K12.s5, K12.s6, K12.s7, K12.is_non_s, K12.is_non_n, K12.is_non_t, K12.bx0, K12.bx1, K12.bx2, K12.ry0, K12.ry1, K12.ry2, K12.h_0, K12.h_1, K12.h_2, K12.isnon_h, FM.eqD_q, FM.eqD_tm, number_at, nought_at, is_nought_at, add_at, sub_at, mul_at, scaled_at, sign_at, inverse_at, div_at, lifted_at, plus_at, minus_at, times_at, sign_of_at, K12.eqD_bl, *])
section
variable {n : Nat} {lo hi p d : I3 → Rat} (μ : Cells) {a b : Nat} [hp : ∀ k, Sz a (p k)] [hd : ∀ k, Sz a (d k)] {t : Rat} [ht : Sz b t] (h1 : a + b ≤ 900)
include h1
theorem point_at_at : T (n + 7) 57 [rayD p d, tmD t] μ = some (.tup [.tup [], vD (fun k => p k + d k * t)], μ) := by
  have z1 := time_number_at (n := n + 4) μ t
  have z2 := along_at (n := n) (u := p) (v := d) (t := t) μ (by omega : a ≤ 1800) (by omega : a + b ≤ 1800)
  have er : rayD p d = .tup [.tup [], vD p, vD d] := rfl
  clear h1
  refine (T_at (f := 57) (n := n + 6) (d := d_point_at) rfl _ _).trans ?_
  unfold d_point_at B_point_at
  walk_at "go"
omit hp hd ht h1 in
theorem raised_ray_at : T (n + 3) 58 [rayD p d, .tup []] μ = some (rayD p d, μ) := by
  have er : rayD p d = .tup [.tup [], vD p, vD d] := rfl
  refine (T_at (f := 58) (n := n + 2) (d := d_raised_ray) rfl _ _).trans ?_
  unfold d_raised_ray B_raised_ray
  walk_at "go"
theorem met_at_at (k : I3) (up : Bool) : T (n + 8) 59 [rayD p d, .tup [tmD t, hD lo hi k up, .bl false, .bl false]] μ = some (.tup [rayD p d, vD (fun k => p k + d k * t), vD (e3 k up)], μ) := by
  have z1 := point_at_at (n := n) (p := p) (d := d) (t := t) μ h1
  have z2 := normal_at (n := n + 3) (lo := lo) (hi := hi) μ k up (vD (fun k => p k + d k * t))
  have z3 := raised_ray_at (n := n + 4) (p := p) (d := d) μ
  clear h1
  refine (T_at (f := 59) (n := n + 7) (d := d_met_at) rfl _ _).trans ?_
  unfold d_met_at B_met_at
  walk_at "go"
omit hp ht h1 in
theorem thrown_at (k : I3) (up : Bool) (q : D) (h2 : a ≤ 200) : T (n + 7) 60 [rayD p d, q, vD (e3 k up)] μ = some (.tup [.tup [], q, vD (fun j => if j = k then 0 - d j else d j)], μ) := by
  have z1 := dot_e_at' (n := n + 1) μ k up d (by omega : a ≤ 500)
  have z2 := dot_e_at' (n := n + 1) μ k up (e3 k up) (by decide : 1 ≤ 500)
  have e1 : sB up (e3 k up k) = 1 := by
    unfold sB e3
    cases up <;> simp
  rw [e1] at z2
  have z3 := div_at (n := n + 1) (x := sB up (d k)) (y := 1) μ (by omega : a ≤ 1800) (by decide) ⟨by grind, .inl (by grind)⟩
  have z4 := scaled_at (n := n + 2) (x := sB up (d k) / 1) (y := 2) μ (by omega : a + 1 + 1 ≤ 1800) (by decide)
  have z5 := by_at (n := n + 1) (u := e3 k up) (t := sB up (d k) / 1 * 2) μ (by decide : 1 ≤ 1800) (by omega : a + 1 + 1 + 2 ≤ 1800)
  have z6 := minus_all_at (n := n + 1) (u := d) (v := fun j => e3 k up j * (sB up (d k) / 1 * 2)) μ (by omega : a ≤ 1800) (by omega : 1 + (a + 1 + 1 + 2) ≤ 1800)
  have e2 : (fun j => d j - e3 k up j * (sB up (d k) / 1 * 2)) = fun j => if j = k then 0 - d j else d j := by
    funext j
    unfold e3 sB
    by_cases hj : j = k
    · subst hj
      cases up <;> simp <;> grind
    · simp [hj]; grind
  rw [e2] at z6
  have er : rayD p d = .tup [.tup [], vD p, vD d] := rfl
  clear e1 e2
  generalize sB up (d k) / 1 * 2 = w2 at *
  generalize sB up (d k) / 1 = w1 at *
  refine (T_at (f := 60) (n := n + 6) (d := d_thrown_back) rfl _ _).trans ?_
  unfold d_thrown_back B_thrown_back
  walk_at "go"
end
end K12

set_option Elab.async false
set_option linter.all false
set_option maxRecDepth 100000
set_option maxHeartbeats 4000000
/-! folded, comes back -/
namespace K12
open FM
open PySem (Str sizeLine)
theorem qd_int (z : Int) : D.tup [.int z, .int 1] = qD (z : Rat) := by
  unfold qD
  rw [Rat.num_intCast, Rat.den_intCast]
  rfl
theorem sz_int {z : Int} {k : Nat} (h : Sm k z) : Sz (k + 1) (z : Rat) := ⟨by rw [Rat.num_intCast]; exact h.mono (by omega), by rw [Rat.den_intCast]; unfold Sm; exact Nat.one_lt_two_pow (by omega)⟩
instance {x : Rat} {a : Nat} [h : Sz a x] : Sz (a + 1) ((x.floor : Int) : Rat) := by
  refine sz_int ?_
  have hp := x.den_pos
  have e : x.floor = x.num.fdiv (x.den : Int) := by rw [Rat.floor_def, Int.fdiv_eq_ediv_of_nonneg _ (by omega)]
  rw [e]
  exact h.n.fdiv _
instance {x : Rat} {a : Nat} [h : Sz a x] : Sz (a + 1) ((x.num : Int) : Rat) := sz_int h.n
theorem mod2 (m : Int) : opD .Mod (.int m) (.int 2) = some (.int (m % 2)) := by
  rw [op_mod m (by decide), Int.fmod_eq_emod_of_nonneg _ (by decide)]
theorem bx_it (lo hi : I3 → Rat) : boxD lo hi = .tup [.str "box", vD lo, vD hi] := rfl
local macro_rules | `(tactic| walk_at "go") => `(tactic| simp [FM.runFn, FM.FD.fn, FM.execs, FM.exec, FM.ev, FM.evs, FM.evo, FM.evc, FM.evi, FM.lk, FM.lks, FM.It.lk, FM.isOw, FM.noOw, FM.Sl.isOw, FM.Sl.d, FM.isiD, FM.cmpD, FM.negD, FM.setAll, FM.bindT, FM.andThen_some', FM.onBl_bl, FM.wthD_some', FM.eqD_int, FM.ix_tup, FM.ix_lst, FM.atI_0, FM.atI_1, FM.atI_2, FM.op_add, FM.op_sub, FM.szle, FM.forF, FM.lcGo, FM.biD, K12.eqD_nil, K12.qD_0, K12.qD_1, K12.vD_0, K12.vD_1, K12.vD_2, K12.rng3, K12.rng0, K12.rngOk_3, K12.rngOk_0, FM.zipD, FM.zipD3, K12.szlt, vector_at, raised_at, K12.qd0, K12.qd1, K12.qdm1, K12.qd2, K12.eqD_str, K12.is_non_s, K12.is_non_n, K12.is_non_t, K12.bx0, K12.bx1, K12.bx2, K12.ry0, K12.ry1, K12.ry2, FM.eqD_q, plus_at, minus_at, times_at, sign_of_at, floor_at, K12.eqD_bl, K12.mod2, *])
section
variable {n : Nat} (μ : Cells) {a b : Nat}
theorem folded_at {lo hi x : Rat} [hl : Sz a lo] [hh : Sz a hi] [hx : Sz b x] (h : lo < hi) (hs : a + b ≤ 100) : T (n + 4) 63 [qD lo, qD hi, qD x] μ = some (qD (phi lo hi x), μ) := by
  have g1 : a ≤ 1800 := by omega
  have g2 : b ≤ 1800 := by omega
  have g3 : b + a + 1 ≤ 1800 := by omega
  have g4 : a + a + 1 ≤ 1800 := by omega
  have g5 : b + a + 1 + (a + a + 1) + 1 ≤ 1800 := by omega
  have g6 : b + a + 1 + (a + a + 1) + 1 + 1 ≤ 1800 := by omega
  have g7 : a + a + 1 + (b + a + 1 + (a + a + 1) + 1 + 1) ≤ 1800 := by omega
  have g8 : b + a + 1 + (a + a + 1 + (b + a + 1 + (a + a + 1) + 1 + 1)) + 1 ≤ 1800 := by omega
  have z1 := over_at (n := n) (x := x - lo) (y := hi - lo) μ g3 g4 (Dd.pos (by grind))
  have z2 := floor_at (n := n + 2) (x := (x - lo) / (hi - lo)) μ g5
  have z3 := times_at (n := n) (x := hi - lo) (y := ((((x - lo) / (hi - lo)).floor : Int) : Rat)) μ g4 g6
  have z4 := minus_at (n := n) (x := x - lo) (y := (hi - lo) * ((((x - lo) / (hi - lo)).floor : Int) : Rat)) μ g3 g7
  have z5 := plus_at (n := n) (x := lo) (y := (x - lo) - (hi - lo) * ((((x - lo) / (hi - lo)).floor : Int) : Rat)) μ g1 g8
  have z6 := minus_at (n := n) (x := hi) (y := (x - lo) - (hi - lo) * ((((x - lo) / (hi - lo)).floor : Int) : Rat)) μ g1 g8
  rw [← qd_int] at z3
  have e : phi lo hi x = if ((x - lo) / (hi - lo)).floor % 2 = 0 then lo + ((x - lo) - (hi - lo) * ((((x - lo) / (hi - lo)).floor : Int) : Rat)) else hi - ((x - lo) - (hi - lo) * ((((x - lo) / (hi - lo)).floor : Int) : Rat)) := rfl
  rw [e]
  clear e h
  generalize ((x - lo) / (hi - lo)).floor = m at *
  refine (T_at (f := 63) (n := n + 3) (d := d_folded) rfl _ _).trans ?_
  unfold d_folded B_folded
  by_cases ev : m % 2 = 0
  · rw [if_pos ev]
    walk_at "go"
  · rw [if_neg ev]
    walk_at "go"
variable {lo hi p : I3 → Rat}
theorem folded_place_at [hl : ∀ k, Sz a (lo k)] [hh : ∀ k, Sz a (hi k)] [hp : ∀ k, Sz b (p k)] (h : ∀ k, lo k < hi k) (hs : a + b ≤ 100) : T (n + 5) 64 [boxD lo hi, vD p] μ = some (vD (fun k => phi (lo k) (hi k) (p k)), μ) := by
  have z0 := folded_at (n := n) (lo := lo 0) (hi := hi 0) (x := p 0) μ (h 0) hs
  have z1 := folded_at (n := n) (lo := lo 1) (hi := hi 1) (x := p 1) μ (h 1) hs
  have z2 := folded_at (n := n) (lo := lo 2) (hi := hi 2) (x := p 2) μ (h 2) hs
  clear h hs
  refine (T_at (f := 64) (n := n + 4) (d := d_folded_place) rfl _ _).trans ?_
  unfold d_folded_place B_folded_place boxD vD
  walk_at "go"
theorem place_at_at {d : I3 → Rat} {t : Rat} {c : Nat} [hl : ∀ k, Sz a (lo k)] [hh : ∀ k, Sz a (hi k)] [hp : ∀ k, Sz a (p k)] [hd : ∀ k, Sz a (d k)] [ht : Sz c t] (h : ∀ k, lo k < hi k) (hs : a + (a + (a + c) + 1) ≤ 100) :
    T (n + 7) 65 [boxD lo hi, rayD p d, qD t] μ = some (vD (fun k => phi (lo k) (hi k) (p k + d k * t)), μ) := by
  have z1 := along_at (n := n) (u := p) (v := d) (t := t) μ (by omega : a ≤ 1800) (by omega : a + c ≤ 1800)
  have z2 := folded_place_at (n := n + 1) (lo := lo) (hi := hi) (p := fun k => p k + d k * t) μ h hs
  clear h hs
  refine (T_at (f := 65) (n := n + 6) (d := d_place_at) rfl _ _).trans ?_
  unfold d_place_at B_place_at
  walk_at "go"
theorem shared_at {x y : Rat} [hx : Sz a x] [hy : Sz b y] (h : 0 < y) (hs : a + b ≤ 800) : T (n + 4) 71 [qD x, qD y] μ = some (qD (lcmQ x y), μ) := by
  have z1 := over_at (n := n) (x := x) (y := y) μ (by omega : a ≤ 1800) (by omega : b ≤ 1800) (Dd.pos h)
  have z2 := times_at (n := n) (x := y) (y := (((x / y).num : Int) : Rat)) μ (by omega : b ≤ 1800) (by omega : a + b + 1 + 1 ≤ 1800)
  rw [← qd_int] at z2
  have e : lcmQ x y = y * (((x / y).num : Int) : Rat) := rfl
  rw [e]
  clear e h hs
  refine (T_at (f := 71) (n := n + 3) (d := d_shared_multiple) rfl _ _).trans ?_
  unfold d_shared_multiple B_shared_multiple
  walk_at "go"
end
end K12

set_option Elab.async false
set_option linter.all false
set_option maxRecDepth 100000
set_option maxHeartbeats 4000000
/-! comes back -/
namespace K12
open FM
open PySem (Str sizeLine)
theorem sl_tail' (x : D) (xs : List D) : slD (.lst (x :: xs)) (some 1) none = some (.lst xs) := sl_tail x xs
local macro_rules | `(tactic| walk_at "go") => `(tactic| simp [FM.runFn, FM.FD.fn, FM.execs, FM.exec, FM.ev, FM.evs, FM.evo, FM.evc, FM.evi, FM.lk, FM.lks, FM.It.lk, FM.isOw, FM.noOw, FM.Sl.isOw, FM.Sl.d, FM.isiD, FM.cmpD, FM.negD, FM.setAll, FM.bindT, FM.andThen_some', FM.onBl_bl, FM.wthD_some', FM.eqD_int, FM.ix_tup, FM.ix_lst, FM.atI_0, FM.atI_1, FM.atI_2, FM.op_add, FM.op_sub, FM.szle, FM.forF, FM.lcGo, FM.biD, K12.eqD_nil, K12.qD_0, K12.qD_1, K12.vD_0, K12.vD_1, K12.vD_2, K12.rng3, K12.rng0, K12.rngOk_3, K12.rngOk_0, FM.zipD, FM.zipD3, K12.szlt, vector_at, raised_at, K12.qd0, K12.qd1, K12.qdm1, K12.qd2, K12.eqD_str, K12.is_non_s, K12.is_non_n, K12.is_non_t, K12.bx0, K12.bx1, K12.bx2, K12.ry0, K12.ry1, K12.ry2, FM.eqD_q, sign_of_at, K12.eqD_bl, K12.mod2, K12.sl_tail', *])
/-- the periods -/
def perL (lo hi d : I3 → Rat) : List Rat := ([0, 1, 2].filter fun k => decide (d k ≠ 0)).map (per lo hi d)
def homeQ : List Rat → Rat
  | [] => 0
  | x :: xs => xs.foldl lcmQ x
section
variable {n : Nat} (μ : Cells) {a : Nat} {lo hi d : I3 → Rat} {p : I3 → Rat} [hl : ∀ k, Sz a (lo k)] [hh : ∀ k, Sz a (hi k)] [hd : ∀ k, Sz a (d k)]
theorem abm (q : Rat) : ab q = if 0 < q then q else 0 - q := by
  unfold ab
  split
  · rfl
  · grind
theorem sz_per (k : I3) : Sz (a + a + 1 + 2 + (1 + a + 1) + 1) (per lo hi d k) := by
  unfold per
  rw [abm]
  have : Sz (1 + a + 1) (if 0 < d k then d k else 0 - d k) := by
    split
    · exact (hd k).mono (by omega)
    · exact Sz.sub
  exact Sz.div
theorem num_pos_iff (q : Rat) : (0 < q.num) ↔ 0 < q := by
  rw [Rat.lt_iff]
  simp
theorem tri3 (k : I3) (hs : a ≤ 100) : (d k = 0 ∧ (d k).num = 0) ∨ (¬ (d k).num = 0 ∧ d k ≠ 0 ∧ 0 < (d k).num ∧ T (n + 3) 5 [qD ((hi k - lo k) * 2), qD (d k)] μ = some (qD (per lo hi d k), μ)) ∨
    (¬ (d k).num = 0 ∧ d k ≠ 0 ∧ ¬ 0 < (d k).num ∧ T (n + 3) 3 [qD 0, qD (d k)] μ = some (qD (0 - d k), μ) ∧ T (n + 3) 5 [qD ((hi k - lo k) * 2), qD (0 - d k)] μ = some (qD (per lo hi d k), μ)) := by
  by_cases e : d k = 0
  · exact .inl ⟨e, by rw [e]; rfl⟩
  · have e' : ¬ (d k).num = 0 := fun z => e (Rat.num_eq_zero.mp z)
    by_cases g : 0 < d k
    · refine .inr (.inl ⟨e', e, (num_pos_iff _).mpr g, ?_⟩)
      rw [over_at (n := n) μ (by omega : a + a + 1 + 2 ≤ 1800) (by omega : a ≤ 1800) (Dd.pos g)]
      unfold per ab
      rw [if_pos g]
    · refine .inr (.inr ⟨e', e, fun z => g ((num_pos_iff _).mp z), minus_at (n := n) μ (by decide) (by omega : a ≤ 1800), ?_⟩)
      rw [over_at (n := n) μ (by omega : a + a + 1 + 2 ≤ 1800) (by omega : 1 + a + 1 ≤ 1800) (Dd.pos (by grind))]
      rw [per, abm, if_neg g]
theorem per_pos (h : ∀ k, lo k < hi k) {k : I3} (e : d k ≠ 0) : 0 < per lo hi d k := by
  have := ab_pos e
  have := h k
  unfold per
  exact div_pp (by grind) (by assumption)
theorem comes_at (h : ∀ k, lo k < hi k) (hd0 : ∃ k, d k ≠ 0) (hs : a ≤ 20) : T (n + 5) 70 [boxD lo hi, rayD p d] μ = some (qD (homeQ (perL lo hi d)), μ) := by
  have y0 := times_at (n := n + 1) (x := hi 0 - lo 0) (y := 2) μ (by omega : a + a + 1 ≤ 1800) (by decide)
  have y1 := times_at (n := n + 1) (x := hi 1 - lo 1) (y := 2) μ (by omega : a + a + 1 ≤ 1800) (by decide)
  have y2 := times_at (n := n + 1) (x := hi 2 - lo 2) (y := 2) μ (by omega : a + a + 1 ≤ 1800) (by decide)
  have x0 := minus_at (n := n + 1) (x := hi 0) (y := lo 0) μ (by omega : a ≤ 1800) (by omega : a ≤ 1800)
  have x1 := minus_at (n := n + 1) (x := hi 1) (y := lo 1) μ (by omega : a ≤ 1800) (by omega : a ≤ 1800)
  have x2 := minus_at (n := n + 1) (x := hi 2) (y := lo 2) μ (by omega : a ≤ 1800) (by omega : a ≤ 1800)
  have s0 := sz_per (lo := lo) (hi := hi) (d := d) (a := a) 0
  have s1 := sz_per (lo := lo) (hi := hi) (d := d) (a := a) 1
  have s2 := sz_per (lo := lo) (hi := hi) (d := d) (a := a) 2
  have hb : a + a + 1 + 2 + (1 + a + 1) + 1 ≤ 70 := by omega
  generalize a + a + 1 + 2 + (1 + a + 1) + 1 = b at *
  have hpos : ∀ k, d k ≠ 0 → 0 < per lo hi d k := fun k e => per_pos h e
  have w01 : d 1 ≠ 0 → T (n + 4) 71 [qD (per lo hi d 0), qD (per lo hi d 1)] μ = some (qD (lcmQ (per lo hi d 0) (per lo hi d 1)), μ) := fun e => shared_at (n := n) μ (hpos 1 e) (by omega : b + b ≤ 800)
  have w02 : d 2 ≠ 0 → T (n + 4) 71 [qD (per lo hi d 0), qD (per lo hi d 2)] μ = some (qD (lcmQ (per lo hi d 0) (per lo hi d 2)), μ) := fun e => shared_at (n := n) μ (hpos 2 e) (by omega : b + b ≤ 800)
  have w12 : d 2 ≠ 0 → T (n + 4) 71 [qD (per lo hi d 1), qD (per lo hi d 2)] μ = some (qD (lcmQ (per lo hi d 1) (per lo hi d 2)), μ) := fun e => shared_at (n := n) μ (hpos 2 e) (by omega : b + b ≤ 800)
  have s01 : Sz (b + (b + b + 1 + 1)) (lcmQ (per lo hi d 0) (per lo hi d 1)) := (Sz.mul : Sz (b + (b + b + 1 + 1)) (per lo hi d 1 * (((per lo hi d 0 / per lo hi d 1).num : Int) : Rat)))
  have w012 : d 2 ≠ 0 → T (n + 4) 71 [qD (lcmQ (per lo hi d 0) (per lo hi d 1)), qD (per lo hi d 2)] μ = some (qD (lcmQ (lcmQ (per lo hi d 0) (per lo hi d 1)) (per lo hi d 2)), μ) := fun e => shared_at (n := n) μ (hpos 2 e) (by omega : b + (b + b + 1 + 1) + b ≤ 800)
  have no : ¬ (d 0 = 0 ∧ d 1 = 0 ∧ d 2 = 0) := by
    rintro ⟨e0, e1, e2⟩
    obtain ⟨k, hk⟩ := hd0
    rcases i3_cases k with rfl | rfl | rfl
    · exact hk e0
    · exact hk e1
    · exact hk e2
  have t0 := tri3 (n := n + 1) (lo := lo) (hi := hi) (d := d) μ 0 (by omega : a ≤ 100)
  have t1 := tri3 (n := n + 1) (lo := lo) (hi := hi) (d := d) μ 1 (by omega : a ≤ 100)
  have t2 := tri3 (n := n + 1) (lo := lo) (hi := hi) (d := d) μ 2 (by omega : a ≤ 100)
  clear s0 s1 s2 s01 hb hpos hd0 h hs
  unfold perL
  refine (T_at (f := 70) (n := n + 4) (d := d_comes_back) rfl _ _).trans ?_
  unfold d_comes_back B_comes_back
  rcases t0 with ⟨a0, b0⟩ | ⟨a0, b0, c0, u0⟩ | ⟨a0, b0, c0, v0, u0⟩ <;> rcases t1 with ⟨a1, b1⟩ | ⟨a1, b1, c1, u1⟩ | ⟨a1, b1, c1, v1, u1⟩ <;> rcases t2 with ⟨a2, b2⟩ | ⟨a2, b2, c2, u2⟩ | ⟨a2, b2, c2, v2, u2⟩
  · exact absurd ⟨a0, a1, a2⟩ no
  all_goals clear no
  all_goals first | (walk_at "go" <;> done) | (walk_at "go" <;> simp [homeQ, *]) 
end
end K12

set_option Elab.async false
set_option linter.all false
set_option maxRecDepth 100000
set_option maxHeartbeats 4000000
/-! times of levels, in order, meeting times -/
namespace K12
open FM
open PySem (Str sizeLine)
/-! ### comprehensions, anywhere -/
theorem lc_gen {α : Type} {i : Nat} {c : Env → Cells → Option (Bool × Cells)} {f : Env → Cells → Option (D × Cells)} {ρ : Env} {μ : Cells} (q : α → D) (p : α → Bool) (g : α → D) : ∀ xs : List α, (∀ a ∈ xs, c (ρ.set i (some (.pl (q a)))) μ = some (p a, μ)) → (∀ a ∈ xs, p a = true → f (ρ.set i (some (.pl (q a)))) μ = some (g a, μ)) →
    lcGo (.nm i) c f ρ (xs.map q) μ = some ((xs.filter p).map g, μ)
  | [], _, _ => rfl
  | a :: xs, hc, hf => by
    have ih := lc_gen q p g xs (fun b hb => hc b (List.mem_cons_of_mem _ hb)) (fun b hb => hf b (List.mem_cons_of_mem _ hb))
    have h1 := hc a List.mem_cons_self
    rw [List.map_cons]
    unfold lcGo
    show (match c (ρ.set i (some (.pl (q a)))) μ with | none => none | some (false, μ1) => lcGo (.nm i) c f ρ (xs.map q) μ1 | some (true, μ1) => match f (ρ.set i (some (.pl (q a)))) μ1 with | none => none | some (y, μ2) => match lcGo (.nm i) c f ρ (xs.map q) μ2 with | none => none | some (ys, μ3) => some (y :: ys, μ3)) = _
    rw [h1]
    cases hp : p a with
    | false =>
      show lcGo (.nm i) c f ρ (xs.map q) μ = _
      rw [ih, List.filter_cons, hp]
      rfl
    | true =>
      show (match f (ρ.set i (some (.pl (q a)))) μ with | none => none | some (y, μ2) => match lcGo (.nm i) c f ρ (xs.map q) μ2 with | none => none | some (ys, μ3) => some (y :: ys, μ3)) = _
      rw [hf a List.mem_cons_self hp]
      show (match lcGo (.nm i) c f ρ (xs.map q) μ with | none => none | some (ys, μ3) => some (g a :: ys, μ3)) = _
      rw [ih, List.filter_cons, hp]
      rfl
theorem lc_of {F : Fs} {elt : E} {tg : Tg} {it : It} {cond : EO} {ρ : Env} {μ μ1 μ2 : Cells} {xs ys : List D} (h1 : evi F it ρ μ = some (xs, μ1)) (hl : xs.length ≤ 16777216) (h2 : lcGo tg (fun ρ' μ' => evc F cond ρ' μ') (fun ρ' μ' => if lk ρ' elt then none else ev F elt ρ' μ') ρ xs μ1 = some (ys, μ2)) : ev F (.lc elt tg it cond) ρ μ = some (.lst ys, μ2) := by
  unfold ev
  rw [h1]
  show (if xs.length ≤ 16777216 then _ else none) = _
  rw [if_pos hl, h2]
  rfl
theorem retl_of {F : Fs} {e : E} {ρ : Env} {μ μ1 : Cells} {ys : List D} (h : ev F e ρ μ = some (.lst ys, μ1)) : exec F W (.ret (.bi .tuple (.cons e .nil))) ρ μ = some (.rt (.tup ys) μ1) := by
  have e2 : ev F (.bi .tuple (.cons e .nil)) ρ μ = some (.tup ys, μ1) := by
    unfold ev evs
    rw [h]
    rfl
  unfold exec
  rw [if_neg (by unfold lk; decide), e2]
  rfl
theorem szq {n : Nat} (h : n ≤ 16777216) : n ≤ sizeLine := Nat.le_trans h (by decide)
theorem szq' {n : Nat} (h : n ≤ 16777215) : n < sizeLine := Nat.lt_of_le_of_lt h (by decide)
local macro_rules | `(tactic| walk_at "go") => `(tactic| simp [FM.runFn, FM.FD.fn, FM.execs, FM.exec, FM.ev, FM.evs, FM.evo, FM.evc, FM.evi, FM.lk, FM.lks, FM.It.lk, FM.isOw, FM.noOw, FM.Sl.isOw, FM.Sl.d, FM.isiD, FM.cmpD, FM.negD, FM.setAll, FM.bindT, FM.andThen_some', FM.onBl_bl, FM.wthD_some', FM.eqD_int, FM.ix_tup, FM.ix_lst, FM.atI_0, FM.atI_1, FM.atI_2, FM.op_add, FM.op_sub, FM.szle, FM.forF, FM.lcGo, FM.biD, K12.eqD_nil, K12.qD_0, K12.qD_1, K12.vD_0, K12.vD_1, K12.vD_2, K12.rng3, K12.rng0, K12.rngOk_3, K12.rngOk_0, FM.zipD, FM.zipD3, K12.szlt, K12.qd0, K12.qd1, K12.qd2, K12.eqD_str, K12.is_non_s, K12.is_non_n, K12.is_non_t, K12.bx0, K12.bx1, K12.bx2, K12.ry0, K12.ry1, K12.ry2, FM.eqD_q, K12.eqD_bl, K12.mod2, *])
/-! ### times of levels -/
def tlCond : E := (.not (.call 7 (.cons (.var 4) (.cons (.var 7) .nil))))
def tlBody : Ss := (.cons (.app 9 (.var 7)) (.cons (.asg 7 (.call 2 (.cons (.var 5) (.cons (.call 4 (.cons (.var 6) (.cons (.tup (.cons (.var 10) (.cons (.int 1) .nil))) .nil))) .nil)))) (.cons (.aug 10 .Add (.int 1)) .nil)))
def tlRet : S := (.ret (.bi .tuple (.cons (.lc (.var 11) (.nm 11) (.seq (.var 9)) (.some (.cmp .Gt (.ix (.var 11) (.int 0)) (.int 0)))) .nil)))
def tlRest : Ss := (.cons (.whl tlCond tlBody) (.cons tlRet .nil))
section
variable {n : Nat} (μ : Cells)
/-- where the loop stands -/
def L1 (lo hi p d T b e : Rat) (sd : D) (i : Nat) : Env :=
  [some (.pl (qD lo)), some (.pl (qD hi)), some (.pl (qD p)), some (.pl (qD d)), some (.pl (qD T)), some (.pl (qD b)), some (.pl (qD e)), some (.pl (qD (b + (i : Rat) * e))), some (.pl sd), some (.ow ((List.range i).map fun (j : Nat) => qD (b + (j : Rat) * e))), some (.pl (.int ((i : Int) + 1))), none]
variable {lo hi p d T' b e : Rat} {sd : D} {a c : Nat} [hb : Sz a b] [he : Sz a e] [hT : Sz c T']
theorem tl_sz (i : Nat) (h : i < 2 ^ 20) : Sz (a + (21 + a) + 1) (b + (i : Rat) * e) := by
  have : Sz 21 (i : Rat) := sz_int (z := (i : Int)) (k := 20) (by unfold Sm; omega)
  exact Sz.add
theorem tl_body (i : Nat) (h : i < 1000000) (hs : a ≤ 100) : execs (T (n + 3)) W tlBody (L1 lo hi p d T' b e sd i) μ = some (.nx (L1 lo hi p d T' b e sd (i + 1)) μ) := by
  have s1 : Sz 21 (((i : Int) + 1 : Int) : Rat) := sz_int (k := 20) (by unfold Sm; omega)
  have z1 := times_at (n := n) (x := e) (y := (((i : Int) + 1 : Int) : Rat)) μ (by omega : a ≤ 1800) (by decide)
  have z2 := plus_at (n := n) (x := b) (y := e * (((i : Int) + 1 : Int) : Rat)) μ (by omega : a ≤ 1800) (by omega : a + 21 ≤ 1800)
  have c1 : (((i : Int) + 1 : Int) : Rat) = ((i + 1 : Nat) : Rat) := rfl
  have e1 : b + e * (((i : Int) + 1 : Int) : Rat) = b + ((i + 1 : Nat) : Rat) * e := by rw [c1]; grind
  rw [e1] at z2
  rw [← qd_int] at z1
  have hl : i < sizeLine := szq' (by omega)
  have e2 : (List.range (i + 1)).map (fun (j : Nat) => qD (b + (j : Rat) * e)) = (List.range i).map (fun (j : Nat) => qD (b + (j : Rat) * e)) ++ [qD (b + (i : Rat) * e)] := by
    rw [List.range_succ, List.map_append]
    rfl
  have e3 : ((i + 1 : Nat) : Int) = (i : Int) + 1 := by omega
  unfold tlBody L1
  rw [e2, e3]
  clear e1 e2 e3 c1 s1
  generalize b + ((i + 1 : Nat) : Rat) * e = w at *
  generalize e * (((i : Int) + 1 : Int) : Rat) = w2 at *
  generalize b + (i : Rat) * e = w3 at *
  generalize hf : (List.range i).map (fun (j : Nat) => qD (b + (j : Rat) * e)) = f at *
  have hl2 : f.length < sizeLine := by rw [← hf]; simpa using hl
  clear hf hl
  walk_at "go"
theorem tl_cond (i : Nat) (h : i < 1000000) (hs : a ≤ 100) (hc : c ≤ 1000) : onBl (ev (T (n + 3)) tlCond (L1 lo hi p d T' b e sd i) μ) (fun x μ1 => some (x, μ1)) = some (!decide (T' < b + (i : Rat) * e), μ) := by
  have s1 := tl_sz (b := b) (e := e) (a := a) i (by omega)
  have z1 := less_at (n := n + 2) (x := T') (y := b + (i : Rat) * e) μ (by omega : c ≤ 1800) (by omega : a + (21 + a) + 1 ≤ 1800)
  unfold tlCond L1
  clear s1
  generalize b + (i : Rat) * e = w3 at *
  walk_at "go"
theorem tl_loop (ep : 0 < e) (J : Nat) (hJ : J = cntT b e T') (hJ2 : J < 1000000) (hs : a ≤ 100) (hc : c ≤ 1000) : ∀ (r i k : Nat), i + r = J →
    whileF (fun ρ' μ' => onBl (ev (T (n + 3)) tlCond ρ' μ') fun x μ1 => some (x, μ1)) (fun ρ' μ' => execs (T (n + 3)) W tlBody ρ' μ') (r + 1 + k) (L1 lo hi p d T' b e sd i) μ = some (.nx (L1 lo hi p d T' b e sd J) μ)
  | 0, i, k, h => by
    have hi : i = J := by omega
    subst hi
    have := (cntT_spec (b := b) (T := T') ep i)
    rw [← hJ] at this
    have no : T' < b + (i : Rat) * e := by
      have : ¬ b + (i : Rat) * e ≤ T' := fun q => absurd (this.mpr q) (by omega)
      grind
    rw [show 0 + 1 + k = k + 1 by omega]
    unfold whileF
    rw [tl_cond (n := n) μ i hJ2 hs hc, decide_eq_true no]
    rfl
  | r + 1, i, k, h => by
    have := (cntT_spec (b := b) (T := T') ep i)
    rw [← hJ] at this
    have yes : ¬ T' < b + (i : Rat) * e := by
      have := this.mp (by omega)
      grind
    rw [show r + 1 + 1 + k = (r + 1 + k) + 1 by omega]
    unfold whileF
    rw [tl_cond (n := n) μ i (by omega) hs hc, decide_eq_false yes]
    show (match execs (T (n + 3)) W tlBody (L1 lo hi p d T' b e sd i) μ with | none => none | some (.nx ρ2 μ2) => _ | some (.ct ρ2 μ2) => _ | some (.bk ρ2 μ2) => _ | some (.rt d μ2) => _) = _
    rw [tl_body (n := n) μ i (by omega) hs]
    exact tl_loop ep J hJ hJ2 hs hc r (i + 1) k (by omega)
theorem tl_ret (J : Nat) (hJ : J ≤ 1000000) (bp : 0 < b) (ep : 0 < e) : exec (T (n + 3)) W tlRet (L1 lo hi p d T' b e sd J) μ = some (.rt (.tup ((List.range J).map fun (j : Nat) => qD (b + (j : Rat) * e))) μ) := by
  unfold tlRet
  refine retl_of ?_
  have e0 : (List.range J).map (fun (j : Nat) => qD (b + (j : Rat) * e)) = ((List.range J).filter fun _ => true).map fun (j : Nat) => qD (b + (j : Rat) * e) := by
    rw [List.filter_eq_self.mpr (by simp)]
  conv => rhs; rw [e0]
  refine lc_of (xs := (List.range J).map fun (j : Nat) => qD (b + (j : Rat) * e)) (μ1 := μ) ?_ (by simp; omega) ?_
  · unfold L1
    simp [evi, ev, Sl.d, andThen_some']
  · refine lc_gen (fun (j : Nat) => qD (b + (j : Rat) * e)) (fun _ => true) (fun (j : Nat) => qD (b + (j : Rat) * e)) (List.range J) (fun j _ => ?_) (fun j _ _ => ?_)
    · have hj : (0 : Rat) ≤ (j : Rat) := by exact_mod_cast Nat.zero_le j
      have hp : 0 < b + (j : Rat) * e := by
        have := mul_le_pos hj ep
        grind
      have hn : 0 < (b + (j : Rat) * e).num := num_pos' hp
      unfold L1
      clear hp hj e0
      generalize b + (j : Rat) * e = w at *
      generalize b + (J : Rat) * e = w2 at *
      generalize (List.range J).map (fun (j : Nat) => qD (b + (j : Rat) * e)) = f
      walk_at "go"
    · unfold L1
      generalize b + (j : Rat) * e = w at *
      generalize b + (J : Rat) * e = w2 at *
      generalize (List.range J).map (fun (j : Nat) => qD (b + (j : Rat) * e)) = f
      walk_at "go"
theorem W_split (m : Nat) (h : m ≤ 1000000) : ∃ k, W = m + 1 + k := ⟨W - (m + 1), by
  have : 2000000 ≤ W := by
    unfold W
    exact Nat.le_trans (by decide : 2000000 ≤ 2 ^ 21) (Nat.pow_le_pow_right (by decide) (by decide))
  omega⟩
theorem tl_rest (hs : a ≤ 100) (hc : c ≤ 1000) (bp : 0 < b) (ep : 0 < e) (hJ2 : cntT b e T' < 1000000) : execs (T (n + 3)) W tlRest (L1 lo hi p d T' b e sd 0) μ = some (.rt (.tup ((List.range (cntT b e T')).map fun (j : Nat) => qD (b + (j : Rat) * e))) μ) := by
  obtain ⟨k, hk⟩ := W_split (cntT b e T') (by omega)
  have hl := tl_loop (n := n) (lo := lo) (hi := hi) (p := p) (d := d) (T' := T') (b := b) (e := e) (sd := sd) μ ep (cntT b e T') rfl hJ2 hs hc (cntT b e T') 0 k (by omega)
  rw [← hk] at hl
  unfold tlRest
  exact seq_nx (whl_of hl) (seq_rt (tl_ret (n := n) μ _ (by omega) bp ep))
end
section
variable {n : Nat} (μ : Cells) {lo hi p d : I3 → Rat} {T' : Rat} {a c : Nat} [hl : ∀ k, Sz a (lo k)] [hh : ∀ k, Sz a (hi k)] [hp : ∀ k, Sz a (p k)] [hd : ∀ k, Sz a (d k)] [hT : Sz c T']
theorem bb_eq (k : I3) : ((if 0 < d k then hi k else lo k) - p k) / d k = bb lo hi p d k := by
  unfold bb lvl
  by_cases g : 0 < d k
  · rw [if_pos g, decide_eq_true g]; rfl
  · rw [if_neg g, decide_eq_false g]; rfl
theorem hk_eq (k : I3) : hk lo hi p d T' (fun _ => 0) k = (List.range (cn lo hi p d T' k)).map fun (j : Nat) => bb lo hi p d k + (j : Rat) * ee lo hi d k := by
  unfold FM.hk
  rw [Nat.sub_zero, List.range_eq_range']
theorem times_levels_at (hs : a ≤ 24) (hc : c ≤ 1000) (bx : Bx lo hi p) (k : I3) (dk : Dd (hi k - p k) (d k) ∧ Dd (lo k - p k) (d k) ∨ d k = 0) (hb : d k ≠ 0 → 0 < bb lo hi p d k) (hJ : cn lo hi p d T' k < 1000000) :
    T (n + 4) 62 [qD (lo k), qD (hi k), qD (p k), qD (d k), qD T'] μ = some (.tup ((hk lo hi p d T' (fun _ => 0) k).map qD), μ) := by
  rw [hk_eq, List.map_map]
  by_cases e : d k = 0
  · have e2 : cn lo hi p d T' k = 0 := by unfold cn; rw [if_pos e]
    rw [e2, e]
    clear hb dk bx hJ e2
    refine (T_at (f := 62) (n := n + 3) (d := d_times_of_levels) rfl _ _).trans ?_
    unfold d_times_of_levels B_times_of_levels
    walk_at "go"
  · have bp := hb e
    have ep := ee_pos (d0 := d) bx e
    have hcn : cn lo hi p d T' k = cntT (bb lo hi p d k) (ee lo hi d k) T' := by unfold cn; rw [if_neg e]
    have e' : ¬ (d k).num = 0 := fun z => e (Rat.num_eq_zero.mp z)
    have sbb : Sz (a + a + 1 + a + 1) (bb lo hi p d k) := by
      unfold bb lvl
      split
      · exact Sz.div
      · exact Sz.div
    have see : Sz (a + a + 1 + (1 + a + 1) + 1) (ee lo hi d k) := by
      unfold ee sd ab
      split
      · exact (Sz.div : Sz (a + a + 1 + a + 1) _).mono (by omega)
      · exact (Sz.div : Sz (a + a + 1 + a + 1) _).mono (by omega)
    have sbb' : Sz 100 (bb lo hi p d k) := sbb.mono (by omega)
    have see' : Sz 100 (ee lo hi d k) := see.mono (by omega)
    clear sbb see
    have hr := tl_rest (n := n) (lo := lo k) (hi := hi k) (p := p k) (d := d k) (T' := T') (b := bb lo hi p d k) (e := ee lo hi d k) (sd := qD (hi k - lo k)) μ (by decide : 100 ≤ 100) hc bp ep (by rw [← hcn]; exact hJ)
    have z1 := minus_at (n := n) (x := hi k) (y := lo k) μ (by omega : a ≤ 1800) (by omega : a ≤ 1800)
    have i0 : bb lo hi p d k + ((0 : Nat) : Rat) * ee lo hi d k = bb lo hi p d k := by
      have : ((0 : Nat) : Rat) = 0 := rfl
      rw [this]; grind
    unfold L1 at hr
    rw [i0, List.range_zero, List.map_nil] at hr
    have i1 : ((0 : Nat) : Int) + 1 = 1 := rfl
    rw [i1, ← hcn] at hr
    have hB : B_times_of_levels 3 5 7 2 4 = (.cons (.ifs (.cmp .Eq (.ix (.var 3) (.int 0)) (.int 0)) (.cons (.ret (.tup .nil)) .nil) .nil) (.cons (.par3M 8 9 10 (.call 3 (.cons (.var 1) (.cons (.var 0) .nil))) 1) (.cons (.asg 5 (.call 5 (.cons (.call 3 (.cons (.ife (.cmp .Gt (.ix (.var 3) (.int 0)) (.int 0)) (.var 1) (.var 0)) (.cons (.var 2) .nil))) (.cons (.var 3) .nil)))) (.cons (.asg 6 (.call 5 (.cons (.var 8) (.cons (.ife (.cmp .Gt (.ix (.var 3) (.int 0)) (.int 0)) (.var 3) (.call 3 (.cons (.tup (.cons (.int 0) (.cons (.int 1) .nil))) (.cons (.var 3) .nil)))) .nil)))) (.cons (.asg 7 (.var 5)) tlRest))))) := rfl
    generalize tlRest = rest at *
    clear i0 i1 hcn bp ep e hb hJ
    by_cases g : 0 < d k
    · have g' : 0 < (d k).num := num_pos' g
      have dk1 : Dd (hi k - p k) (d k) := .pos g
      have z2 := minus_at (n := n) (x := hi k) (y := p k) μ (by omega : a ≤ 1800) (by omega : a ≤ 1800)
      have z3 := over_at (n := n) (x := hi k - p k) (y := d k) μ (by omega : a + a + 1 ≤ 1800) (by omega : a ≤ 1800) dk1
      have z4 := over_at (n := n) (x := hi k - lo k) (y := d k) μ (by omega : a + a + 1 ≤ 1800) (by omega : a ≤ 1800) (.pos g)
      have q1 : (hi k - p k) / d k = bb lo hi p d k := by unfold bb lvl; rw [decide_eq_true g]; rfl
      have q2 : (hi k - lo k) / d k = ee lo hi d k := by unfold ee sd ab; rw [if_pos g]
      rw [q1] at z3
      rw [q2] at z4
      clear q1 q2 dk1 dk g hs hc bx sbb' see'
      generalize bb lo hi p d k = w1 at *
      generalize ee lo hi d k = w2 at *
      refine (T_at (f := 62) (n := n + 3) (d := d_times_of_levels) rfl _ _).trans ?_
      unfold d_times_of_levels
      rw [hB]
      walk_at "go"
    · have g' : ¬ 0 < (d k).num := fun z => g ((Rat.lt_iff 0 (d k)).mpr (by simpa using z))
      have dk1 : Dd (lo k - p k) (d k) := by
        rcases dk with dk | dk
        · exact dk.2
        · exact absurd (by rw [dk]; rfl) e'
      have z2 := minus_at (n := n) (x := lo k) (y := p k) μ (by omega : a ≤ 1800) (by omega : a ≤ 1800)
      have z3 := over_at (n := n) (x := lo k - p k) (y := d k) μ (by omega : a + a + 1 ≤ 1800) (by omega : a ≤ 1800) dk1
      have z5 := minus_at (n := n) (x := 0) (y := d k) μ (by decide) (by omega : a ≤ 1800)
      have dne : d k ≠ 0 := fun z => e' (by rw [z]; rfl)
      have z4 := over_at (n := n) (x := hi k - lo k) (y := 0 - d k) μ (by omega : a + a + 1 ≤ 1800) (by omega : 1 + a + 1 ≤ 1800) (.pos (by grind))
      have q1 : (lo k - p k) / d k = bb lo hi p d k := by unfold bb lvl; rw [decide_eq_false g]; rfl
      have q2 : (hi k - lo k) / (0 - d k) = ee lo hi d k := by
        unfold ee sd ab
        rw [if_neg g]
        congr 1
        grind
      rw [q1] at z3
      rw [q2] at z4
      clear q1 q2 dk1 dk g hs hc bx sbb' see' dne
      generalize bb lo hi p d k = w1 at *
      generalize ee lo hi d k = w2 at *
      generalize 0 - d k = w3 at *
      refine (T_at (f := 62) (n := n + 3) (d := d_times_of_levels) rfl _ _).trans ?_
      unfold d_times_of_levels
      rw [hB]
      walk_at "go"
end
/-! ### in order -/
section
variable {n : Nat} (μ : Cells)
theorem sl_take (l : List D) (m : Nat) : slD (.lst l) none (some (m : Int)) = some (.lst (l.take m)) := by
  show some (D.lst (cutD l none (some (m : Int)))) = _
  congr 2
  unfold cutD
  have e1 : HT.sIx l.length 0 none = 0 := rfl
  have e2 : HT.sIx l.length l.length (some (m : Int)) = min m l.length := by
    have e : HT.sIx l.length l.length (some (m : Int)) = if (m : Int) < 0 then ((m : Int) + (l.length : Int)).toNat else min (m : Int).toNat l.length := rfl
    rw [e, if_neg (by omega)]
    rfl
  rw [e1, e2, List.drop_zero, Nat.sub_zero]
  by_cases h : m ≤ l.length
  · rw [Nat.min_eq_left h]
  · rw [Nat.min_eq_right (by omega), List.take_of_length_le (Nat.le_refl _), List.take_of_length_le (by omega)]
theorem insAt_map (f : Rat → D) (L : List Rat) (i : Nat) (x : Rat) : insAt (L.map f) i (f x) = (insAt L i x).map f := by
  unfold insAt
  rw [List.map_append, List.map_append, List.map_take, List.map_drop]
  rfl
def ioBody : Ss := (.cons (.asg 3 (.bi .len (.cons (.lc (.var 4) (.nm 4) (.seq (.var 1)) (.some (.not (.call 7 (.cons (.var 2) (.cons (.var 4) .nil)))))) .nil))) (.cons (.ins 1 (.var 3) (.var 2)) .nil))
def I1 (Fr : D) (acc : List Rat) (o : Option (D × D)) : Env := [some (.pl Fr), some (.ow (acc.map qD)), o.map (fun x => .pl x.1), o.map (fun x => .pl x.2), none]
theorem io_body {a : Nat} (Fr : D) (acc : List Rat) (x : Rat) (y : Option D) (hx : Sz a x) (ha : ∀ z ∈ acc, Sz a z) (hs : a ≤ 1800) (hl : acc.length ≤ 1000000) :
    execs (T (n + 1)) W ioBody [some (.pl Fr), some (.ow (acc.map qD)), some (.pl (qD x)), y.map .pl, none] μ = some (.nx (I1 Fr (ins x acc) (some (qD x, .int ((acc.filter fun o => !decide (x < o)).length : Nat)))) μ) := by
  have hlc : ev (T (n + 1)) (.lc (.var 4) (.nm 4) (.seq (.var 1)) (.some (.not (.call 7 (.cons (.var 2) (.cons (.var 4) .nil)))))) [some (.pl Fr), some (.ow (acc.map qD)), some (.pl (qD x)), y.map .pl, none] μ = some (.lst ((acc.filter fun o => !decide (x < o)).map qD), μ) := by
    refine lc_of (xs := acc.map qD) (μ1 := μ) (by simp [evi, ev, Sl.d, andThen_some']) (by simp; omega) ?_
    refine lc_gen qD (fun o => !decide (x < o)) qD acc (fun z hz => ?_) (fun z hz _ => ?_)
    · have sz := ha z hz
      have z1 := less_at (n := n) (x := x) (y := z) μ hs hs
      clear ha hl
      cases y <;> walk_at "go"
    · cases y <;> walk_at "go"
  have hlt : (acc.map qD).length < sizeLine := by rw [List.length_map]; exact szq' (by omega)
  have hfl : (acc.filter fun o => !decide (x < o)).length ≤ acc.length := List.length_filter_le _ _
  have hj : ((acc.filter fun o => !decide (x < o)).length : Int) < 2 ^ 63 := by omega
  unfold ioBody I1 ins
  rw [← insAt_map]
  generalize E.lc (.var 4) (.nm 4) (.seq (.var 1)) (.some (.not (.call 7 (.cons (.var 2) (.cons (.var 4) .nil))))) = lcE at *
  have e2 : ev (T (n + 1)) (.bi .len (.cons lcE .nil)) [some (.pl Fr), some (.ow (acc.map qD)), some (.pl (qD x)), y.map .pl, none] μ = some (.int ((acc.filter fun o => !decide (x < o)).length : Nat), μ) := by
    unfold ev evs
    rw [hlc]
    show some (D.int ((((acc.filter fun o => !decide (x < o)).map qD).length : Nat) : Int), μ) = _
    rw [List.length_map]
  have h1 : exec (T (n + 1)) W (.asg 3 (.bi .len (.cons lcE .nil))) [some (.pl Fr), some (.ow (acc.map qD)), some (.pl (qD x)), y.map .pl, none] μ = some (.nx [some (.pl Fr), some (.ow (acc.map qD)), some (.pl (qD x)), some (.pl (.int ((acc.filter fun o => !decide (x < o)).length : Nat))), none] μ) := by
    unfold exec
    rw [e2]
    cases y <;> rfl
  refine seq_nx h1 ?_
  clear h1 e2 hlc ha
  have hmn : (0 : Int) ≤ ((acc.filter fun o => !decide (x < o)).length : Nat) := by omega
  generalize (acc.filter fun o => !decide (x < o)).length = m at *
  generalize acc.map qD = A at *
  have h3 : exec (T (n + 1)) W (.ins 1 (.var 3) (.var 2)) [some (.pl Fr), some (.ow A), some (.pl (qD x)), some (.pl (.int (m : Int))), none] μ = if (A.length < sizeLine ∧ 0 ≤ (m : Int) ∧ (m : Int) < 2 ^ 63) then some (.nx [some (.pl Fr), some (.ow (insAt A (m : Int).toNat (qD x))), some (.pl (qD x)), some (.pl (.int (m : Int))), none] μ) else none := rfl
  refine seq_nx (h3.trans (if_pos ⟨hlt, hmn, hj⟩)) ?_
  rfl
theorem io_loop {a : Nat} (Fr : D) (hs : a ≤ 1800) : ∀ (l acc : List Rat) (o : Option (D × D)), (∀ z ∈ l, Sz a z) → (∀ z ∈ acc, Sz a z) → acc.length + l.length ≤ 1000000 →
    ∃ o', forF (.nm 2) (fun ρ' μ' => execs (T (n + 1)) W ioBody ρ' μ') (l.map qD) (I1 Fr acc o) μ = some (.nx (I1 Fr (l.foldl (fun acc x => ins x acc) acc) o') μ)
  | [], acc, o, _, _, _ => ⟨o, rfl⟩
  | x :: l, acc, o, hx, ha, hl => by
    have hb := io_body (n := n) μ Fr acc x (o.map (·.2)) (hx x List.mem_cons_self) ha hs (by simp at hl; omega)
    have hins : ∀ z ∈ ins x acc, Sz a z := fun z hz => by
      rcases List.mem_cons.mp ((ins_perm x acc).mem_iff.mp hz) with rfl | hz
      · exact hx _ List.mem_cons_self
      · exact ha z hz
    have hlen : (ins x acc).length = acc.length + 1 := (ins_perm x acc).length_eq
    obtain ⟨o', ih⟩ := io_loop Fr hs l (ins x acc) (some (qD x, .int ((acc.filter fun o => !decide (x < o)).length : Nat))) (fun z hz => hx z (List.mem_cons_of_mem _ hz)) hins (by rw [hlen]; simp at hl; omega)
    refine ⟨o', ?_⟩
    rw [List.map_cons, List.foldl_cons]
    unfold forF
    have e1 : bindT (.nm 2) (qD x) (I1 Fr acc o) = some [some (.pl Fr), some (.ow (acc.map qD)), some (.pl (qD x)), (o.map (·.2)).map .pl, none] := by
      cases o <;> rfl
    rw [e1]
    show (match execs (T (n + 1)) W ioBody [some (.pl Fr), some (.ow (acc.map qD)), some (.pl (qD x)), (o.map (·.2)).map .pl, none] μ with | none => none | some (.nx ρ2 μ2) => _ | some (.ct ρ2 μ2) => _ | some (.bk ρ2 μ2) => _ | some (.rt d μ2) => _) = _
    rw [hb]
    exact ih
theorem in_order_at {a : Nat} (l : List Rat) (hs : a ≤ 1800) (hz : ∀ z ∈ l, Sz a z) (hl : l.length ≤ 1000000) : T (n + 2) 67 [.lst (l.map qD)] μ = some (.lst ((isort l).map qD), μ) := by
  obtain ⟨o', h⟩ := io_loop (n := n) μ (.lst (l.map qD)) hs l [] none hz (fun z hz => by cases hz) (by simpa using hl)
  have hB : B_in_order 7 = (.cons (.own 1) (.cons (.for_ (.nm 2) (.seq (.var 0)) ioBody) (.cons (.frz 1) (.cons (.ret (.var 1)) .nil)))) := rfl
  refine (T_at (f := 67) (n := n + 1) (d := d_in_order) rfl _ _).trans ?_
  unfold d_in_order
  rw [hB]
  refine run_rt (μ1 := μ) rfl (Nat.le_of_ble_eq_true rfl) ?_
  refine seq_nx (ρ1 := I1 (.lst (l.map qD)) [] none) (μ1 := μ) rfl ?_
  refine seq_nx (ρ1 := I1 (.lst (l.map qD)) (isort l) o') (μ1 := μ) (for_of (xs := l.map qD) (μ1 := μ) rfl rfl h) ?_
  have h2 : execs (T (n + 1)) W (.cons (.frz 1) (.cons (.ret (.var 1)) .nil)) (I1 (.lst (l.map qD)) (isort l) o') μ = some (.rt (.lst ((isort l).map qD)) μ) := by
    cases o' <;> rfl
  exact h2
end
end K12

set_option Elab.async false
set_option linter.all false
set_option maxRecDepth 100000
set_option maxHeartbeats 4000000
/-! meeting times -/
namespace K12
open FM
open PySem (Str sizeLine)
def Tp (i : Nat) : Rat := (((2 ^ i : Nat) : Int) : Rat)
theorem Tp_sz (i : Nat) (h : i ≤ 10) : Sz 12 (Tp i) := sz_int (k := 11) (by
  unfold Sm
  rw [Int.natAbs_natCast]
  exact Nat.lt_of_le_of_lt (Nat.pow_le_pow_right (by decide) h) (by decide))
theorem Tp_next (i : Nat) : Tp i * 2 = Tp (i + 1) := by
  unfold Tp
  have e : ((2 ^ (i + 1) : Nat) : Int) = ((2 ^ i : Nat) : Int) * 2 := by rw [Nat.pow_succ]; push_cast; rfl
  rw [e]
  push_cast
  rfl
theorem Tp_le (i : Nat) (h : i ≤ 10) : Tp i ≤ 1024 := by
  unfold Tp
  have : 2 ^ i ≤ 2 ^ 10 := Nat.pow_le_pow_right (by decide) h
  have : ((2 ^ i : Nat) : Int) ≤ 1024 := by omega
  have c : ((1024 : Int) : Rat) = 1024 := rfl
  rw [← c]
  exact Rat.intCast_le_intCast.mpr this
section
variable {lo hi p0 d0 : I3 → Rat} (h : Dr lo hi p0 d0) {T' : Rat} {k : I3}
include h
theorem cn_small (hT : T' ≤ 1024) (k : I3) : cn lo hi p0 d0 T' k < 1000000 := by
  by_cases e : d0 k = 0
  · unfold cn; rw [if_pos e]; decide
  · apply Classical.byContradiction
    intro w
    obtain ⟨e1, e2, e3, e4⟩ := ee_le h e
    have := (cn_lt (T := T') h.bx e 999999).mp (by omega)
    have c : ((999999 : Nat) : Rat) = 999999 := rfl
    rw [c] at this
    grind
theorem cn_le (hT : T' ≤ 512) (k : I3) : cn lo hi p0 d0 T' k ≤ 4000 := by
  by_cases e : d0 k = 0
  · unfold cn; rw [if_pos e]; decide
  · apply Classical.byContradiction
    intro w
    obtain ⟨e1, e2, e3, e4⟩ := ee_le h e
    have := (cn_lt (T := T') h.bx e 4000).mp (by omega)
    have c : ((4000 : Nat) : Rat) = 4000 := rfl
    rw [c] at this
    grind
theorem cn_tot (i : Nat) (hi' : i ≤ 9) : cn lo hi p0 d0 (Tp i) 0 + (cn lo hi p0 d0 (Tp i) 1 + cn lo hi p0 d0 (Tp i) 2) ≤ 12000 := by
  have hT : Tp i ≤ 512 := by
    unfold Tp
    have : 2 ^ i ≤ 2 ^ 9 := Nat.pow_le_pow_right (by decide) hi'
    have : ((2 ^ i : Nat) : Int) ≤ 512 := by omega
    have c : ((512 : Int) : Rat) = 512 := rfl
    rw [← c]
    exact Rat.intCast_le_intCast.mpr this
  have := cn_le h hT 0
  have := cn_le h hT 1
  have := cn_le h hT 2
  omega
theorem cn_big (hT : 512 ≤ T') : ∃ k, 7 ≤ cn lo hi p0 d0 T' k := by
  obtain ⟨k, hk⟩ := h.hd
  refine ⟨k, ?_⟩
  obtain ⟨e1, e2, e3, e4⟩ := ee_le h hk
  have := (cn_lt (T := T') h.bx hk 6).mpr (by
    have c : ((6 : Nat) : Rat) = 6 := rfl
    rw [c]
    grind)
  omega
theorem hk_len (k : I3) : (hk lo hi p0 d0 T' (fun _ => 0) k).length = cn lo hi p0 d0 T' k := by
  unfold FM.hk
  rw [List.length_map, List.length_range']
  rfl
theorem hits_eq : hits lo hi p0 d0 T' (fun _ => 0) [0, 1, 2] = hk lo hi p0 d0 T' (fun _ => 0) 0 ++ (hk lo hi p0 d0 T' (fun _ => 0) 1 ++ hk lo hi p0 d0 T' (fun _ => 0) 2) := by
  unfold hits
  simp [List.flatMap_cons]
theorem hits_many (hT : 512 ≤ T') : 7 ≤ (hits lo hi p0 d0 T' (fun _ => 0) [0, 1, 2]).length := by
  rw [hits_eq h, List.length_append, List.length_append, hk_len h, hk_len h, hk_len h]
  obtain ⟨k, hk⟩ := cn_big h hT
  rcases i3_cases k with rfl | rfl | rfl <;> omega
theorem bb_sz (hk : d0 k ≠ 0) : Sz 100 (bb lo hi p0 d0 k) ∧ Sz 100 (ee lo hi d0 k) := by
  haveI := lo_sz h
  haveI := hi_sz h
  haveI := p0_sz h
  haveI := d0_sz h
  constructor
  · unfold bb lvl
    split
    · exact Sz.mono (Sz.div (x := hi k - p0 k) (y := d0 k)) (by decide)
    · exact Sz.mono (Sz.div (x := lo k - p0 k) (y := d0 k)) (by decide)
  · unfold ee sd ab
    split
    · exact Sz.mono (Sz.div (x := hi k - lo k) (y := d0 k)) (by decide)
    · exact Sz.mono (Sz.div (x := hi k - lo k) (y := -(d0 k))) (by decide)
theorem hits_sz (hT : T' ≤ 1024) : ∀ z ∈ hits lo hi p0 d0 T' (fun _ => 0) [0, 1, 2], Sz 222 z := by
  intro z hz
  obtain ⟨k, _, hk⟩ := List.mem_flatMap.mp hz
  unfold FM.hk at hk
  obtain ⟨j, hj, e⟩ := List.mem_map.mp hk
  have hj := List.mem_range'_1.mp hj
  have hs := cn_small h hT k
  have hc : d0 k ≠ 0 := by
    intro z
    unfold cn at hj
    rw [if_pos z] at hj
    omega
  obtain ⟨b1, b2⟩ := bb_sz h hc
  subst e
  exact tl_sz (a := 100) j (by omega)
theorem dd_ok (k : I3) : Dd (hi k - p0 k) (d0 k) ∧ Dd (lo k - p0 k) (d0 k) ∨ d0 k = 0 := by
  by_cases e : d0 k = 0
  · exact .inr e
  · left
    have dn := (d0_sz h k).n
    have c : ((48 : Nat) : Rat) = 48 := rfl
    have d1 : (hi k - p0 k).den ≤ 48 := lat_den (by decide) (by rw [c]; exact (((h6 h k).mul (IsZ.lit 8 rfl)).sub (h.p48 k)).of (by grind))
    have d2 : (lo k - p0 k).den ≤ 48 := lat_den (by decide) (by rw [c]; exact (((h.l6 k).mul (IsZ.lit 8 rfl)).sub (h.p48 k)).of (by grind))
    unfold Sm at dn
    have fin : ∀ D : Nat, D ≤ 48 → D * (d0 k).num.natAbs < 1073741824 := fun D hD => Nat.lt_of_le_of_lt (Nat.mul_le_mul hD (Nat.le_of_lt dn)) (by decide)
    exact ⟨⟨e, .inr (fin _ d1)⟩, ⟨e, .inr (fin _ d2)⟩⟩
end
section
variable {n : Nat} (μ : Cells) {lo hi p0 d0 : I3 → Rat} (h : Dr lo hi p0 d0)
include h
theorem levels_at (i : Nat) (hi' : i ≤ 10) (k : I3) : T (n + 4) 62 [qD (lo k), qD (hi k), qD (p0 k), qD (d0 k), qD (Tp i)] μ = some (.tup ((hk lo hi p0 d0 (Tp i) (fun _ => 0) k).map qD), μ) := by
  haveI : ∀ k, Sz 10 (lo k) := fun k => (lo_sz h k).mono (by decide)
  haveI : ∀ k, Sz 10 (hi k) := fun k => (hi_sz h k).mono (by decide)
  haveI : ∀ k, Sz 10 (p0 k) := fun k => (p0_sz h k).mono (by decide)
  haveI : ∀ k, Sz 10 (d0 k) := fun k => (d0_sz h k).mono (by decide)
  haveI := Tp_sz i hi'
  exact times_levels_at (n := n) (a := 10) (c := 12) μ (by decide) (by decide) h.bx k (dd_ok h k) (fun e => (ee_le h e).2.2.1) (cn_small h (Tp_le i hi') k)
end
/-! ### the loop -/
local macro_rules | `(tactic| walk_at "go") => `(tactic| simp [FM.runFn, FM.FD.fn, FM.execs, FM.exec, FM.ev, FM.evs, FM.evo, FM.evc, FM.evi, FM.lk, FM.lks, FM.It.lk, FM.isOw, FM.noOw, FM.Sl.isOw, FM.Sl.d, FM.isiD, FM.cmpD, FM.negD, FM.setAll, FM.bindT, FM.andThen_some', FM.onBl_bl, FM.wthD_some', FM.eqD_int, FM.ix_tup, FM.ix_lst, FM.atI_0, FM.atI_1, FM.atI_2, FM.op_add, FM.op_sub, FM.szle, FM.forF, FM.lcGo, FM.biD, K12.eqD_nil, K12.qD_0, K12.qD_1, K12.vD_0, K12.vD_1, K12.vD_2, K12.rng3, K12.rng0, K12.rngOk_3, K12.rngOk_0, FM.zipD, FM.zipD3, K12.szlt, K12.qd0, K12.qd1, K12.qd2, K12.eqD_str, K12.is_non_s, K12.is_non_n, K12.is_non_t, K12.bx0, K12.bx1, K12.bx2, K12.ry0, K12.ry1, K12.ry2, FM.eqD_q, K12.eqD_bl, K12.mod2, K12.sl_take, *])
def mtBody : Ss := (.cons (.own 4) (.cons (.for_ (.nm 5) (.rng1 (.int 3)) (.cons (.ext 4 (.call 62 (.cons (.ix (.ix (.var 0) (.int 1)) (.var 5)) (.cons (.ix (.ix (.var 0) (.int 2)) (.var 5)) (.cons (.ix (.ix (.var 1) (.int 1)) (.var 5)) (.cons (.ix (.ix (.var 1) (.int 2)) (.var 5)) (.cons (.var 3) .nil))))))) .nil)) (.cons (.ifs (.cmp .GtE (.bi .len (.cons (.var 4) .nil)) (.var 2)) (.cons (.frz 4) (.cons (.ret (.bi .tuple (.cons (.sl (.call 67 (.cons (.var 4) .nil)) .none (.some (.var 2))) .nil))) .nil)) .nil) (.cons (.asg 3 (.call 4 (.cons (.var 3) (.cons (.tup (.cons (.int 2) (.cons (.int 1) .nil))) .nil)))) (.cons (.frz 4) .nil)))))
def Mt (B R : D) (m : Nat) (T' : Rat) (o : Option (D × D)) : Env := [some (.pl B), some (.pl R), some (.pl (.int (m : Int))), some (.pl (qD T')), o.map (fun x => .pl x.1), o.map (fun x => .pl x.2)]
section
variable {n : Nat} (μ : Cells) {lo hi p0 d0 : I3 → Rat} (h : Dr lo hi p0 d0)
include h
theorem mt_body (i m : Nat) (hi' : i ≤ 9) (o : Option (D × D)) :
    (m ≤ (hits lo hi p0 d0 (Tp i) (fun _ => 0) [0, 1, 2]).length → execs (T (n + 4)) W mtBody (Mt (boxD lo hi) (rayD p0 d0) m (Tp i) o) μ = some (.rt (.tup (((isort (hits lo hi p0 d0 (Tp i) (fun _ => 0) [0, 1, 2])).take m).map qD)) μ)) ∧
    (¬ m ≤ (hits lo hi p0 d0 (Tp i) (fun _ => 0) [0, 1, 2]).length → ∃ o', execs (T (n + 4)) W mtBody (Mt (boxD lo hi) (rayD p0 d0) m (Tp i) o) μ = some (.nx (Mt (boxD lo hi) (rayD p0 d0) m (Tp (i + 1)) o') μ)) := by
  have l0 := levels_at (n := n) μ h i (by omega) 0
  have l1 := levels_at (n := n) μ h i (by omega) 1
  have l2 := levels_at (n := n) μ h i (by omega) 2
  haveI := Tp_sz i (by omega)
  have zt := times_at (n := n + 1) (x := Tp i) (y := 2) μ (by decide) (by decide)
  rw [Tp_next] at zt
  have c0 := cn_small h (Tp_le i (by omega)) 0
  have c1 := cn_small h (Tp_le i (by omega)) 1
  have c2 := cn_small h (Tp_le i (by omega)) 2
  have hl := hits_sz h (Tp_le i (by omega))
  rw [hits_eq h] at hl ⊢
  have k0 := hk_len (T' := Tp i) h 0
  have k1 := hk_len (T' := Tp i) h 1
  have k2 := hk_len (T' := Tp i) h 2
  have hlen : (hk lo hi p0 d0 (Tp i) (fun _ => 0) 0 ++ (hk lo hi p0 d0 (Tp i) (fun _ => 0) 1 ++ hk lo hi p0 d0 (Tp i) (fun _ => 0) 2)).length ≤ 4000000 := by
    rw [List.length_append, List.length_append]; omega
  have zo := in_order_at (n := n + 2) (a := 222) μ (hk lo hi p0 d0 (Tp i) (fun _ => 0) 0 ++ (hk lo hi p0 d0 (Tp i) (fun _ => 0) 1 ++ hk lo hi p0 d0 (Tp i) (fun _ => 0) 2)) (by decide) hl (by
    rw [List.length_append, List.length_append]
    have := cn_tot h i hi'
    omega)
  clear hl c0 c1 c2 hlen
  generalize hk lo hi p0 d0 (Tp i) (fun _ => 0) 0 = A at *
  generalize hk lo hi p0 d0 (Tp i) (fun _ => 0) 1 = B at *
  generalize hk lo hi p0 d0 (Tp i) (fun _ => 0) 2 = C at *
  have q0 : A.length ≤ sizeLine := szq (by have := cn_tot h i hi'; omega)
  have q1 : A.length + B.length ≤ sizeLine := szq (by have := cn_tot h i hi'; omega)
  have q2 : A.length + B.length + C.length ≤ sizeLine := szq (by have := cn_tot h i hi'; omega)
  have q2' : A.length + (B.length + C.length) ≤ sizeLine := by rw [← Nat.add_assoc]; exact q2
  generalize isort (A ++ (B ++ C)) = S at *
  simp only [List.map_append] at zo
  clear k0 k1 k2 h
  generalize Tp i = t1 at *
  generalize Tp (i + 1) = t2 at *
  clear hi'
  constructor
  · intro hm
    have hm' : (m : Int) ≤ (A.length : Int) + ((B.length : Int) + (C.length : Int)) := by
      rw [List.length_append, List.length_append] at hm
      omega
    have hm2 : (m : Int) ≤ (A.length : Int) + (B.length : Int) + (C.length : Int) := by omega
    clear hm
    unfold mtBody Mt
    cases o <;> walk_at "go"
  · intro hm
    have hm' : ¬ (m : Int) ≤ (A.length : Int) + ((B.length : Int) + (C.length : Int)) := by
      rw [List.length_append, List.length_append] at hm
      omega
    have hm2 : ¬ (m : Int) ≤ (A.length : Int) + (B.length : Int) + (C.length : Int) := by omega
    clear hm
    refine ⟨some (.lst ((A ++ (B ++ C)).map qD), .int 2), ?_⟩
    rw [List.map_append, List.map_append]
    unfold mtBody Mt
    cases o <;> walk_at "go"
/-- the first so many times at faces -/
def tms (lo hi p0 d0 : I3 → Rat) (m : Nat) : List Rat := ((wk lo hi p0 d0 m (fun _ => 0)).map Ev.t).take m
theorem mt_loop (m : Nat) (hm : m ≤ 7) : ∀ (r i k : Nat) (o : Option (D × D)), i + r = 9 →
    whileF (fun ρ' μ' => onBl (ev (T (n + 4)) (.bl true) ρ' μ') fun x μ1 => some (x, μ1)) (fun ρ' μ' => execs (T (n + 4)) W mtBody ρ' μ') (r + 1 + k) (Mt (boxD lo hi) (rayD p0 d0) m (Tp i) o) μ = some (.rt (.tup ((tms lo hi p0 d0 m).map qD)) μ)
  | r, i, k, o, hr => by
    obtain ⟨b1, b2⟩ := mt_body (n := n) μ h i m (by omega) o
    have e1 : onBl (ev (T (n + 4)) (.bl true) (Mt (boxD lo hi) (rayD p0 d0) m (Tp i) o) μ) (fun x μ1 => some (x, μ1)) = some (true, μ) := rfl
    rw [show r + 1 + k = (r + k) + 1 by omega]
    unfold whileF
    rw [e1]
    by_cases c : m ≤ (hits lo hi p0 d0 (Tp i) (fun _ => 0) [0, 1, 2]).length
    · have b := b1 c
      rw [merge_take h.hd h.bx m m (fun _ => 0) (Nat.le_refl _) c] at b
      show (match execs (T (n + 4)) W mtBody (Mt (boxD lo hi) (rayD p0 d0) m (Tp i) o) μ with | none => none | some (.nx ρ2 μ2) => _ | some (.ct ρ2 μ2) => _ | some (.bk ρ2 μ2) => _ | some (.rt d μ2) => _) = _
      rw [b]
      rfl
    · cases r with
      | zero =>
        exfalso
        have hi9 : i = 9 := by omega
        subst hi9
        have := hits_many (T' := Tp 9) h (by unfold Tp; exact Rat.le_refl)
        omega
      | succ r =>
        obtain ⟨o', b⟩ := b2 c
        show (match execs (T (n + 4)) W mtBody (Mt (boxD lo hi) (rayD p0 d0) m (Tp i) o) μ with | none => none | some (.nx ρ2 μ2) => _ | some (.ct ρ2 μ2) => _ | some (.bk ρ2 μ2) => _ | some (.rt d μ2) => _) = _
        rw [b]
        have ih := mt_loop m hm r (i + 1) k o' (by omega)
        rw [show r + 1 + k = r + 1 + k from rfl] at ih
        exact ih
theorem meeting_at (m : Nat) (hm : m ≤ 7) : T (n + 5) 66 [boxD lo hi, rayD p0 d0, .int (m : Int)] μ = some (.tup ((tms lo hi p0 d0 m).map qD), μ) := by
  obtain ⟨k, hk⟩ := W_split 9 (by omega)
  have hl := mt_loop (n := n) μ h m hm 9 0 k none rfl
  rw [← hk] at hl
  have hB : B_meeting_times 62 67 4 = (.cons (.asg 3 (.tup (.cons (.int 1) (.cons (.int 1) .nil)))) (.cons (.whl (.bl true) mtBody) .nil)) := rfl
  refine (T_at (f := 66) (n := n + 4) (d := d_meeting_times) rfl _ _).trans ?_
  unfold d_meeting_times
  rw [hB]
  refine run_rt (μ1 := μ) rfl (Nat.le_of_ble_eq_true rfl) ?_
  refine seq_nx (ρ1 := Mt (boxD lo hi) (rayD p0 d0) m (Tp 0) none) (μ1 := μ) rfl ?_
  exact seq_rt (whl_of hl)
end
end K12

set_option Elab.async false
set_option linter.all false
set_option maxRecDepth 100000
set_option maxHeartbeats 4000000
/-! through an edge, faces met -/
namespace K12
open FM
open PySem (Str sizeLine)
theorem atI_map {α : Type} (l : List α) (f : α → D) (k : Nat) (h : k < l.length) (h2 : l.length ≤ 1000000) : L2.atI (l.map f) (k : Int) = some (f l[k]) := by
  unfold L2.atI L2.ixN
  have e1 : (0 : Int) ≤ (k : Int) := by omega
  simp [h]
theorem ixt {l : List Rat} {k : Nat} (μ : Cells) (h : k < l.length) (h2 : l.length ≤ 1000000) : ixD μ (.tup (l.map qD)) (.int (k : Int)) = some (qD (l.getD k 0)) := by
  rw [ix_tup, atI_map l qD k h h2]
  congr 2
  rw [List.getD_eq_getElem?_getD, List.getElem?_eq_getElem h]
  rfl
def twiceB (l : List Rat) : Bool := (List.range (l.length - 1)).any fun k => decide (l.getD k 0 = l.getD (k + 1) 0)
theorem asBls_map {α : Type} (f : α → Bool) : ∀ l : List α, asBls (l.map fun a => D.bl (f a)) = some (l.map f)
  | [] => rfl
  | a :: l => by
    rw [List.map_cons]
    unfold asBls
    rw [asBls_map f l]
    rfl
local macro_rules | `(tactic| walk_at "go") => `(tactic| simp [FM.runFn, FM.FD.fn, FM.execs, FM.exec, FM.ev, FM.evs, FM.evo, FM.evc, FM.evi, FM.lk, FM.lks, FM.It.lk, FM.isOw, FM.noOw, FM.Sl.isOw, FM.Sl.d, FM.isiD, FM.cmpD, FM.negD, FM.setAll, FM.bindT, FM.andThen_some', FM.onBl_bl, FM.wthD_some', FM.eqD_int, FM.ix_tup, FM.ix_lst, FM.atI_0, FM.atI_1, FM.atI_2, FM.op_add, FM.op_sub, FM.szle, FM.forF, FM.lcGo, FM.biD, K12.eqD_nil, K12.qD_0, K12.qD_1, K12.vD_0, K12.vD_1, K12.vD_2, K12.rng3, K12.rng0, K12.rngOk_3, K12.rngOk_0, FM.zipD, FM.zipD3, K12.szlt, K12.qd0, K12.qd1, K12.qd2, K12.eqD_str, K12.is_non_s, K12.is_non_n, K12.is_non_t, K12.bx0, K12.bx1, K12.bx2, K12.ry0, K12.ry1, K12.ry2, FM.eqD_q, K12.eqD_bl, K12.mod2, K12.sl_take, *])
section
variable {n : Nat} (μ : Cells) {lo hi p0 d0 : I3 → Rat} (h : Dr lo hi p0 d0)
theorem edge_lc (F : Fs) (l : List Rat) (hl : l.length ≤ 1000) (hl1 : 1 ≤ l.length) (a b c : Option D) : ev F (.bi .any (.cons (.lc (.cmp .Eq (.ix (.var 3) (.var 4)) (.ix (.var 3) (.op .Add (.var 4) (.int 1)))) (.nm 4) (.rng1 (.op .Sub (.bi .len (.cons (.var 3) .nil)) (.int 1))) .none) .nil)) [a.map .pl, b.map .pl, c.map .pl, some (.pl (.tup (l.map qD))), none] μ = some (.bl (twiceB l), μ) := by
  have e : ev F (.lc (.cmp .Eq (.ix (.var 3) (.var 4)) (.ix (.var 3) (.op .Add (.var 4) (.int 1)))) (.nm 4) (.rng1 (.op .Sub (.bi .len (.cons (.var 3) .nil)) (.int 1))) .none) [a.map .pl, b.map .pl, c.map .pl, some (.pl (.tup (l.map qD))), none] μ = some (.lst ((List.range (l.length - 1)).map fun k => D.bl (decide (l.getD k 0 = l.getD (k + 1) 0))), μ) := by
    have e0 : (List.range (l.length - 1)).map (fun k => D.bl (decide (l.getD k 0 = l.getD (k + 1) 0))) = ((List.range (l.length - 1)).filter fun _ => true).map fun k => D.bl (decide (l.getD k 0 = l.getD (k + 1) 0)) := by
      rw [List.filter_eq_self.mpr (by simp)]
    rw [e0]
    refine lc_of (xs := (List.range (l.length - 1)).map fun (k : Nat) => D.int (k : Int)) (μ1 := μ) ?_ (by simp; omega) ?_
    · have e2 : ev F (.op .Sub (.bi .len (.cons (.var 3) .nil)) (.int 1)) [a.map .pl, b.map .pl, c.map .pl, some (.pl (.tup (l.map qD))), none] μ = some (.int ((l.length : Int) - 1), μ) := by
        unfold ev
        have : ev F (.bi .len (.cons (.var 3) .nil)) [a.map .pl, b.map .pl, c.map .pl, some (.pl (.tup (l.map qD))), none] μ = some (.int (((l.map qD).length : Nat) : Int), μ) := by
          cases a <;> cases b <;> cases c <;> rfl
        rw [this, List.length_map]
        rfl
      unfold evi
      rw [e2]
      have hr : rngOk ((l.length : Int) - 1) = true := by
        unfold rngOk
        rw [Bool.and_eq_true, decide_eq_true_eq, decide_eq_true_eq]
        omega
      show (if rngOk ((l.length : Int) - 1) = true then some (rngD 0 ((l.length : Int) - 1).toNat, μ) else none) = _
      rw [if_pos hr, show ((l.length : Int) - 1).toNat = l.length - 1 by omega]
      unfold rngD
      congr 2
      apply List.map_congr_left
      intro k _
      show D.int (0 + (k : Int)) = _
      rw [Int.zero_add]
    · refine lc_gen (fun (k : Nat) => D.int (k : Int)) (fun _ => true) (fun k => D.bl (decide (l.getD k 0 = l.getD (k + 1) 0))) (List.range (l.length - 1)) (fun k _ => rfl) (fun k hk _ => ?_)
      have hk := List.mem_range.mp hk
      have i1 := ixt (l := l) (k := k) μ (by omega) (by omega)
      have i2 := ixt (l := l) (k := k + 1) μ (by omega) (by omega)
      have c1 : ((k + 1 : Nat) : Int) = (k : Int) + 1 := by omega
      rw [c1] at i2
      clear hk e0 c1 hl hl1
      generalize l.getD k 0 = w1 at *
      generalize l.getD (k + 1) 0 = w2 at *
      generalize D.tup (l.map qD) = td at *
      cases a <;> cases b <;> cases c <;> walk_at "go"
  unfold ev evs
  rw [e]
  show wthD (biD μ .any [.lst ((List.range (l.length - 1)).map fun k => D.bl (decide (l.getD k 0 = l.getD (k + 1) 0)))]) μ = _
  have e3 : biD μ .any [.lst ((List.range (l.length - 1)).map fun k => D.bl (decide (l.getD k 0 = l.getD (k + 1) 0)))] = some (.bl (twiceB l)) := by
    show (asBls ((List.range (l.length - 1)).map fun k => D.bl (decide (l.getD k 0 = l.getD (k + 1) 0)))).map (fun bs => D.bl (bs.any id)) = _
    rw [asBls_map]
    unfold twiceB
    simp [List.any_map, Function.comp]
  rw [e3]
  rfl
theorem wk_len (hd : ∃ k, d0 k ≠ 0) : ∀ (m : Nat) (n : Cnt), m ≤ (wk lo hi p0 d0 m n).length
  | 0, _ => Nat.zero_le _
  | m + 1, n => by
    have := wk_len hd m (nN lo hi p0 d0 n)
    have hs : (sN lo hi p0 d0 n).length ≠ 0 := fun z => sN_ne hd (List.length_eq_zero_iff.mp z)
    show m + 1 ≤ (evs1 lo hi p0 d0 n ++ wk lo hi p0 d0 m (nN lo hi p0 d0 n)).length
    rw [List.length_append]
    unfold evs1
    rw [List.length_map]
    omega
include h
theorem tms_len (m : Nat) : (tms lo hi p0 d0 m).length = m := by
  unfold tms
  rw [List.length_take, List.length_map]
  have := wk_len (lo := lo) (hi := hi) (p0 := p0) (d0 := d0) h.hd m (fun _ => 0)
  omega
theorem edge_at (m : Nat) (hm : m ≤ 7) (hm1 : 1 ≤ m) : T (n + 6) 68 [boxD lo hi, rayD p0 d0, .int (m : Int)] μ = some (.bl (twiceB (tms lo hi p0 d0 m)), μ) := by
  have z := meeting_at (n := n) μ h m hm
  have hl := tms_len h m
  have e := edge_lc μ (T (n + 5)) (tms lo hi p0 d0 m) (by omega) (by omega) (some (boxD lo hi)) (some (rayD p0 d0)) (some (.int (m : Int)))
  refine (T_at (f := 68) (n := n + 5) (d := d_is_through_edge) rfl _ _).trans ?_
  have hB : B_is_through_edge 66 = (.cons (.asg 3 (.call 66 (.cons (.var 0) (.cons (.var 1) (.cons (.var 2) .nil))))) (.cons (.ret (.bi .any (.cons (.lc (.cmp .Eq (.ix (.var 3) (.var 4)) (.ix (.var 3) (.op .Add (.var 4) (.int 1)))) (.nm 4) (.rng1 (.op .Sub (.bi .len (.cons (.var 3) .nil)) (.int 1))) .none) .nil))) .nil)) := rfl
  unfold d_is_through_edge
  rw [hB]
  refine run_rt (μ1 := μ) rfl (Nat.le_of_ble_eq_true rfl) ?_
  have hk : ∀ ρ : Env, lk ρ (E.bi .any (.cons (.lc (.cmp .Eq (.ix (.var 3) (.var 4)) (.ix (.var 3) (.op .Add (.var 4) (.int 1)))) (.nm 4) (.rng1 (.op .Sub (.bi .len (.cons (.var 3) .nil)) (.int 1))) .none) .nil)) = false := fun _ => rfl
  generalize E.bi .any (.cons (.lc (.cmp .Eq (.ix (.var 3) (.var 4)) (.ix (.var 3) (.op .Add (.var 4) (.int 1)))) (.nm 4) (.rng1 (.op .Sub (.bi .len (.cons (.var 3) .nil)) (.int 1))) .none) .nil) = be at *
  refine seq_nx (ρ1 := [some (.pl (boxD lo hi)), some (.pl (rayD p0 d0)), some (.pl (.int (m : Int))), some (.pl (.tup ((tms lo hi p0 d0 m).map qD))), none]) (μ1 := μ) ?_ ?_
  · clear e hk
    walk_at "go"
  · refine seq_rt ?_
    unfold exec
    rw [hk]
    rw [show ev (T (n + 5)) be [some (.pl (boxD lo hi)), some (.pl (rayD p0 d0)), some (.pl (.int (m : Int))), some (.pl (.tup ((tms lo hi p0 d0 m).map qD))), none] μ = some (.bl (twiceB (tms lo hi p0 d0 m)), μ) from e]
    rfl
/-! ### faces -/
omit h
def kI (k : I3) : Int := ((k.val : Nat) : Int)
abbrev Rw : Type := Rat × I3 × Bool
def rwD (r : Rw) : D := .tup [qD r.1, .int (kI r.2.1), .bl r.2.2]
def prD (r : Rw) : D := .tup [qD r.1, .int (kI r.2.1)]
theorem kI_inj {j k : I3} : (kI j = kI k) ↔ j = k := by
  rcases i3_cases j with rfl | rfl | rfl <;> rcases i3_cases k with rfl | rfl | rfl <;> decide
theorem sl_pair (μ : Cells) (a b c : D) : slD (.tup [a, b, c]) none (some 2) = some (.tup [a, b]) := rfl
theorem sh_pr (r : Rw) : Sh 2 (prD r) := .tup (.cons (sh_q _) (.cons (.int _ _) (.nil _)))
theorem eqv_pr (r s : Rw) : PySem.PyData.eqv (prD r).py (prD s).py = decide (r.1 = s.1 ∧ r.2.1 = s.2.1) := by
  have : PySem.PyData.eqv (prD r).py (prD s).py = (PySem.PyData.eqv (qD r.1).py (qD s.1).py && ((kI r.2.1 == kI s.2.1) && true)) := by
    simp only [prD, D.py, pyAll, PySem.PyData.eqv, PySem.PyData.eqvAll]
  rw [this, eqv_q, Bool.and_true, Bool.eq_iff_iff]
  simp [kI_inj]
theorem py_map (f : Rw → D) : ∀ l : List Rw, pyAll (l.map f) = l.map fun r => (f r).py
  | [] => rfl
  | r :: l => by
    rw [List.map_cons]
    unfold pyAll
    rw [py_map f l]
    rfl
theorem notin_at (rows : List Rw) (t : Rat) (k : I3) : cmpD .NotIn (.tup [qD t, .int (kI k)]) (.lst (rows.map prD)) = some (!(rows.any fun r => decide (r.1 = t ∧ r.2.1 = k))) := by
  have hx : D.tup [qD t, .int (kI k)] = prD (t, k, true) := rfl
  rw [hx]
  show (inX (prD (t, k, true)) (rows.map prD)).map not = _
  have h0 : inD (prD (t, k, true)) (rows.map prD) = none := by
    cases rows with
    | nil => rfl
    | cons r rows => rfl
  unfold inX
  rw [h0]
  have h1 : shOk (prD (t, k, true)) = true := (sh_pr _).ok (by decide)
  have h2 : shOk (.lst (rows.map prD)) = true := (Sh.lst (ShL.map prD sh_pr rows)).ok (by decide)
  rw [h1, h2]
  show some (!((pyAll (rows.map prD)).any fun z => PySem.PyData.eqv z (prD (t, k, true)).py)) = _
  rw [py_map, List.any_map]
  congr 2
  induction rows with
  | nil => rfl
  | cons r rows ih =>
    rw [List.any_cons, List.any_cons]
    have h0' : inD (prD (t, k, true)) (rows.map prD) = none := by
      cases rows with
      | nil => rfl
      | cons r rows => rfl
    have h2' : shOk (.lst (rows.map prD)) = true := (Sh.lst (ShL.map prD sh_pr rows)).ok (by decide)
    rw [ih h0' h2']
    congr 1
    exact eqv_pr r (t, k, true)
def fmIn : Ss := (.cons (.asg 6 (.call 2 (.cons (.ix (.ix (.var 1) (.int 1)) (.var 5)) (.cons (.call 4 (.cons (.ix (.ix (.var 1) (.int 2)) (.var 5)) (.cons (.var 4) .nil))) .nil)))) (.cons (.asg 7 (.call 5 (.cons (.call 3 (.cons (.var 6) (.cons (.ix (.ix (.var 0) (.int 1)) (.var 5)) .nil))) (.cons (.call 3 (.cons (.ix (.ix (.var 0) (.int 2)) (.var 5)) (.cons (.ix (.ix (.var 0) (.int 1)) (.var 5)) .nil))) .nil)))) (.cons (.ifs (.and (.cmp .NotEq (.ix (.ix (.ix (.var 1) (.int 2)) (.var 5)) (.int 0)) (.int 0)) (.and (.cmp .Eq (.ix (.var 7) (.int 1)) (.int 1)) (.cmp .NotIn (.tup (.cons (.var 4) (.cons (.var 5) .nil))) (.lc (.sl (.var 11) .none (.some (.int 2))) (.nm 11) (.seq (.var 3)) .none)))) (.cons (.app 3 (.tup (.cons (.var 4) (.cons (.var 5) (.cons (.cmp .Eq (.op .Mod (.ix (.var 7) (.int 0)) (.int 2)) (.int 1)) .nil))))) (.cons .brk .nil)) .nil) .nil)))
/-- what is asked of a side -/
def cK (lo hi p0 d0 : I3 → Rat) (rows : List Rw) (t : Rat) (k : I3) : Bool := decide (d0 k ≠ 0) && (decide ((trn lo hi p0 d0 t k).den = 1) && !(rows.any fun r => decide (r.1 = t ∧ r.2.1 = k)))
def upK (lo hi p0 d0 : I3 → Rat) (t : Rat) (k : I3) : Bool := decide ((trn lo hi p0 d0 t k).num % 2 = 1)
def Fe (B R : D) (m : Nat) (rows : List Rw) (t : D) (k : D) (o : Option (D × D)) : Env := [some (.pl B), some (.pl R), some (.pl (.int (m : Int))), some (.ow (rows.map rwD)), some (.pl t), some (.pl k), o.map (fun x => .pl x.1), o.map (fun x => .pl x.2), none, none, none, none]
end
end K12

set_option Elab.async false
set_option linter.all false
set_option maxRecDepth 100000
set_option maxHeartbeats 4000000
/-! faces met -/
namespace K12
open FM
open PySem (Str sizeLine)
theorem kI0 : kI 0 = 0 := rfl
theorem kI1 : kI 1 = 1 := rfl
theorem kI2 : kI 2 = 2 := rfl
theorem vD_k (μ : Cells) (v : I3 → Rat) (k : I3) : ixD μ (vD v) (.int (kI k)) = some (qD (v k)) := by
  rcases i3_cases k with rfl | rfl | rfl
  · rw [kI0, vD_0]
  · rw [kI1, vD_1]
  · rw [kI2, vD_2]
local macro_rules | `(tactic| walk_at "go") => `(tactic| simp [FM.runFn, FM.FD.fn, FM.execs, FM.exec, FM.ev, FM.evs, FM.evo, FM.evc, FM.evi, FM.lk, FM.lks, FM.It.lk, FM.isOw, FM.noOw, FM.Sl.isOw, FM.Sl.d, FM.isiD, FM.cmpD, FM.negD, FM.setAll, FM.bindT, FM.andThen_some', FM.onBl_bl, FM.wthD_some', FM.eqD_int, FM.ix_tup, FM.ix_lst, FM.atI_0, FM.atI_1, FM.atI_2, FM.op_add, FM.op_sub, FM.szle, FM.forF, FM.lcGo, FM.biD, K12.eqD_nil, K12.qD_0, K12.qD_1, K12.vD_0, K12.vD_1, K12.vD_2, K12.rng3, K12.rng0, K12.rngOk_3, K12.rngOk_0, FM.zipD, FM.zipD3, K12.szlt, K12.qd0, K12.qd1, K12.qd2, K12.eqD_str, K12.is_non_s, K12.is_non_n, K12.is_non_t, K12.bx0, K12.bx1, K12.bx2, K12.ry0, K12.ry1, K12.ry2, FM.eqD_q, K12.eqD_bl, K12.mod2, K12.sl_take, K12.vD_k, *])
section
variable {n : Nat} (μ : Cells) {lo hi p0 d0 : I3 → Rat} (h : Dr lo hi p0 d0) {t : Rat} [ht : Sz 24 t]
def fmCond : E := (.and (.cmp .NotEq (.ix (.ix (.ix (.var 1) (.int 2)) (.var 5)) (.int 0)) (.int 0)) (.and (.cmp .Eq (.ix (.var 7) (.int 1)) (.int 1)) (.cmp .NotIn (.tup (.cons (.var 4) (.cons (.var 5) .nil))) (.lc (.sl (.var 11) .none (.some (.int 2))) (.nm 11) (.seq (.var 3)) .none))))
theorem fm_lc (F : Fs) (B R : D) (m : Nat) (rows : List Rw) (hr : rows.length ≤ 1000) (t k : D) (x : D × D) : ev F (.lc (.sl (.var 11) .none (.some (.int 2))) (.nm 11) (.seq (.var 3)) .none) (Fe B R m rows t k (some x)) μ = some (.lst (rows.map prD), μ) := by
  have e0 : rows.map prD = (rows.filter fun _ => true).map prD := by rw [List.filter_eq_self.mpr (by simp)]
  rw [e0]
  refine lc_of (xs := rows.map rwD) (μ1 := μ) rfl (by simp; omega) ?_
  exact lc_gen rwD (fun _ => true) prD rows (fun r _ => rfl) (fun r _ _ => rfl)
theorem fm_cond (F : Fs) (m : Nat) (rows : List Rw) (hr : rows.length ≤ 1000) (k : I3) (y : D) : ev F fmCond (Fe (boxD lo hi) (rayD p0 d0) m rows (qD t) (.int (kI k)) (some (y, qD (trn lo hi p0 d0 t k)))) μ = some (.bl (cK lo hi p0 d0 rows t k), μ) := by
  have e1 : ev F (.cmp .NotEq (.ix (.ix (.ix (.var 1) (.int 2)) (.var 5)) (.int 0)) (.int 0)) (Fe (boxD lo hi) (rayD p0 d0) m rows (qD t) (.int (kI k)) (some (y, qD (trn lo hi p0 d0 t k)))) μ = some (.bl (decide (d0 k ≠ 0)), μ) := by
    unfold Fe
    walk_at "go"
  have e2 : ev F (.cmp .Eq (.ix (.var 7) (.int 1)) (.int 1)) (Fe (boxD lo hi) (rayD p0 d0) m rows (qD t) (.int (kI k)) (some (y, qD (trn lo hi p0 d0 t k)))) μ = some (.bl (decide ((trn lo hi p0 d0 t k).den = 1)), μ) := by
    have e : (decide (((trn lo hi p0 d0 t k).den : Int) = 1)) = decide ((trn lo hi p0 d0 t k).den = 1) := decide_eq_decide.mpr (by omega)
    unfold Fe
    rw [← e]
    generalize trn lo hi p0 d0 t k = w
    walk_at "go"
  have e3 : ev F (.cmp .NotIn (.tup (.cons (.var 4) (.cons (.var 5) .nil))) (.lc (.sl (.var 11) .none (.some (.int 2))) (.nm 11) (.seq (.var 3)) .none)) (Fe (boxD lo hi) (rayD p0 d0) m rows (qD t) (.int (kI k)) (some (y, qD (trn lo hi p0 d0 t k)))) μ = some (.bl (!(rows.any fun r => decide (r.1 = t ∧ r.2.1 = k))), μ) := by
    have e4 : ev F (.tup (.cons (.var 4) (.cons (.var 5) .nil))) (Fe (boxD lo hi) (rayD p0 d0) m rows (qD t) (.int (kI k)) (some (y, qD (trn lo hi p0 d0 t k)))) μ = some (.tup [qD t, .int (kI k)], μ) := by
      unfold Fe
      walk_at "go"
    have e5 := fm_lc μ F (boxD lo hi) (rayD p0 d0) m rows hr (qD t) (.int (kI k)) (y, qD (trn lo hi p0 d0 t k))
    unfold ev
    rw [e4]
    show andThen (ev F (.lc (.sl (.var 11) .none (.some (.int 2))) (.nm 11) (.seq (.var 3)) .none) (Fe (boxD lo hi) (rayD p0 d0) m rows (qD t) (.int (kI k)) (some (y, qD (trn lo hi p0 d0 t k)))) μ) _ = _
    rw [e5]
    show wthD ((cmpD .NotIn (.tup [qD t, .int (kI k)]) (.lst (rows.map prD))).map D.bl) μ = _
    rw [notin_at]
    rfl
  unfold fmCond cK
  generalize E.cmp .NotEq (.ix (.ix (.ix (.var 1) (.int 2)) (.var 5)) (.int 0)) (.int 0) = a1 at *
  generalize E.cmp .Eq (.ix (.var 7) (.int 1)) (.int 1) = a2 at *
  generalize E.cmp .NotIn (.tup (.cons (.var 4) (.cons (.var 5) .nil))) (.lc (.sl (.var 11) .none (.some (.int 2))) (.nm 11) (.seq (.var 3)) .none) = a3 at *
  unfold ev
  rw [e1, onBl_bl]
  cases c1 : decide (d0 k ≠ 0) with
  | false => rfl
  | true =>
    rw [if_pos rfl]
    unfold ev
    rw [e2, onBl_bl]
    cases c2 : decide ((trn lo hi p0 d0 t k).den = 1) with
    | false => rfl
    | true =>
      rw [if_pos rfl, e3]
      rfl
include h ht
theorem fm_in (m : Nat) (rows : List Rw) (hr : rows.length ≤ 900) (k : I3) (o : Option (D × D)) : ∃ o', execs (T (n + 3)) W fmIn (Fe (boxD lo hi) (rayD p0 d0) m rows (qD t) (.int (kI k)) o) μ =
    some (if cK lo hi p0 d0 rows t k = true then .bk (Fe (boxD lo hi) (rayD p0 d0) m (rows ++ [(t, k, upK lo hi p0 d0 t k)]) (qD t) (.int (kI k)) o') μ else .nx (Fe (boxD lo hi) (rayD p0 d0) m rows (qD t) (.int (kI k)) o') μ) := by
  haveI := lo_sz h
  haveI := hi_sz h
  haveI := p0_sz h
  haveI := d0_sz h
  have z1 := times_at (n := n) (x := d0 k) (y := t) μ (by decide) (by decide)
  have z2 := plus_at (n := n) (x := p0 k) (y := d0 k * t) μ (by decide) (by decide)
  have z3 := minus_at (n := n) (x := p0 k + d0 k * t) (y := lo k) μ (by decide) (by decide)
  have z4 := minus_at (n := n) (x := hi k) (y := lo k) μ (by decide) (by decide)
  have hlt : lo k < hi k := by have := h.bx.l k; have := h.bx.h k; grind
  have z5 := over_at (n := n) (x := p0 k + d0 k * t - lo k) (y := hi k - lo k) μ (by decide) (by decide) (.pos (by grind))
  have e5 : (p0 k + d0 k * t - lo k) / (hi k - lo k) = trn lo hi p0 d0 t k := rfl
  rw [e5] at z5
  have hc := fm_cond (lo := lo) (hi := hi) (p0 := p0) (d0 := d0) (t := t) μ (T (n + 3)) m rows (by omega) k (qD (p0 k + d0 k * t))
  have hb : fmIn = (.cons (.asg 6 (.call 2 (.cons (.ix (.ix (.var 1) (.int 1)) (.var 5)) (.cons (.call 4 (.cons (.ix (.ix (.var 1) (.int 2)) (.var 5)) (.cons (.var 4) .nil))) .nil)))) (.cons (.asg 7 (.call 5 (.cons (.call 3 (.cons (.var 6) (.cons (.ix (.ix (.var 0) (.int 1)) (.var 5)) .nil))) (.cons (.call 3 (.cons (.ix (.ix (.var 0) (.int 2)) (.var 5)) (.cons (.ix (.ix (.var 0) (.int 1)) (.var 5)) .nil))) .nil)))) (.cons (.ifs fmCond (.cons (.app 3 (.tup (.cons (.var 4) (.cons (.var 5) (.cons (.cmp .Eq (.op .Mod (.ix (.var 7) (.int 0)) (.int 2)) (.int 1)) .nil))))) (.cons .brk .nil)) .nil) .nil))) := rfl
  refine ⟨some (qD (p0 k + d0 k * t), qD (trn lo hi p0 d0 t k)), ?_⟩
  rw [hb]
  clear e5 hlt h hb
  have step : ∀ rest, execs (T (n + 3)) W (.cons (.asg 6 (.call 2 (.cons (.ix (.ix (.var 1) (.int 1)) (.var 5)) (.cons (.call 4 (.cons (.ix (.ix (.var 1) (.int 2)) (.var 5)) (.cons (.var 4) .nil))) .nil)))) (.cons (.asg 7 (.call 5 (.cons (.call 3 (.cons (.var 6) (.cons (.ix (.ix (.var 0) (.int 1)) (.var 5)) .nil))) (.cons (.call 3 (.cons (.ix (.ix (.var 0) (.int 2)) (.var 5)) (.cons (.ix (.ix (.var 0) (.int 1)) (.var 5)) .nil))) .nil)))) rest)) (Fe (boxD lo hi) (rayD p0 d0) m rows (qD t) (.int (kI k)) o) μ = execs (T (n + 3)) W rest (Fe (boxD lo hi) (rayD p0 d0) m rows (qD t) (.int (kI k)) (some (qD (p0 k + d0 k * t), qD (trn lo hi p0 d0 t k)))) μ := by
    intro rest
    clear hc
    generalize trn lo hi p0 d0 t k = w at *
    unfold Fe
    cases o <;> walk_at "go"
  rw [step]
  clear step z1 z2 z3 z4 z5
  generalize fmCond = ce at *
  have hlt : (rows.map rwD).length < sizeLine := by rw [List.length_map]; exact szlt (by omega)
  have er : (rows ++ [(t, k, upK lo hi p0 d0 t k)]).map rwD = rows.map rwD ++ [.tup [qD t, .int (kI k), .bl (upK lo hi p0 d0 t k)]] := by rw [List.map_append]; rfl
  cases c : cK lo hi p0 d0 rows t k with
  | false =>
    rw [c] at hc
    refine seq_nx (ifs_f hc rfl) rfl
  | true =>
    rw [c] at hc
    have hx : execs (T (n + 3)) W (.cons (.app 3 (.tup (.cons (.var 4) (.cons (.var 5) (.cons (.cmp .Eq (.op .Mod (.ix (.var 7) (.int 0)) (.int 2)) (.int 1)) .nil))))) (.cons .brk .nil)) (Fe (boxD lo hi) (rayD p0 d0) m rows (qD t) (.int (kI k)) (some (qD (p0 k + d0 k * t), qD (trn lo hi p0 d0 t k)))) μ = some (.bk (Fe (boxD lo hi) (rayD p0 d0) m (rows ++ [(t, k, upK lo hi p0 d0 t k)]) (qD t) (.int (kI k)) (some (qD (p0 k + d0 k * t), qD (trn lo hi p0 d0 t k)))) μ) := by
      unfold Fe
      rw [er]
      unfold upK
      clear hc er c
      generalize trn lo hi p0 d0 t k = w at *
      generalize rows.map rwD = A at *
      walk_at "go"
    unfold execs
    rw [ifs_t hc hx]
    rfl
/-- one time: the first side that is asked and has it -/
def fm1 (lo hi p0 d0 : I3 → Rat) (rows : List Rw) (t : Rat) : List I3 → List Rw
  | [] => rows
  | k :: ks => if cK lo hi p0 d0 rows t k = true then rows ++ [(t, k, upK lo hi p0 d0 t k)] else fm1 lo hi p0 d0 rows t ks
omit h ht in
theorem fm1_len (rows : List Rw) (t : Rat) : ∀ ks, (fm1 lo hi p0 d0 rows t ks).length ≤ rows.length + 1
  | [] => Nat.le_succ _
  | k :: ks => by
    unfold fm1
    split
    · rw [List.length_append]; exact Nat.le_refl _
    · exact fm1_len rows t ks
theorem fm_inner (m : Nat) (rows : List Rw) (hr : rows.length ≤ 900) : ∀ (ks : List I3) (kk : D) (o : Option (D × D)), ∃ kk' o', forF (.nm 5) (fun ρ' μ' => execs (T (n + 3)) W fmIn ρ' μ') (ks.map fun k => D.int (kI k)) (Fe (boxD lo hi) (rayD p0 d0) m rows (qD t) kk o) μ = some (.nx (Fe (boxD lo hi) (rayD p0 d0) m (fm1 lo hi p0 d0 rows t ks) (qD t) kk' o') μ)
  | [], kk, o => ⟨kk, o, rfl⟩
  | k :: ks, kk, o => by
    obtain ⟨o1, e⟩ := fm_in (n := n) (t := t) μ h m rows hr k o
    have hb : bindT (.nm 5) (.int (kI k)) (Fe (boxD lo hi) (rayD p0 d0) m rows (qD t) kk o) = some (Fe (boxD lo hi) (rayD p0 d0) m rows (qD t) (.int (kI k)) o) := rfl
    rw [List.map_cons]
    unfold forF fm1
    rw [hb]
    simp only [e]
    by_cases c : cK lo hi p0 d0 rows t k = true
    · rw [if_pos c, if_pos c]
      exact ⟨_, o1, rfl⟩
    · rw [if_neg c, if_neg c]
      exact fm_inner m rows hr ks (.int (kI k)) o1
/-- all the times -/
def fmA (lo hi p0 d0 : I3 → Rat) (l : List Rat) : List Rw := l.foldl (fun rows t => fm1 lo hi p0 d0 rows t [0, 1, 2]) []
def fmOut : Ss := (.cons (.for_ (.nm 5) (.rng1 (.int 3)) fmIn) .nil)
def Fs0 (B R : D) (m : Nat) (rows : List Rw) (o : Option (D × D × Option (D × D))) : Env := [some (.pl B), some (.pl R), some (.pl (.int (m : Int))), some (.ow (rows.map rwD)), o.map (fun x => .pl x.1), o.map (fun x => .pl x.2.1), (o.bind fun x => x.2.2).map (fun x => .pl x.1), (o.bind fun x => x.2.2).map (fun x => .pl x.2), none, none, none, none]
omit ht in
theorem fm_outer (m : Nat) : ∀ (l : List Rat) (rows : List Rw) (o : Option (D × D × Option (D × D))), (∀ z ∈ l, Sz 24 z) → rows.length + l.length ≤ 900 →
    ∃ o', forF (.nm 4) (fun ρ' μ' => execs (T (n + 3)) W fmOut ρ' μ') (l.map qD) (Fs0 (boxD lo hi) (rayD p0 d0) m rows o) μ = some (.nx (Fs0 (boxD lo hi) (rayD p0 d0) m (l.foldl (fun rows t => fm1 lo hi p0 d0 rows t [0, 1, 2]) rows) o') μ)
  | [], rows, o, _, _ => ⟨o, rfl⟩
  | t :: l, rows, o, hz, hl => by
    haveI := hz t List.mem_cons_self
    have hb : ∃ kk o2, execs (T (n + 3)) W fmOut [some (.pl (boxD lo hi)), some (.pl (rayD p0 d0)), some (.pl (.int (m : Int))), some (.ow (rows.map rwD)), some (.pl (qD t)), o.map (fun x => .pl x.2.1), (o.bind fun x => x.2.2).map (fun x => .pl x.1), (o.bind fun x => x.2.2).map (fun x => .pl x.2), none, none, none, none] μ = some (.nx (Fe (boxD lo hi) (rayD p0 d0) m (fm1 lo hi p0 d0 rows t [0, 1, 2]) (qD t) kk o2) μ) := by
      have first : ∀ (x5 : Option Sl) (o6 : Option (D × D)), ∃ kk o2, forF (.nm 5) (fun ρ' μ' => execs (T (n + 3)) W fmIn ρ' μ') ([0, 1, 2].map fun k => D.int (kI k)) [some (.pl (boxD lo hi)), some (.pl (rayD p0 d0)), some (.pl (.int (m : Int))), some (.ow (rows.map rwD)), some (.pl (qD t)), x5, o6.map (fun x => .pl x.1), o6.map (fun x => .pl x.2), none, none, none, none] μ = some (.nx (Fe (boxD lo hi) (rayD p0 d0) m (fm1 lo hi p0 d0 rows t [0, 1, 2]) (qD t) kk o2) μ) := by
        intro x5 o6
        obtain ⟨kk, o2, e⟩ := fm_inner (n := n) (t := t) μ h m rows (by simp at hl; omega) [0, 1, 2] .non o6
        refine ⟨kk, o2, ?_⟩
        rw [← e]
        rfl
      obtain ⟨kk, o2, e⟩ := first (o.map (fun x => .pl x.2.1)) (o.bind fun x => x.2.2)
      refine ⟨kk, o2, ?_⟩
      have hf : exec (T (n + 3)) W (.for_ (.nm 5) (.rng1 (.int 3)) fmIn) [some (.pl (boxD lo hi)), some (.pl (rayD p0 d0)), some (.pl (.int (m : Int))), some (.ow (rows.map rwD)), some (.pl (qD t)), o.map (fun x => .pl x.2.1), (o.bind fun x => x.2.2).map (fun x => .pl x.1), (o.bind fun x => x.2.2).map (fun x => .pl x.2), none, none, none, none] μ = _ := for_of (xs := [0, 1, 2].map fun k => D.int (kI k)) (μ1 := μ) rfl rfl e
      exact seq_nx hf rfl
    obtain ⟨kk, o2, e⟩ := hb
    have hl1 := fm1_len (lo := lo) (hi := hi) (p0 := p0) (d0 := d0) rows t [0, 1, 2]
    obtain ⟨o', ih⟩ := fm_outer m l (fm1 lo hi p0 d0 rows t [0, 1, 2]) (some (qD t, kk, o2)) (fun z hz' => hz z (List.mem_cons_of_mem _ hz')) (by simp at hl; omega)
    refine ⟨o', ?_⟩
    rw [List.map_cons, List.foldl_cons]
    unfold forF
    have hbd : bindT (.nm 4) (qD t) (Fs0 (boxD lo hi) (rayD p0 d0) m rows o) = some [some (.pl (boxD lo hi)), some (.pl (rayD p0 d0)), some (.pl (.int (m : Int))), some (.ow (rows.map rwD)), some (.pl (qD t)), o.map (fun x => .pl x.2.1), (o.bind fun x => x.2.2).map (fun x => .pl x.1), (o.bind fun x => x.2.2).map (fun x => .pl x.2), none, none, none, none] := rfl
    rw [hbd]
    simp only [e]
    exact ih
omit h ht in
theorem lc_genB {α : Type} {tg : Tg} {c : Env → Cells → Option (Bool × Cells)} {f : Env → Cells → Option (D × Cells)} {ρ : Env} {μ : Cells} (q : α → D) (ρ' : α → Env) (g : α → D) : ∀ xs : List α, (∀ a ∈ xs, bindT tg (q a) ρ = some (ρ' a)) → (∀ a ∈ xs, c (ρ' a) μ = some (true, μ)) → (∀ a ∈ xs, f (ρ' a) μ = some (g a, μ)) →
    lcGo tg c f ρ (xs.map q) μ = some (xs.map g, μ)
  | [], _, _, _ => rfl
  | a :: xs, hb, hc, hf => by
    have ih := lc_genB (tg := tg) (c := c) (f := f) (ρ := ρ) q ρ' g xs (fun b hb' => hb b (List.mem_cons_of_mem _ hb')) (fun b hb => hc b (List.mem_cons_of_mem _ hb)) (fun b hb => hf b (List.mem_cons_of_mem _ hb))
    rw [List.map_cons, List.map_cons]
    unfold lcGo
    rw [hb a List.mem_cons_self]
    simp only [hc a List.mem_cons_self, hf a List.mem_cons_self, ih]
def suD (r : Rw) : D := .tup [.int (kI r.2.1), .bl r.2.2]
omit ht in
theorem foldl_len (m : List Rat) : ∀ rows : List Rw, (m.foldl (fun rows t => fm1 lo hi p0 d0 rows t [0, 1, 2]) rows).length ≤ rows.length + m.length := by
  induction m with
  | nil => intro rows; exact Nat.le_refl _
  | cons t m ih =>
    intro rows
    have h1 := ih (fm1 lo hi p0 d0 rows t [0, 1, 2])
    have h2 := fm1_len (lo := lo) (hi := hi) (p0 := p0) (d0 := d0) rows t [0, 1, 2]
    rw [List.foldl_cons, List.length_cons]
    omega
omit ht in
/-- the times at faces are of a size -/
theorem wk_sz : ∀ (m i : Nat) (nn : Cnt) (s : Rat), Val lo hi p0 d0 nn s → AtE i s → i + m ≤ 490 → ∀ e ∈ wk lo hi p0 d0 m nn, Sz 24 e.t
  | 0, _, _, _, _, _, _, e, he => by cases he
  | m + 1, i, nn, s, v, a, hi', e, he => by
    have hv := (val_step h.hd h.bx v).1
    have ha := ate_next h v a
    have he : e ∈ evs1 lo hi p0 d0 nn ++ wk lo hi p0 d0 m (nN lo hi p0 d0 nn) := he
    rcases List.mem_append.mp he with he | he
    · obtain ⟨k, _, rfl⟩ := List.mem_map.mp he
      exact ha.sz (by omega)
    · exact wk_sz m (i + 1) _ _ hv ha (by omega) e he
omit ht in
theorem tms_sz (m : Nat) (hm : m ≤ 400) : ∀ z ∈ tms lo hi p0 d0 m, Sz 24 z := by
  intro z hz
  unfold tms at hz
  obtain ⟨e, he, rfl⟩ := List.mem_map.mp (List.mem_of_mem_take hz)
  exact wk_sz h m 0 _ 0 (val0 h) (ate0 h) (by omega) e he
omit ht in
theorem faces_at (m : Nat) (hm : m ≤ 7) : T (n + 6) 69 [boxD lo hi, rayD p0 d0, .int (m : Int)] μ = some (.tup ((fmA lo hi p0 d0 (tms lo hi p0 d0 m)).map suD), μ) := by
  have z := meeting_at (n := n) μ h m hm
  have hl := tms_len h m
  obtain ⟨o', hf⟩ := fm_outer (n := n + 2) μ h m (tms lo hi p0 d0 m) [] none (tms_sz h m (by omega)) (by rw [hl]; simp; omega)
  have hB : B_faces_met 66 2 4 5 3 = (.cons (.own 3) (.cons (.for_ (.nm 4) (.seq (.call 66 (.cons (.var 0) (.cons (.var 1) (.cons (.var 2) .nil))))) fmOut) (.cons (.ret (.bi .tuple (.cons (.lc (.tup (.cons (.var 9) (.cons (.var 10) .nil))) (.tp [8, 9, 10]) (.seq (.var 3)) .none) .nil))) .nil))) := rfl
  refine (T_at (f := 69) (n := n + 5) (d := d_faces_met) rfl _ _).trans ?_
  unfold d_faces_met
  rw [hB]
  refine run_rt (μ1 := μ) rfl (Nat.le_of_ble_eq_true rfl) ?_
  refine seq_nx (ρ1 := Fs0 (boxD lo hi) (rayD p0 d0) m [] none) (μ1 := μ) rfl ?_
  have hev : evi (T (n + 5)) (.seq (.call 66 (.cons (.var 0) (.cons (.var 1) (.cons (.var 2) .nil))))) (Fs0 (boxD lo hi) (rayD p0 d0) m [] none) μ = some ((tms lo hi p0 d0 m).map qD, μ) := by
    unfold Fs0
    clear hf
    walk_at "go"
  refine seq_nx (for_of (xs := (tms lo hi p0 d0 m).map qD) (μ1 := μ) hev rfl hf) ?_
  refine seq_rt (retl_of ?_)
  have hlen := foldl_len h (tms lo hi p0 d0 m) ([] : List Rw)
  rw [hl] at hlen
  simp only [List.length_nil, Nat.zero_add] at hlen
  show ev (T (n + 5)) _ (Fs0 (boxD lo hi) (rayD p0 d0) m (fmA lo hi p0 d0 (tms lo hi p0 d0 m)) o') μ = _
  have hlen' : (fmA lo hi p0 d0 (tms lo hi p0 d0 m)).length ≤ 100 := by unfold fmA; omega
  generalize fmA lo hi p0 d0 (tms lo hi p0 d0 m) = rows at *
  refine lc_of (xs := rows.map rwD) (μ1 := μ) rfl (by simp; omega) ?_
  exact lc_genB rwD (fun r => setAll [8, 9, 10] [qD r.1, .int (kI r.2.1), .bl r.2.2] (Fs0 (boxD lo hi) (rayD p0 d0) m rows o')) suD rows (fun r _ => rfl) (fun r _ => rfl) (fun r _ => rfl)
end
end K12

set_option Elab.async false
set_option linter.all false
set_option maxRecDepth 100000
set_option maxHeartbeats 4000000
/-! bounces; the law's bounce, walk -/
namespace K12
open FM
open PySem (Str sizeLine)
local macro_rules | `(tactic| walk_at "go") => `(tactic| simp [FM.runFn, FM.FD.fn, FM.execs, FM.exec, FM.ev, FM.evs, FM.evo, FM.evc, FM.evi, FM.lk, FM.lks, FM.It.lk, FM.isOw, FM.noOw, FM.Sl.isOw, FM.Sl.d, FM.isiD, FM.cmpD, FM.negD, FM.setAll, FM.bindT, FM.andThen_some', FM.onBl_bl, FM.wthD_some', FM.eqD_int, FM.ix_tup, FM.ix_lst, FM.atI_0, FM.atI_1, FM.atI_2, FM.op_add, FM.op_sub, FM.szle, FM.forF, FM.lcGo, FM.biD, K12.eqD_nil, K12.qD_0, K12.qD_1, K12.vD_0, K12.vD_1, K12.vD_2, K12.rng3, K12.rng0, K12.rngOk_3, K12.rngOk_0, FM.zipD, FM.zipD3, K12.szlt, K12.qd0, K12.qd1, K12.qd2, K12.eqD_str, K12.is_non_s, K12.is_non_n, K12.is_non_t, K12.bx0, K12.bx1, K12.bx2, K12.ry0, K12.ry1, K12.ry2, FM.eqD_q, K12.eqD_bl, K12.mod2, K12.sl_take, *])
theorem rng_okN (m : Nat) (h : m ≤ 1000) : rngOk (m : Int) = true := by
  unfold rngOk
  rw [Bool.and_eq_true, decide_eq_true_eq, decide_eq_true_eq]
  omega
theorem rng_evi (F : Fs) (μ : Cells) (ρ : Env) (m : Nat) (h : m ≤ 1000) (e : ρ[2]? = some (some (.pl (.int (m : Int))))) : evi F (.rng1 (.var 2)) ρ μ = some (rngD 0 m, μ) := by
  have e2 : ev F (.var 2) ρ μ = some (.int (m : Int), μ) := by
    unfold ev
    rw [e]
    rfl
  unfold evi
  rw [e2]
  have hr := rng_okN m h
  have hn : ((m : Nat) : Int).toNat = m := Int.toNat_natCast m
  rw [andThen_some']
  generalize ((m : Nat) : Int) = z at *
  dsimp only
  rw [if_pos hr, hn]
/-- no edge on the first so many steps -/
def Sng (lo hi p0 d0 : I3 → Rat) : Nat → Cnt → Prop
  | 0, _ => True
  | m + 1, n => (∃ k, sN lo hi p0 d0 n = [k]) ∧ Sng lo hi p0 d0 m (nN lo hi p0 d0 n)
section
variable {n : Nat} (μ : Cells) {lo hi p0 d0 : I3 → Rat} (h : Dr lo hi p0 d0)
include h
theorem sml_d (nn : Cnt) : Sml (DD d0 nn) := fun k => Nat.lt_of_lt_of_le (DD_sz h k).n (by decide)
theorem good_of {nn : Cnt} {s : Rat} (v : Val lo hi p0 d0 nn s) : Good lo hi (PP lo hi p0 d0 nn s) (DD d0 nn) := by
  have g := goodv h.bx v
  exact ⟨g.l, g.h, g.z, g.u, g.v⟩
/-- one step of the program's ray -/
theorem bounce_step {nn : Cnt} {s : Rat} {i : Nat} (v : Val lo hi p0 d0 nn s) (a : AtE i s) (hi' : i ≤ 490) (hs : ∃ k, sN lo hi p0 d0 nn = [k]) :
    ∃ (c u : D), T (n + 17) 56 [boxD lo hi, rayD (PP lo hi p0 d0 nn s) (DD d0 nn)] μ = some (c, μ) ∧
      T (n + 17) 59 [rayD (PP lo hi p0 d0 nn s) (DD d0 nn), c] μ = some (.tup [rayD (PP lo hi p0 d0 nn s) (DD d0 nn), vD (PP lo hi p0 d0 (nN lo hi p0 d0 nn) (tm lo hi p0 d0 nn)), u], μ) ∧
      T (n + 17) 60 [rayD (PP lo hi p0 d0 nn s) (DD d0 nn), vD (PP lo hi p0 d0 (nN lo hi p0 d0 nn) (tm lo hi p0 d0 nn)), u] μ = some (rayD (PP lo hi p0 d0 (nN lo hi p0 d0 nn) (tm lo hi p0 d0 nn)) (DD d0 (nN lo hi p0 d0 nn)), μ) := by
  haveI : ∀ k, Sz 16 (lo k) := fun k => (lo_sz h k).mono (by decide)
  haveI : ∀ k, Sz 16 (hi k) := fun k => (hi_sz h k).mono (by decide)
  haveI : ∀ k, Sz 16 (PP lo hi p0 d0 nn s k) := fun k => PP_sz h a v k
  haveI : ∀ k, Sz 16 (DD d0 nn k) := fun k => (DD_sz h k).mono (by decide)
  have st := tm_sz h v a (by omega)
  have ss := a.sz (by omega)
  obtain ⟨k0, hk0⟩ := h.hd
  obtain ⟨k, k1, k2, k3, e1⟩ := first_change_at (n := n) (lo := lo) (hi := hi) (p := PP lo hi p0 d0 nn s) (d := DD d0 nn) μ (by decide : 16 ≤ 150) (sml_d h nn) (good_of h v) ⟨k0, fun z => hk0 (DD_zero.mp z)⟩
  have hx : ∀ j, d0 j ≠ 0 → ex lo hi (PP lo hi p0 d0 nn s) (DD d0 nn) j = nx lo hi p0 d0 nn j - s := fun j hj => exT_nx hj
  have kd : d0 k ≠ 0 := fun z => k1 (DD_zero.mpr z)
  obtain ⟨_, ⟨kk, m1, m2⟩, m3⟩ := tm_spec (lo := lo) (hi := hi) (p0 := p0) (n := nn) h.hd
  have kt : nx lo hi p0 d0 nn k = tm lo hi p0 d0 nn := by
    have w1 := k2 kk (fun z => m1 (DD_zero.mp z))
    rw [hx k kd, hx kk m1] at w1
    have w2 := m3 k kd
    rw [m2] at w1
    grind
  have hex : ex lo hi (PP lo hi p0 d0 nn s) (DD d0 nn) k = tm lo hi p0 d0 nn - s := by rw [hx k kd, kt]
  rw [hex] at e1
  have ks : sN lo hi p0 d0 nn = [k] := by
    obtain ⟨q, hq⟩ := hs
    have : k ∈ sN lo hi p0 d0 nn := (mem_sN h.hd).mpr ⟨kd, kt⟩
    rw [hq] at this
    rw [hq, List.mem_singleton.mp this]
  have e2 := met_at_at (n := n + 9) (lo := lo) (hi := hi) (p := PP lo hi p0 d0 nn s) (d := DD d0 nn) (t := tm lo hi p0 d0 nn - s) μ (by decide) k (decide (0 < DD d0 nn k))
  have ep : (fun j => PP lo hi p0 d0 nn s j + DD d0 nn j * (tm lo hi p0 d0 nn - s)) = PP lo hi p0 d0 (nN lo hi p0 d0 nn) (tm lo hi p0 d0 nn) := by
    rw [PP_next h.hd]
    funext j
    rw [← PP_flow]
    congr 1
    grind
  rw [ep] at e2
  have e3 := thrown_at (n := n + 10) (p := PP lo hi p0 d0 nn s) (d := DD d0 nn) μ k (decide (0 < DD d0 nn k)) (vD (PP lo hi p0 d0 (nN lo hi p0 d0 nn) (tm lo hi p0 d0 nn))) (by decide)
  have ed : (fun j => if j = k then 0 - DD d0 nn j else DD d0 nn j) = DD d0 (nN lo hi p0 d0 nn) := by
    funext j
    rw [DD_next, ks]
    simp only [List.mem_singleton]
  rw [ed] at e3
  exact ⟨_, _, e1, e2, e3⟩
def bnBody : Ss := (.cons (.asgT [5, 6, 7] (.call 59 (.cons (.var 1) (.cons (.call 56 (.cons (.var 0) (.cons (.var 1) .nil))) .nil)))) (.cons (.app 3 (.var 6)) (.cons (.asg 1 (.call 60 (.cons (.var 5) (.cons (.var 6) (.cons (.var 7) .nil))))) .nil)))
def Bn (B R : D) (m : Nat) (ps : List (I3 → Rat)) (o : Option (D × Option (D × D × D))) : Env := [some (.pl B), some (.pl R), some (.pl (.int (m : Int))), some (.ow (ps.map vD)), o.map (fun x => .pl x.1), (o.bind (·.2)).map (fun x => .pl x.1), (o.bind (·.2)).map (fun x => .pl x.2.1), (o.bind (·.2)).map (fun x => .pl x.2.2)]
theorem bn_loop (m : Nat) : ∀ (l : List D) (i : Nat) (nn : Cnt) (s : Rat) (ps : List (I3 → Rat)) (o : Option (D × Option (D × D × D))), Val lo hi p0 d0 nn s → AtE i s → i + l.length ≤ 400 → ps.length + l.length ≤ 900 → Sng lo hi p0 d0 l.length nn →
    ∃ R o', forF (.nm 4) (fun ρ' μ' => execs (T (n + 17)) W bnBody ρ' μ') l (Bn (boxD lo hi) (rayD (PP lo hi p0 d0 nn s) (DD d0 nn)) m ps o) μ = some (.nx (Bn (boxD lo hi) R m (ps ++ (wk lo hi p0 d0 l.length nn).map Ev.p) o') μ)
  | [], _, _, _, ps, o, _, _, _, _, _ => ⟨_, o, by simp [wk]; rfl⟩
  | x :: l, i, nn, s, ps, o, v, a, hi', hp, hs => by
    obtain ⟨hs1, hs2⟩ := hs
    obtain ⟨c, u, e1, e2, e3⟩ := bounce_step (n := n) μ h v a (by simp at hi'; omega) hs1
    obtain ⟨k, hk⟩ := hs1
    have hw : wk lo hi p0 d0 (x :: l).length nn = ⟨tm lo hi p0 d0 nn, PP lo hi p0 d0 (nN lo hi p0 d0 nn) (tm lo hi p0 d0 nn), k, decide (0 < DD d0 nn k)⟩ :: wk lo hi p0 d0 l.length (nN lo hi p0 d0 nn) := by
      show evs1 lo hi p0 d0 nn ++ _ = _
      unfold evs1
      rw [hk]
      rfl
    obtain ⟨R, o', ih⟩ := bn_loop m l (i + 1) (nN lo hi p0 d0 nn) (tm lo hi p0 d0 nn) (ps ++ [PP lo hi p0 d0 (nN lo hi p0 d0 nn) (tm lo hi p0 d0 nn)]) (some (x, some (rayD (PP lo hi p0 d0 nn s) (DD d0 nn), vD (PP lo hi p0 d0 (nN lo hi p0 d0 nn) (tm lo hi p0 d0 nn)), u))) (val_step h.hd h.bx v).1 (ate_next h v a) (by simp at hi'; omega) (by simp at hp ⊢; omega) hs2
    refine ⟨R, o', ?_⟩
    rw [hw, List.map_cons]
    unfold forF
    have hlt : (ps.map vD).length < sizeLine := by rw [List.length_map]; exact szlt (by simp at hp; omega)
    have hb : execs (T (n + 17)) W bnBody [some (.pl (boxD lo hi)), some (.pl (rayD (PP lo hi p0 d0 nn s) (DD d0 nn))), some (.pl (.int (m : Int))), some (.ow (ps.map vD)), some (.pl x), (o.bind (·.2)).map (fun x => .pl x.1), (o.bind (·.2)).map (fun x => .pl x.2.1), (o.bind (·.2)).map (fun x => .pl x.2.2)] μ = some (.nx (Bn (boxD lo hi) (rayD (PP lo hi p0 d0 (nN lo hi p0 d0 nn) (tm lo hi p0 d0 nn)) (DD d0 (nN lo hi p0 d0 nn))) m (ps ++ [PP lo hi p0 d0 (nN lo hi p0 d0 nn) (tm lo hi p0 d0 nn)]) (some (x, some (rayD (PP lo hi p0 d0 nn s) (DD d0 nn), vD (PP lo hi p0 d0 (nN lo hi p0 d0 nn) (tm lo hi p0 d0 nn)), u)))) μ) := by
      unfold Bn
      rw [List.map_append, List.map_cons, List.map_nil]
      clear ih hw v a hs2 hp hi' h hk
      generalize rayD (PP lo hi p0 d0 nn s) (DD d0 nn) = r1 at *
      generalize rayD (PP lo hi p0 d0 (nN lo hi p0 d0 nn) (tm lo hi p0 d0 nn)) (DD d0 (nN lo hi p0 d0 nn)) = r2 at *
      generalize vD (PP lo hi p0 d0 (nN lo hi p0 d0 nn) (tm lo hi p0 d0 nn)) = q at *
      generalize ps.map vD = A at *
      unfold bnBody
      cases o with
      | none => walk_at "go"
      | some o =>
        obtain ⟨o1, o2⟩ := o
        cases o2 <;> walk_at "go"
    have hbd : bindT (.nm 4) x (Bn (boxD lo hi) (rayD (PP lo hi p0 d0 nn s) (DD d0 nn)) m ps o) = some [some (.pl (boxD lo hi)), some (.pl (rayD (PP lo hi p0 d0 nn s) (DD d0 nn))), some (.pl (.int (m : Int))), some (.ow (ps.map vD)), some (.pl x), (o.bind (·.2)).map (fun x => .pl x.1), (o.bind (·.2)).map (fun x => .pl x.2.1), (o.bind (·.2)).map (fun x => .pl x.2.2)] := rfl
    rw [hbd]
    simp only [hb]
    have e9 := List.append_cons ps (PP lo hi p0 d0 (nN lo hi p0 d0 nn) (tm lo hi p0 d0 nn)) ((wk lo hi p0 d0 l.length (nN lo hi p0 d0 nn)).map Ev.p)
    refine ih.trans ?_
    clear ih hb hbd e1 e2 e3 hw hs2 hlt
    generalize (wk lo hi p0 d0 l.length (nN lo hi p0 d0 nn)).map Ev.p = rest at *
    generalize PP lo hi p0 d0 (nN lo hi p0 d0 nn) (tm lo hi p0 d0 nn) = P at *
    exact congrArg (fun z => some (Res.nx (Bn (boxD lo hi) R m z o') μ)) e9.symm
theorem bounces_at (m : Nat) (hm : m ≤ 7) (hs : Sng lo hi p0 d0 m (fun _ => 0)) : T (n + 18) 61 [boxD lo hi, rayD p0 d0, .int (m : Int)] μ = some (.tup (((wk lo hi p0 d0 m (fun _ => 0)).map Ev.p).map vD), μ) := by
  have hlen : (rngD 0 m).length = m := by unfold rngD; rw [List.length_map, List.length_range]
  obtain ⟨R, o', e⟩ := bn_loop (n := n) μ h m (rngD 0 m) 0 (fun _ => 0) 0 [] none (val0 h) (ate0 h) (by omega) (by simp; omega) (by rw [hlen]; exact hs)
  rw [hlen, PP0, DD0] at e
  have hB : B_bounces 59 56 60 = (.cons (.own 3) (.cons (.for_ (.nm 4) (.rng1 (.var 2)) bnBody) (.cons (.ret (.bi .tuple (.cons (.var 3) .nil))) .nil))) := rfl
  refine (T_at (f := 61) (n := n + 17) (d := d_bounces) rfl _ _).trans ?_
  unfold d_bounces
  rw [hB]
  refine run_rt (μ1 := μ) rfl (Nat.le_of_ble_eq_true rfl) ?_
  refine seq_nx (ρ1 := Bn (boxD lo hi) (rayD p0 d0) m [] none) (μ1 := μ) rfl ?_
  have hev := rng_evi (T (n + 17)) μ (Bn (boxD lo hi) (rayD p0 d0) m [] none) m (by omega) rfl
  refine seq_nx (for_of hev rfl e) ?_
  exact seq_rt (retl_of rfl)
end
end K12

set_option Elab.async false
set_option linter.all false
set_option maxRecDepth 100000
set_option maxHeartbeats 4000000
/-! the law's bounce -/
namespace K12
open FM
open PySem (Str sizeLine)
theorem isnon_q (q : Rat) : isNon (qD q) = false := rfl
theorem op_addL (a b : List D) (h : a.length + b.length ≤ 1000) : opD .Add (.lst a) (.lst b) = some (.lst (a ++ b)) := by
  unfold opD
  have e : opA .Add (.lst a) (.lst b) = none := rfl
  rw [e]
  show (if a.length + b.length ≤ sizeLine then some (D.lst (a ++ b)) else none) = _
  rw [if_pos (Nat.le_trans h (by decide))]
local macro_rules | `(tactic| walk_at "go") => `(tactic| simp [FM.runFn, FM.FD.fn, FM.execs, FM.exec, FM.ev, FM.evs, FM.evo, FM.evc, FM.evi, FM.lk, FM.lks, FM.It.lk, FM.isOw, FM.noOw, FM.Sl.isOw, FM.Sl.d, FM.isiD, FM.cmpD, FM.negD, FM.setAll, FM.bindT, FM.andThen_some', FM.onBl_bl, FM.wthD_some', FM.eqD_int, FM.ix_tup, FM.ix_lst, FM.atI_0, FM.atI_1, FM.atI_2, FM.op_add, FM.op_sub, FM.szle, FM.forF, FM.lcGo, FM.biD, K12.eqD_nil, K12.qD_0, K12.qD_1, K12.vD_0, K12.vD_1, K12.vD_2, K12.rng3, K12.rng0, K12.rngOk_3, K12.rngOk_0, FM.zipD, FM.zipD3, K12.szlt, K12.qd0, K12.qd1, K12.qd2, K12.eqD_str, K12.is_non_s, K12.is_non_n, K12.is_non_t, K12.bx0, K12.bx1, K12.bx2, K12.ry0, K12.ry1, K12.ry2, FM.eqD_q, K12.eqD_bl, K12.mod2, K12.sl_take, K12.vD_k, K12.isnon_q, *])
def lbBody : Ss := (.cons (.ifs (.cmp .NotEq (.ix (.ix (.var 2) (.var 3)) (.int 0)) (.int 0)) (.cons (.asg 6 (.ife (.cmp .Gt (.ix (.ix (.var 2) (.var 3)) (.int 0)) (.int 0)) (.ix (.ix (.var 0) (.int 2)) (.var 3)) (.ix (.ix (.var 0) (.int 1)) (.var 3)))) (.cons (.asg 7 (.call 81 (.cons (.call 79 (.cons (.var 6) (.cons (.ix (.var 1) (.var 3)) .nil))) (.cons (.ix (.var 2) (.var 3)) .nil)))) (.cons (.asg 8 (.ife (.cmp .Is (.var 4) .non) (.op .Sub (.int 0) (.int 1)) (.call 82 (.cons (.call 79 (.cons (.var 7) (.cons (.var 4) .nil))) .nil)))) (.cons (.ifs (.cmp .LtE (.var 8) (.int 0)) (.cons (.par 4 5 (.var 7) (.op .Add (.ife (.cmp .Lt (.var 8) (.int 0)) (.lst .nil) (.var 5)) (.lst (.cons (.var 3) .nil)))) .nil) .nil) .nil)))) .nil) .nil)
def bD : Option Rat → D
  | none => .non
  | some c => qD c
def sD (l : List I3) : D := .lst (l.map fun k => .int (kI k))
def Lb (B : D) (p d : I3 → Rat) (k : Option D) (b : Option Rat × List I3) (o : Option (D × D × D)) : Env := [some (.pl B), some (.pl (vD p)), some (.pl (vD d)), k.map .pl, some (.pl (bD b.1)), some (.pl (sD b.2)), o.map (fun x => .pl x.1), o.map (fun x => .pl x.2.1), o.map (fun x => .pl x.2.2)]
def exO (lo hi p d : I3 → Rat) (k : I3) : Option Rat := if d k = 0 then none else some (exT lo hi p d k)
section
variable {n : Nat} (μ : Cells) {lo hi p d : I3 → Rat} {a : Nat} [hl : ∀ k, Sz a (lo k)] [hh : ∀ k, Sz a (hi k)] [hp : ∀ k, Sz a (p k)] [hd : ∀ k, Sz a (d k)] (hs : a ≤ 40) (hdd : ∀ k, d k ≠ 0 → Dd (lvl lo hi k (decide (0 < d k)) - p k) (d k))
include hs hdd
theorem ex_sz (k : I3) : Sz (a + a + 1 + a + 1) (exT lo hi p d k) := by
  have : Sz a (lvl lo hi k (decide (0 < d k))) := by
    unfold lvl
    split
    · exact hh k
    · exact hl k
  unfold exT
  exact Sz.div
theorem lb_step (k : I3) (b : Option Rat × List I3) (o : Option (D × D × D)) (hb : ∀ c, b.1 = some c → Sz (a + a + 1 + a + 1) c) (hb2 : b.2.length ≤ 100) :
    ∃ o', execs (T (n + 3)) W lbBody (Lb (boxD lo hi) p d (some (.int (kI k))) b o) μ = some (.nx (Lb (boxD lo hi) p d (some (.int (kI k))) (bstStep (exO lo hi p d) b k) o') μ) := by
  by_cases e : d k = 0
  · refine ⟨o, ?_⟩
    have e1 : bstStep (exO lo hi p d) b k = b := by unfold bstStep exO; rw [if_pos e]
    have e2 : (d k).num = 0 := by rw [e]; rfl
    rw [e1]
    clear hb hdd e e1
    unfold lbBody Lb
    generalize bD b.1 = x1
    generalize sD b.2 = x2
    cases o <;> walk_at "go"
  · have e2 : ¬ (d k).num = 0 := fun z => e (Rat.num_eq_zero.mp z)
    have sl : Sz a (lvl lo hi k (decide (0 < d k))) := by
      unfold lvl
      split
      · exact hh k
      · exact hl k
    have z1 := lsub_at (n := n) (x := lvl lo hi k (decide (0 < d k))) (y := p k) μ (by omega : a ≤ 1800) (by omega : a ≤ 1800)
    have z2 := ldiv_at (n := n) (x := lvl lo hi k (decide (0 < d k)) - p k) (y := d k) μ (by omega : a + a + 1 ≤ 1800) (by omega : a ≤ 1800) (hdd k e)
    have ee : (lvl lo hi k (decide (0 < d k)) - p k) / d k = exT lo hi p d k := rfl
    rw [ee] at z2
    have sx := ex_sz (lo := lo) (hi := hi) (p := p) (d := d) hs hdd k
    have lev : (if 0 < (d k).num then some (qD (hi k), μ) else some (qD (lo k), μ)) = some (qD (lvl lo hi k (decide (0 < d k))), μ) := by
      unfold lvl
      by_cases g : 0 < d k
      · rw [if_pos (num_pos' g), decide_eq_true g]; rfl
      · rw [if_neg (fun z => g ((Rat.lt_iff 0 (d k)).mpr (by simpa using z))), decide_eq_false g]; rfl
    have exo : exO lo hi p d k = some (exT lo hi p d k) := by unfold exO; rw [if_neg e]
    obtain ⟨b1, b2⟩ := b
    have lev' : (if 0 < d k then some (qD (hi k), μ) else some (qD (lo k), μ)) = some (qD (lvl lo hi k (decide (0 < d k))), μ) := by
      unfold lvl
      by_cases g : 0 < d k
      · rw [if_pos g, decide_eq_true g]; rfl
      · rw [if_neg g, decide_eq_false g]; rfl
    have e' := e
    cases b1 with
    | none =>
      have e1 : bstStep (exO lo hi p d) (none, b2) k = (some (exT lo hi p d k), [k]) := by unfold bstStep; rw [exo]
      refine ⟨some (qD (lvl lo hi k (decide (0 < d k))), qD (exT lo hi p d k), .int (-1)), ?_⟩
      rw [e1]
      have op := op_addL [] [.int (kI k)] (Nat.le_of_ble_eq_true rfl)
      clear hb hdd e1 ee sx exo sl
      generalize exT lo hi p d k = w1 at *
      generalize lvl lo hi k (decide (0 < d k)) = w2 at *
      unfold lbBody Lb bD sD
      cases o <;> walk_at "go"
    | some c =>
      have sc : Sz (a + a + 1 + a + 1) c := hb c rfl
      have z3 := lsub_at (n := n) (x := exT lo hi p d k) (y := c) μ (by omega : a + a + 1 + a + 1 ≤ 1800) (by omega : a + a + 1 + a + 1 ≤ 1800)
      have z4 := lsgn_at (n := n + 2) (x := exT lo hi p d k - c) μ
      by_cases h1 : exT lo hi p d k < c
      · have e1 : bstStep (exO lo hi p d) (some c, b2) k = (some (exT lo hi p d k), [k]) := by unfold bstStep; rw [exo]; simp [h1]
        have es : sg (exT lo hi p d k - c) = -1 := by unfold sg; rw [if_neg (by grind), if_pos (by grind)]
        rw [es] at z4
        refine ⟨some (qD (lvl lo hi k (decide (0 < d k))), qD (exT lo hi p d k), .int (-1)), ?_⟩
        rw [e1]
        have op := op_addL [] [.int (kI k)] (Nat.le_of_ble_eq_true rfl)
        clear hb hdd e1 ee sx exo sl h1 es sc
        generalize exT lo hi p d k - c = w3 at *
        generalize exT lo hi p d k = w1 at *
        generalize lvl lo hi k (decide (0 < d k)) = w2 at *
        unfold lbBody Lb bD sD
        cases o <;> walk_at "go"
      · by_cases h2 : exT lo hi p d k = c
        · have e1 : bstStep (exO lo hi p d) (some c, b2) k = (some (exT lo hi p d k), b2 ++ [k]) := by unfold bstStep; rw [exo]; simp [h2]
          have es : sg (exT lo hi p d k - c) = 0 := by unfold sg; rw [if_neg (by grind), if_neg (by grind)]
          rw [es] at z4
          refine ⟨some (qD (lvl lo hi k (decide (0 < d k))), qD (exT lo hi p d k), .int 0), ?_⟩
          rw [e1]
          have op := op_addL (b2.map fun k => D.int (kI k)) [.int (kI k)] (by rw [List.length_map]; simp at hb2 ⊢; omega)
          clear hb hdd e1 ee sx exo sl h1 es sc h2
          generalize exT lo hi p d k - c = w3 at *
          generalize exT lo hi p d k = w1 at *
          generalize lvl lo hi k (decide (0 < d k)) = w2 at *
          unfold lbBody Lb bD sD
          rw [List.map_append]
          generalize (b2.map fun k => D.int (kI k)) = S2 at *
          cases o <;> walk_at "go"
        · have e1 : bstStep (exO lo hi p d) (some c, b2) k = (some c, b2) := by unfold bstStep; rw [exo]; simp [h1, h2]
          have es : sg (exT lo hi p d k - c) = 1 := by unfold sg; rw [if_pos (by grind)]
          rw [es] at z4
          refine ⟨some (qD (lvl lo hi k (decide (0 < d k))), qD (exT lo hi p d k), .int 1), ?_⟩
          rw [e1]
          clear hb hdd e1 ee sx exo sl h1 es sc h2
          generalize exT lo hi p d k - c = w3 at *
          generalize exT lo hi p d k = w1 at *
          generalize lvl lo hi k (decide (0 < d k)) = w2 at *
          unfold lbBody Lb bD
          generalize sD b2 = S2
          cases o <;> walk_at "go"
theorem bst_len (f : I3 → Option Rat) (b : Option Rat × List I3) (k : I3) : (bstStep f b k).2.length ≤ b.2.length + 1 := by
  unfold bstStep
  split
  · omega
  · split
    · simp
    · split
      · simp
      · split
        · simp
        · omega
theorem bst_some {f : I3 → Option Rat} {b : Option Rat × List I3} {k : I3} {c : Rat} (h : (bstStep f b k).1 = some c) : b.1 = some c ∨ f k = some c := by
  unfold bstStep at h
  split at h
  · exact .inl h
  · rename_i t ht
    split at h
    · right; rw [ht]; exact h
    · split at h
      · right; rw [ht]; exact h
      · split at h
        · right; rw [ht]; exact h
        · exact .inl h
theorem lb_loop : ∀ (ks : List I3) (b : Option Rat × List I3) (k0 : Option D) (o : Option (D × D × D)), (∀ c, b.1 = some c → Sz (a + a + 1 + a + 1) c) → b.2.length + ks.length ≤ 100 →
    ∃ k' o', forF (.nm 3) (fun ρ' μ' => execs (T (n + 3)) W lbBody ρ' μ') (ks.map fun k => D.int (kI k)) (Lb (boxD lo hi) p d k0 b o) μ = some (.nx (Lb (boxD lo hi) p d k' (ks.foldl (bstStep (exO lo hi p d)) b) o') μ)
  | [], b, k0, o, _, _ => ⟨k0, o, rfl⟩
  | k :: ks, b, k0, o, hb, hl => by
    obtain ⟨o1, e⟩ := lb_step (n := n) μ hs hdd k b o hb (by simp at hl; omega)
    have hbd : bindT (.nm 3) (.int (kI k)) (Lb (boxD lo hi) p d k0 b o) = some (Lb (boxD lo hi) p d (some (.int (kI k))) b o) := rfl
    have hn : ∀ c, (bstStep (exO lo hi p d) b k).1 = some c → Sz (a + a + 1 + a + 1) c := fun c q => by
      rcases bst_some hs hdd q with q | q
      · exact hb c q
      · unfold exO at q
        split at q
        · cases q
        · cases q
          exact ex_sz hs hdd k
    obtain ⟨k', o', ih⟩ := lb_loop ks (bstStep (exO lo hi p d) b k) (some (.int (kI k))) o1 hn (by
      have := bst_len hs hdd (exO lo hi p d) b k
      simp at hl
      omega)
    refine ⟨k', o', ?_⟩
    rw [List.map_cons, List.foldl_cons]
    unfold forF
    rw [hbd]
    simp only [e]
    exact ih
theorem lbounce_at : T (n + 4) 86 [boxD lo hi, vD p, vD d] μ = some (.tup [bD (bst (exO lo hi p d)).1, sD (bst (exO lo hi p d)).2], μ) := by
  obtain ⟨k', o', e⟩ := lb_loop (n := n) μ hs hdd [0, 1, 2] (none, []) none none (fun c q => by cases q) (by decide)
  have hB : B__law_bounce 81 79 82 = (.cons (.par 4 5 .non (.lst .nil)) (.cons (.for_ (.nm 3) (.rng1 (.int 3)) lbBody) (.cons (.ret (.tup (.cons (.var 4) (.cons (.var 5) .nil)))) .nil))) := rfl
  refine (T_at (f := 86) (n := n + 3) (d := d__law_bounce) rfl _ _).trans ?_
  unfold d__law_bounce
  rw [hB]
  refine run_rt (μ1 := μ) rfl (Nat.le_of_ble_eq_true rfl) ?_
  refine seq_nx (ρ1 := Lb (boxD lo hi) p d none (none, []) none) (μ1 := μ) rfl ?_
  refine seq_nx (for_of (xs := [0, 1, 2].map fun k => D.int (kI k)) (μ1 := μ) rfl rfl e) ?_
  exact seq_rt rfl
end
/-! ### at a face, or at the beginning -/
section
variable {n : Nat} (μ : Cells) {lo hi p0 d0 : I3 → Rat} (h : Dr lo hi p0 d0)
include h
theorem bst_at {nn : Cnt} {s : Rat} : bst (exO lo hi (PP lo hi p0 d0 nn s) (DD d0 nn)) = (some (tm lo hi p0 d0 nn - s), sN lo hi p0 d0 nn) := by
  obtain ⟨k0, hk0⟩ := h.hd
  have hx : ∀ k, d0 k ≠ 0 → exO lo hi (PP lo hi p0 d0 nn s) (DD d0 nn) k = some (nx lo hi p0 d0 nn k - s) := fun k hk => by
    unfold exO
    rw [if_neg (fun z => hk (DD_zero.mp z)), exT_nx hk]
  have hz : ∀ k, d0 k = 0 → exO lo hi (PP lo hi p0 d0 nn s) (DD d0 nn) k = none := fun k hk => by
    unfold exO
    rw [if_pos (DD_zero.mpr hk)]
  obtain ⟨t, e1, ⟨k1, e2⟩, e3⟩ := bst_spec (exO lo hi (PP lo hi p0 d0 nn s) (DD d0 nn)) ⟨k0, by rw [hx k0 hk0]; exact fun z => by cases z⟩
  obtain ⟨t1, ⟨kk, t2, t3⟩, t4⟩ := tm_spec (lo := lo) (hi := hi) (p0 := p0) (n := nn) h.hd
  have hk1 : d0 k1 ≠ 0 := fun z => by rw [hz k1 z] at e2; cases e2
  have et : t = tm lo hi p0 d0 nn - s := by
    have a1 := e3 kk _ (hx kk t2)
    have a2 := t4 k1 hk1
    rw [hx k1 hk1] at e2
    cases e2
    rw [t3] at a1
    grind
  rw [e1, et]
  congr 1
  rw [t1]
  unfold sidesAt
  apply List.filter_congr
  intro k _
  by_cases hk : d0 k = 0
  · rw [hz k hk]
    simp [hk]
  · rw [hx k hk]
    apply decide_eq_decide.mpr
    constructor
    · intro q
      have q := Option.some.inj q
      exact ⟨hk, by grind⟩
    · rintro ⟨_, q⟩; rw [q]
theorem dd_at {nn : Cnt} {s : Rat} {i : Nat} (a : AtE i s) (k : I3) (hk : DD d0 nn k ≠ 0) : Dd (lvl lo hi k (decide (0 < DD d0 nn k)) - PP lo hi p0 d0 nn s k) (DD d0 nn k) := by
  refine ⟨hk, .inr ?_⟩
  obtain ⟨Y, y1, y2, hz⟩ := PP_z (n := nn) h a
  have c48 : ((48 * Y : Nat) : Rat) = 48 * (Y : Rat) := by push_cast; rfl
  have hl : IsZ (lvl lo hi k (decide (0 < DD d0 nn k)) * ((48 * Y : Nat) : Rat)) := by
    rw [c48]
    unfold lvl
    split
    · exact (((h6 h k).mul (IsZ.lit 8 rfl)).mul (IsZ.nat Y)).of (by grind)
    · exact (((h.l6 k).mul (IsZ.lit 8 rfl)).mul (IsZ.nat Y)).of (by grind)
  have d1 : (lvl lo hi k (decide (0 < DD d0 nn k)) - PP lo hi p0 d0 nn s k).den ≤ 48 * Y := lat_den (by omega) ((hl.sub (hz k)).of (by grind))
  have dn := (DD_sz h (n := nn) k).n
  unfold Sm at dn
  exact Nat.lt_of_le_of_lt (Nat.mul_le_mul (Nat.le_trans d1 (Nat.mul_le_mul_left 48 y2)) (Nat.le_of_lt dn)) (by decide)
theorem lb_at {nn : Cnt} {s : Rat} {i : Nat} (v : Val lo hi p0 d0 nn s) (a : AtE i s) : T (n + 4) 86 [boxD lo hi, vD (PP lo hi p0 d0 nn s), vD (DD d0 nn)] μ = some (.tup [qD (tm lo hi p0 d0 nn - s), sD (sN lo hi p0 d0 nn)], μ) := by
  haveI : ∀ k, Sz 16 (lo k) := fun k => (lo_sz h k).mono (by decide)
  haveI : ∀ k, Sz 16 (hi k) := fun k => (hi_sz h k).mono (by decide)
  haveI : ∀ k, Sz 16 (PP lo hi p0 d0 nn s k) := fun k => PP_sz h a v k
  haveI : ∀ k, Sz 16 (DD d0 nn k) := fun k => (DD_sz h k).mono (by decide)
  have e := lbounce_at (n := n) (lo := lo) (hi := hi) (p := PP lo hi p0 d0 nn s) (d := DD d0 nn) μ (by decide : 16 ≤ 40) (fun k hk => dd_at h a k hk)
  rw [bst_at h] at e
  exact e
end
end K12

set_option Elab.async false
set_option linter.all false
set_option maxRecDepth 100000
set_option maxHeartbeats 4000000
/-! the law's walk -/
namespace K12
open FM
open PySem (Str sizeLine)
theorem num_pos_iff' (q : Rat) : (0 < q.num) ↔ 0 < q := by
  rw [Rat.lt_iff]
  simp
theorem in_sides (k : I3) : ∀ l : List I3, cmpD .In (.int (kI k)) (sD l) = some (decide (k ∈ l)) := by
  have key : ∀ l : List I3, inD (.int (kI k)) (l.map fun j => D.int (kI j)) = some (decide (k ∈ l)) := by
    intro l
    induction l with
    | nil => rfl
    | cons j l ih =>
      rw [List.map_cons]
      unfold inD
      have s1 : scalOk (.int (kI j)) (.int (kI k)) = true := rfl
      have all : (D.int (kI j) :: l.map fun j => D.int (kI j)).all (fun z => scalOk z (.int (kI k))) = true := by
        rw [List.all_eq_true]
        intro z hz
        rcases List.mem_cons.mp hz with rfl | hz
        · rfl
        · obtain ⟨i, _, rfl⟩ := List.mem_map.mp hz
          rfl
      have s2 : eqS (.int (kI j)) (.int (kI k)) = decide (j = k) := by
        show (kI j == kI k) = _
        rw [Bool.beq_eq_decide_eq]
        exact decide_eq_decide.mpr kI_inj
      rw [s1, if_pos rfl, s2, all, if_pos rfl, ih]
      by_cases e : j = k
      · subst e; simp
      · have : ¬ k = j := fun z => e z.symm
        simp [e, this]
  intro l
  show inX (.int (kI k)) (l.map fun j => D.int (kI j)) = _
  unfold inX
  rw [key l]
def evD (e : Ev) : D := .tup [qD e.t, vD e.p, .int (kI e.k), .bl e.up]
local macro_rules | `(tactic| walk_at "go") => `(tactic| simp [FM.runFn, FM.FD.fn, FM.execs, FM.exec, FM.ev, FM.evs, FM.evo, FM.evc, FM.evi, FM.lk, FM.lks, FM.It.lk, FM.isOw, FM.noOw, FM.Sl.isOw, FM.Sl.d, FM.isiD, FM.cmpD, FM.negD, FM.setAll, FM.bindT, FM.andThen_some', FM.onBl_bl, FM.wthD_some', FM.eqD_int, FM.ix_tup, FM.ix_lst, FM.atI_0, FM.atI_1, FM.atI_2, FM.op_add, FM.op_sub, FM.szle, FM.forF, FM.lcGo, FM.biD, K12.eqD_nil, K12.qD_0, K12.qD_1, K12.vD_0, K12.vD_1, K12.vD_2, K12.rng3, K12.rng0, K12.rngOk_3, K12.rngOk_0, FM.zipD, FM.zipD3, K12.szlt, K12.qd0, K12.qd1, K12.qd2, K12.eqD_str, K12.is_non_s, K12.is_non_n, K12.is_non_t, K12.bx0, K12.bx1, K12.bx2, K12.ry0, K12.ry1, K12.ry2, FM.eqD_q, K12.eqD_bl, K12.mod2, K12.sl_take, K12.vD_k, K12.isnon_q, *])
section
variable {n : Nat} (μ : Cells)
/-- p + d * t, as the law writes it -/
theorem lc_flow (i : Nat) (F : Fs) (ρ : Env) (p d r : I3 → Rat) (t : Rat) (ip id it : Nat) (hi : ∀ x, (ρ.set i x)[ip]? = ρ[ip]? ∧ (ρ.set i x)[id]? = ρ[id]? ∧ (ρ.set i x)[it]? = ρ[it]? ∧ (ρ.set i x)[i]? = some x)
    (hp : ρ[ip]? = some (some (.pl (vD p)))) (hd : ρ[id]? = some (some (.pl (vD d)))) (ht : ρ[it]? = some (some (.pl (qD t))))
    (h1 : ∀ k, F 80 [qD (d k), qD t] μ = some (qD (d k * t), μ)) (h2 : ∀ k, F 78 [qD (p k), qD (d k * t)] μ = some (qD (r k), μ)) :
    ev F (.bi .tuple (.cons (.lc (.call 78 (.cons (.ix (.var ip) (.var i)) (.cons (.call 80 (.cons (.ix (.var id) (.var i)) (.cons (.var it) .nil))) .nil))) (.nm i) (.rng1 (.int 3)) .none) .nil)) ρ μ = some (vD r, μ) := by
  have e : ev F (.lc (.call 78 (.cons (.ix (.var ip) (.var i)) (.cons (.call 80 (.cons (.ix (.var id) (.var i)) (.cons (.var it) .nil))) .nil))) (.nm i) (.rng1 (.int 3)) .none) ρ μ = some (.lst (([0, 1, 2] : List I3).map fun k => qD (r k)), μ) := by
    refine lc_of (xs := ([0, 1, 2] : List I3).map fun k => D.int (kI k)) (μ1 := μ) rfl (by decide) ?_
    refine lc_genB (fun k => D.int (kI k)) (fun k => ρ.set i (some (.pl (.int (kI k))))) (fun k => qD (r k)) _ (fun k _ => rfl) (fun k _ => rfl) (fun k _ => ?_)
    obtain ⟨a1, a2, a3, a4⟩ := hi (some (.pl (.int (kI k))))
    rw [hp] at a1
    rw [hd] at a2
    rw [ht] at a3
    have b1 := h1 k
    have b2 := h2 k
    generalize ρ.set i (some (.pl (.int (kI k)))) = ρ' at *
    have v1 : ev F (.var i) ρ' μ = some (.int (kI k), μ) := by unfold ev; rw [a4]; rfl
    have v2 : ev F (.var ip) ρ' μ = some (vD p, μ) := by unfold ev; rw [a1]; rfl
    have v3 : ev F (.var id) ρ' μ = some (vD d, μ) := by unfold ev; rw [a2]; rfl
    have v4 : ev F (.var it) ρ' μ = some (qD t, μ) := by unfold ev; rw [a3]; rfl
    have o1 : isOw ρ' it = false := by unfold isOw; rw [a3]; rfl
    simp [ev, evs, lk, lks, a1, a2, a3, a4, isOw, Sl.isOw, Sl.d, andThen_some', vD_k, wthD_some', b1, b2]
  unfold ev evs
  rw [e]
  rfl
/-- turned round on some sides -/
theorem lc_flip (i : Nat) (F : Fs) (ρ : Env) (d r : I3 → Rat) (l : List I3) (id is : Nat) (hi : ∀ x, (ρ.set i x)[id]? = ρ[id]? ∧ (ρ.set i x)[is]? = ρ[is]? ∧ (ρ.set i x)[i]? = some x)
    (hd : ρ[id]? = some (some (.pl (vD d)))) (hs : ρ[is]? = some (some (.pl (sD l))))
    (h1 : ∀ k, F 79 [qD 0, qD (d k)] μ = some (qD (0 - d k), μ)) (h2 : ∀ k, r k = if k ∈ l then 0 - d k else d k) :
    ev F (.bi .tuple (.cons (.lc (.ife (.cmp .In (.var i) (.var is)) (.call 79 (.cons (.tup (.cons (.int 0) (.cons (.int 1) .nil))) (.cons (.ix (.var id) (.var i)) .nil))) (.ix (.var id) (.var i))) (.nm i) (.rng1 (.int 3)) .none) .nil)) ρ μ = some (vD r, μ) := by
  have e : ev F (.lc (.ife (.cmp .In (.var i) (.var is)) (.call 79 (.cons (.tup (.cons (.int 0) (.cons (.int 1) .nil))) (.cons (.ix (.var id) (.var i)) .nil))) (.ix (.var id) (.var i))) (.nm i) (.rng1 (.int 3)) .none) ρ μ = some (.lst (([0, 1, 2] : List I3).map fun k => qD (r k)), μ) := by
    refine lc_of (xs := ([0, 1, 2] : List I3).map fun k => D.int (kI k)) (μ1 := μ) rfl (by decide) ?_
    refine lc_genB (fun k => D.int (kI k)) (fun k => ρ.set i (some (.pl (.int (kI k))))) (fun k => qD (r k)) _ (fun k _ => rfl) (fun k _ => rfl) (fun k _ => ?_)
    obtain ⟨a1, a2, a4⟩ := hi (some (.pl (.int (kI k))))
    rw [hd] at a1
    rw [hs] at a2
    have b1 := h1 k
    have b2 := h2 k
    generalize ρ.set i (some (.pl (.int (kI k)))) = ρ' at *
    have v1 : ev F (.var i) ρ' μ = some (.int (kI k), μ) := by unfold ev; rw [a4]; rfl
    have v2 : ev F (.var id) ρ' μ = some (vD d, μ) := by unfold ev; rw [a1]; rfl
    have v3 : ev F (.var is) ρ' μ = some (sD l, μ) := by unfold ev; rw [a2]; rfl
    have hin := in_sides k l
    have s2 : 2 ≤ sizeLine := by decide
    by_cases m : k ∈ l
    · rw [if_pos m] at b2
      rw [decide_eq_true m] at hin
      rw [b2]
      simp [ev, evs, lk, lks, a1, a2, a4, isOw, Sl.isOw, Sl.d, andThen_some', onBl_bl, vD_k, wthD_some', b1, hin, s2, qd0]
    · rw [if_neg m] at b2
      rw [decide_eq_false m] at hin
      rw [b2]
      simp [ev, evs, lk, lks, a1, a2, a4, isOw, Sl.isOw, Sl.d, andThen_some', onBl_bl, vD_k, wthD_some', hin]
  unfold ev evs
  rw [e]
  rfl
/-! ### the walk -/
def lwSide : Ss := (.cons (.app 7 (.tup (.cons (.var 6) (.cons (.var 4) (.cons (.var 8) (.cons (.cmp .Gt (.ix (.ix (.var 5) (.var 8)) (.int 0)) (.int 0)) .nil)))))) .nil)
def lwP : E := (.bi .tuple (.cons (.lc (.call 78 (.cons (.ix (.var 4) (.var 11)) (.cons (.call 80 (.cons (.ix (.var 5) (.var 11)) (.cons (.var 9) .nil))) .nil))) (.nm 11) (.rng1 (.int 3)) .none) .nil))
def lwD : E := (.bi .tuple (.cons (.lc (.ife (.cmp .In (.var 11) (.var 10)) (.call 79 (.cons (.tup (.cons (.int 0) (.cons (.int 1) .nil))) (.cons (.ix (.var 5) (.var 11)) .nil))) (.ix (.var 5) (.var 11))) (.nm 11) (.rng1 (.int 3)) .none) .nil))
def lwBody : Ss := (.cons (.asgT [9, 10] (.call 86 (.cons (.var 0) (.cons (.var 4) (.cons (.var 5) .nil))))) (.cons (.asg 6 (.call 78 (.cons (.var 6) (.cons (.var 9) .nil)))) (.cons (.asg 4 lwP) (.cons (.for_ (.nm 8) (.seq (.var 10)) lwSide) (.cons (.asg 5 lwD) .nil)))))
def Lw (B R : D) (m : Nat) (tn : Option D) (p d : I3 → Rat) (now : Rat) (f : List Ev) (sd : Option D) (o : Option (Rat × List I3)) : Env := [some (.pl B), some (.pl R), some (.pl (.int (m : Int))), tn.map .pl, some (.pl (vD p)), some (.pl (vD d)), some (.pl (qD now)), some (.ow (f.map evD)), sd.map .pl, o.map (fun x => .pl (qD x.1)), o.map (fun x => .pl (sD x.2)), none]
theorem lw_sides (F : Fs) (B R : D) (m : Nat) (tn : Option D) (p d : I3 → Rat) (now t : Rat) (ss : List I3) : ∀ (l : List I3) (f : List Ev) (sd : Option D), f.length + l.length ≤ 1000 →
    ∃ sd', forF (.nm 8) (fun ρ' μ' => execs F W lwSide ρ' μ') (l.map fun k => D.int (kI k)) (Lw B R m tn p d now f sd (some (t, ss))) μ = some (.nx (Lw B R m tn p d now (f ++ l.map fun k => ⟨now, p, k, decide (0 < d k)⟩) sd' (some (t, ss))) μ)
  | [], f, sd, _ => ⟨sd, by simp; rfl⟩
  | k :: l, f, sd, h => by
    obtain ⟨sd', ih⟩ := lw_sides F B R m tn p d now t ss l (f ++ [⟨now, p, k, decide (0 < d k)⟩]) (some (.int (kI k))) (by simp at h ⊢; omega)
    refine ⟨sd', ?_⟩
    rw [List.map_cons, List.map_cons]
    unfold forF
    have hlt : (f.map evD).length < sizeLine := by rw [List.length_map]; exact szlt (by simp at h; omega)
    have hb : execs F W lwSide (Lw B R m tn p d now f (some (.int (kI k))) (some (t, ss))) μ = some (.nx (Lw B R m tn p d now (f ++ [⟨now, p, k, decide (0 < d k)⟩]) (some (.int (kI k))) (some (t, ss))) μ) := by
      have e1 : decide (0 < (d k).num) = decide (0 < d k) := decide_eq_decide.mpr (num_pos_iff' (d k))
      unfold lwSide Lw
      rw [List.map_append, List.map_cons, List.map_nil]
      unfold evD
      dsimp only
      rw [← e1]
      clear ih
      generalize hA : f.map (fun e => D.tup [qD e.t, vD e.p, .int (kI e.k), .bl e.up]) = A at *
      have hlt' : A.length < sizeLine := by rw [← hA]; exact hlt
      clear hA hlt e1
      generalize sD ss = S2
      cases tn <;> walk_at "go"
    have hbd : bindT (.nm 8) (.int (kI k)) (Lw B R m tn p d now f sd (some (t, ss))) = some (Lw B R m tn p d now f (some (.int (kI k))) (some (t, ss))) := rfl
    rw [hbd]
    simp only [hb]
    refine ih.trans ?_
    have e9 := List.append_cons f ⟨now, p, k, decide (0 < d k)⟩ (l.map fun k => (⟨now, p, k, decide (0 < d k)⟩ : Ev))
    exact congrArg (fun z => some (Res.nx (Lw B R m tn p d now z sd' (some (t, ss))) μ)) e9.symm
end
end K12

set_option Elab.async false
set_option linter.all false
set_option maxRecDepth 100000
set_option maxHeartbeats 4000000
/-! the law's walk, and where it is at a time -/
namespace K12
open FM
open PySem (Str sizeLine)
local macro_rules | `(tactic| walk_at "go") => `(tactic| simp [FM.runFn, FM.FD.fn, FM.execs, FM.exec, FM.ev, FM.evs, FM.evo, FM.evc, FM.evi, FM.lk, FM.lks, FM.It.lk, FM.isOw, FM.noOw, FM.Sl.isOw, FM.Sl.d, FM.isiD, FM.cmpD, FM.negD, FM.setAll, FM.bindT, FM.andThen_some', FM.onBl_bl, FM.wthD_some', FM.eqD_int, FM.ix_tup, FM.ix_lst, FM.atI_0, FM.atI_1, FM.atI_2, FM.op_add, FM.op_sub, FM.szle, FM.forF, FM.lcGo, FM.biD, K12.eqD_nil, K12.qD_0, K12.qD_1, K12.vD_0, K12.vD_1, K12.vD_2, K12.rng3, K12.rng0, K12.rngOk_3, K12.rngOk_0, FM.zipD, FM.zipD3, K12.szlt, K12.qd0, K12.qd1, K12.qd2, K12.eqD_str, K12.is_non_s, K12.is_non_n, K12.is_non_t, K12.bx0, K12.bx1, K12.bx2, K12.ry0, K12.ry1, K12.ry2, FM.eqD_q, K12.eqD_bl, K12.mod2, K12.sl_take, K12.vD_k, K12.isnon_q, *])
theorem asg_any {F : Fs} {i : Nat} {e : E} {ρ : Env} {μ μ1 : Cells} {x : D} (hl : lk ρ e = false) (ho : isOw ρ i = false) (h : ev F e ρ μ = some (x, μ1)) : exec F W (.asg i e) ρ μ = some (.nx (ρ.set i (some (.pl x))) μ1) := by
  unfold exec
  rw [hl, ho, h]
  rfl
section
variable {n : Nat} (μ : Cells) {lo hi p0 d0 : I3 → Rat} (h : Dr lo hi p0 d0)
include h
theorem flow_eq {nn : Cnt} {s : Rat} (k : I3) : PP lo hi p0 d0 nn s k + DD d0 nn k * (tm lo hi p0 d0 nn - s) = PP lo hi p0 d0 (nN lo hi p0 d0 nn) (tm lo hi p0 d0 nn) k := by
  rw [PP_next h.hd, ← PP_flow]
  congr 1
  grind
theorem adds_at {nn : Cnt} {s : Rat} {i : Nat} (v : Val lo hi p0 d0 nn s) (a : AtE i s) (hi' : i ≤ 490) :
    (∀ k, T (n + 4) 80 [qD (DD d0 nn k), qD (tm lo hi p0 d0 nn - s)] μ = some (qD (DD d0 nn k * (tm lo hi p0 d0 nn - s)), μ)) ∧
    (∀ k, T (n + 4) 78 [qD (PP lo hi p0 d0 nn s k), qD (DD d0 nn k * (tm lo hi p0 d0 nn - s))] μ = some (qD (PP lo hi p0 d0 (nN lo hi p0 d0 nn) (tm lo hi p0 d0 nn) k), μ)) ∧
    (∀ k, T (n + 4) 79 [qD 0, qD (DD d0 nn k)] μ = some (qD (0 - DD d0 nn k), μ)) ∧
    T (n + 4) 78 [qD s, qD (tm lo hi p0 d0 nn - s)] μ = some (qD (tm lo hi p0 d0 nn), μ) := by
  haveI : ∀ k, Sz 16 (PP lo hi p0 d0 nn s k) := fun k => PP_sz h a v k
  haveI : ∀ k, Sz 8 (DD d0 nn k) := fun k => DD_sz h k
  have st := tm_sz h v a (by omega)
  have ss := a.sz (by omega)
  refine ⟨fun k => lmul_at (n := n + 1) μ (by decide) (by decide), fun k => ?_, fun k => lsub_at (n := n + 1) μ (by decide) (by decide), ?_⟩
  · rw [ladd_at (n := n + 1) (x := PP lo hi p0 d0 nn s k) (y := DD d0 nn k * (tm lo hi p0 d0 nn - s)) μ (by decide) (by decide), flow_eq h k]
  · rw [ladd_at (n := n + 1) (x := s) (y := tm lo hi p0 d0 nn - s) μ (by decide) (by decide)]
    congr 3
    grind
theorem lw_step {nn : Cnt} {s : Rat} {i : Nat} (v : Val lo hi p0 d0 nn s) (a : AtE i s) (hi' : i ≤ 490) (R : D) (m : Nat) (tn : D) (f : List Ev) (hf : f.length ≤ 900) (sd : Option D) (o : Option (Rat × List I3)) :
    ∃ sd' o', execs (T (n + 4)) W lwBody (Lw (boxD lo hi) R m (some tn) (PP lo hi p0 d0 nn s) (DD d0 nn) s f sd o) μ = some (.nx (Lw (boxD lo hi) R m (some tn) (PP lo hi p0 d0 (nN lo hi p0 d0 nn) (tm lo hi p0 d0 nn)) (DD d0 (nN lo hi p0 d0 nn)) (tm lo hi p0 d0 nn) (f ++ evs1 lo hi p0 d0 nn) sd' o') μ) := by
  have e1 := lb_at (n := n) μ h v a
  obtain ⟨a1, a2, a3, a4⟩ := adds_at (n := n) μ h v a hi'
  have hsl : (sN lo hi p0 d0 nn).length ≤ 3 := by
    rw [(tm_spec (lo := lo) (hi := hi) (p0 := p0) (n := nn) h.hd).1]
    exact Nat.le_trans (List.length_filter_le _ _) (by decide)
  obtain ⟨sd', e5⟩ := lw_sides μ (T (n + 4)) (boxD lo hi) R m (some tn) (PP lo hi p0 d0 (nN lo hi p0 d0 nn) (tm lo hi p0 d0 nn)) (DD d0 nn) (tm lo hi p0 d0 nn) (tm lo hi p0 d0 nn - s) (sN lo hi p0 d0 nn) (sN lo hi p0 d0 nn) f sd (by omega)
  refine ⟨sd', some (tm lo hi p0 d0 nn - s, sN lo hi p0 d0 nn), ?_⟩
  unfold lwBody
  refine seq_nx (ρ1 := Lw (boxD lo hi) R m (some tn) (PP lo hi p0 d0 nn s) (DD d0 nn) s f sd (some (tm lo hi p0 d0 nn - s, sN lo hi p0 d0 nn))) (μ1 := μ) ?_ ?_
  · clear e5 a1 a2 a3 a4 hsl hf hi' a v
    unfold Lw
    simp only [Option.map_some]
    generalize f.map evD = A
    generalize vD (PP lo hi p0 d0 nn s) = P1 at *
    generalize vD (DD d0 nn) = D1 at *
    generalize qD (tm lo hi p0 d0 nn - s) = Q1 at *
    generalize sD (sN lo hi p0 d0 nn) = S1 at *
    clear h
    cases sd <;> cases o <;> walk_at "go"
  refine seq_nx (ρ1 := Lw (boxD lo hi) R m (some tn) (PP lo hi p0 d0 nn s) (DD d0 nn) (tm lo hi p0 d0 nn) f sd (some (tm lo hi p0 d0 nn - s, sN lo hi p0 d0 nn))) (μ1 := μ) ?_ ?_
  · clear e5 a1 a2 a3 e1 hsl hf hi' a v
    unfold Lw
    simp only [Option.map_some]
    generalize f.map evD = A
    generalize qD (tm lo hi p0 d0 nn - s) = Q1 at *
    generalize qD (tm lo hi p0 d0 nn) = Q2 at *
    clear h
    cases sd <;> walk_at "go"
  refine seq_nx (ρ1 := Lw (boxD lo hi) R m (some tn) (PP lo hi p0 d0 (nN lo hi p0 d0 nn) (tm lo hi p0 d0 nn)) (DD d0 nn) (tm lo hi p0 d0 nn) f sd (some (tm lo hi p0 d0 nn - s, sN lo hi p0 d0 nn))) (μ1 := μ) ?_ ?_
  · have hp := lc_flow μ 11 (T (n + 4)) (Lw (boxD lo hi) R m (some tn) (PP lo hi p0 d0 nn s) (DD d0 nn) (tm lo hi p0 d0 nn) f sd (some (tm lo hi p0 d0 nn - s, sN lo hi p0 d0 nn))) (PP lo hi p0 d0 nn s) (DD d0 nn) (PP lo hi p0 d0 (nN lo hi p0 d0 nn) (tm lo hi p0 d0 nn)) (tm lo hi p0 d0 nn - s) 4 5 9 (fun x => ⟨rfl, rfl, rfl, rfl⟩) rfl rfl rfl a1 a2
    exact asg_any rfl rfl hp
  refine seq_nx (for_of (xs := (sN lo hi p0 d0 nn).map fun k => D.int (kI k)) (μ1 := μ) rfl rfl e5) ?_
  have hd := lc_flip μ 11 (T (n + 4)) (Lw (boxD lo hi) R m (some tn) (PP lo hi p0 d0 (nN lo hi p0 d0 nn) (tm lo hi p0 d0 nn)) (DD d0 nn) (tm lo hi p0 d0 nn) (f ++ (sN lo hi p0 d0 nn).map fun k => ⟨tm lo hi p0 d0 nn, PP lo hi p0 d0 (nN lo hi p0 d0 nn) (tm lo hi p0 d0 nn), k, decide (0 < DD d0 nn k)⟩) sd' (some (tm lo hi p0 d0 nn - s, sN lo hi p0 d0 nn))) (DD d0 nn) (DD d0 (nN lo hi p0 d0 nn)) (sN lo hi p0 d0 nn) 5 10 (fun x => ⟨rfl, rfl, rfl⟩) rfl rfl a3 (fun k => DD_next k)
  refine seq_nx (ρ1 := Lw (boxD lo hi) R m (some tn) (PP lo hi p0 d0 (nN lo hi p0 d0 nn) (tm lo hi p0 d0 nn)) (DD d0 (nN lo hi p0 d0 nn)) (tm lo hi p0 d0 nn) (f ++ evs1 lo hi p0 d0 nn) sd' (some (tm lo hi p0 d0 nn - s, sN lo hi p0 d0 nn))) (μ1 := μ) ?_ rfl
  exact asg_any rfl rfl hd
theorem sN_len (nn : Cnt) : (sN lo hi p0 d0 nn).length ≤ 3 := by
  rw [(tm_spec (lo := lo) (hi := hi) (p0 := p0) (n := nn) h.hd).1]
  exact Nat.le_trans (List.length_filter_le _ _) (by decide)
theorem lw_loop (R : D) (m : Nat) : ∀ (l : List D) (i : Nat) (nn : Cnt) (s : Rat) (f : List Ev) (tn sd : Option D) (o : Option (Rat × List I3)), Val lo hi p0 d0 nn s → AtE i s → i + l.length ≤ 400 → f.length + 3 * l.length ≤ 900 →
    ∃ tn' p' d' s' sd' o', forF (.nm 3) (fun ρ' μ' => execs (T (n + 4)) W lwBody ρ' μ') l (Lw (boxD lo hi) R m tn (PP lo hi p0 d0 nn s) (DD d0 nn) s f sd o) μ = some (.nx (Lw (boxD lo hi) R m tn' p' d' s' (f ++ wk lo hi p0 d0 l.length nn) sd' o') μ)
  | [], i, nn, s, f, tn, sd, o, _, _, _, _ => ⟨tn, _, _, s, sd, o, by simp [wk]; rfl⟩
  | x :: l, i, nn, s, f, tn, sd, o, v, a, hi', hf => by
    obtain ⟨sd1, o1, e⟩ := lw_step (n := n) μ h v a (by simp at hi'; omega) R m x f (by simp at hf; omega) sd o
    have hl3 : (evs1 lo hi p0 d0 nn).length ≤ 3 := by unfold evs1; rw [List.length_map]; exact sN_len h nn
    obtain ⟨tn', p', d', s', sd', o', ih⟩ := lw_loop R m l (i + 1) (nN lo hi p0 d0 nn) (tm lo hi p0 d0 nn) (f ++ evs1 lo hi p0 d0 nn) (some x) sd1 o1 (val_step h.hd h.bx v).1 (ate_next h v a) (by simp at hi'; omega) (by rw [List.length_append]; simp at hf; omega)
    refine ⟨tn', p', d', s', sd', o', ?_⟩
    unfold forF
    have hbd : bindT (.nm 3) x (Lw (boxD lo hi) R m tn (PP lo hi p0 d0 nn s) (DD d0 nn) s f sd o) = some (Lw (boxD lo hi) R m (some x) (PP lo hi p0 d0 nn s) (DD d0 nn) s f sd o) := rfl
    rw [hbd]
    simp only [e]
    refine ih.trans ?_
    have e9 : f ++ wk lo hi p0 d0 (x :: l).length nn = f ++ evs1 lo hi p0 d0 nn ++ wk lo hi p0 d0 l.length (nN lo hi p0 d0 nn) := by
      rw [List.append_assoc]
      rfl
    exact congrArg (fun z => some (Res.nx (Lw (boxD lo hi) R m tn' p' d' s' z sd' o') μ)) e9.symm
theorem lwalk_at (m : Nat) (hm : m ≤ 7) : T (n + 5) 87 [boxD lo hi, rayD p0 d0, .int (m : Int)] μ = some (.lst ((wk lo hi p0 d0 m (fun _ => 0)).map evD), μ) := by
  have hlen : (rngD 0 m).length = m := by unfold rngD; rw [List.length_map, List.length_range]
  obtain ⟨tn', p', d', s', sd', o', e⟩ := lw_loop (n := n) μ h (rayD p0 d0) m (rngD 0 m) 0 (fun _ => 0) 0 [] none none none (val0 h) (ate0 h) (by omega) (by simp; omega)
  rw [hlen, PP0, DD0] at e
  have hB : B__law_walk 86 78 80 79 = (.cons (.par4L 4 5 6 7 (.ix (.var 1) (.int 1)) (.ix (.var 1) (.int 2)) (.tup (.cons (.int 0) (.cons (.int 1) .nil)))) (.cons (.for_ (.nm 3) (.rng1 (.var 2)) lwBody) (.cons (.frz 7) (.cons (.ret (.var 7)) .nil)))) := rfl
  refine (T_at (f := 87) (n := n + 4) (d := d__law_walk) rfl _ _).trans ?_
  unfold d__law_walk
  rw [hB]
  refine run_rt (μ1 := μ) rfl (Nat.le_of_ble_eq_true rfl) ?_
  refine seq_nx (ρ1 := Lw (boxD lo hi) (rayD p0 d0) m none p0 d0 0 [] none none) (μ1 := μ) ?_ ?_
  · clear e hlen
    unfold Lw
    walk_at "go"
  have hev := rng_evi (T (n + 4)) μ (Lw (boxD lo hi) (rayD p0 d0) m none p0 d0 0 [] none none) m (by omega) rfl
  refine seq_nx (for_of hev rfl e) ?_
  rfl
/-! ### where it is at a time -/
def laP (t : Nat) : E := (.bi .tuple (.cons (.lc (.call 78 (.cons (.ix (.var 4) (.var 9)) (.cons (.call 80 (.cons (.ix (.var 5) (.var 9)) (.cons (.var t) .nil))) .nil))) (.nm 9) (.rng1 (.int 3)) .none) .nil))
def laD : E := (.bi .tuple (.cons (.lc (.ife (.cmp .In (.var 9) (.var 8)) (.call 79 (.cons (.tup (.cons (.int 0) (.cons (.int 1) .nil))) (.cons (.ix (.var 5) (.var 9)) .nil))) (.ix (.var 5) (.var 9))) (.nm 9) (.rng1 (.int 3)) .none) .nil))
def laIf : S := (.ifs (.cmp .Gt (.call 82 (.cons (.call 79 (.cons (.var 7) (.cons (.var 6) .nil))) .nil)) (.int 0)) (.cons (.ret (.tup (.cons (laP 6) (.cons (.var 5) .nil)))) .nil) .nil)
def laBody : Ss := (.cons (.asgT [7, 8] (.call 86 (.cons (.var 0) (.cons (.var 4) (.cons (.var 5) .nil))))) (.cons laIf (.cons (.asg 4 (laP 7)) (.cons (.asg 5 laD) (.cons (.asg 6 (.call 79 (.cons (.var 6) (.cons (.var 7) .nil)))) .nil)))))
def La (B R Ti : D) (tn : Option D) (p d : I3 → Rat) (left : Rat) (o : Option (Rat × List I3)) : Env := [some (.pl B), some (.pl R), some (.pl Ti), tn.map .pl, some (.pl (vD p)), some (.pl (vD d)), some (.pl (qD left)), o.map (fun x => .pl (qD x.1)), o.map (fun x => .pl (sD x.2)), none]
theorem la_first {nn : Cnt} {s : Rat} {i : Nat} (v : Val lo hi p0 d0 nn s) (a : AtE i s) (R Ti tn : D) (left : Rat) (o : Option (Rat × List I3)) (rest : Ss) :
    execs (T (n + 4)) W (.cons (.asgT [7, 8] (.call 86 (.cons (.var 0) (.cons (.var 4) (.cons (.var 5) .nil))))) rest) (La (boxD lo hi) R Ti (some tn) (PP lo hi p0 d0 nn s) (DD d0 nn) left o) μ = execs (T (n + 4)) W rest (La (boxD lo hi) R Ti (some tn) (PP lo hi p0 d0 nn s) (DD d0 nn) left (some (tm lo hi p0 d0 nn - s, sN lo hi p0 d0 nn))) μ := by
  have e1 := lb_at (n := n) μ h v a
  clear v a
  unfold La
  simp only [Option.map_some]
  generalize vD (PP lo hi p0 d0 nn s) = P1 at *
  generalize vD (DD d0 nn) = D1 at *
  generalize qD (tm lo hi p0 d0 nn - s) = Q1 at *
  generalize sD (sN lo hi p0 d0 nn) = S1 at *
  clear h
  cases o <;> walk_at "go"
theorem la_step {nn : Cnt} {s time : Rat} {i b : Nat} [ht : Sz b time] (hb : b ≤ 300) (v : Val lo hi p0 d0 nn s) (a : AtE i s) (hi' : i ≤ 490) (hst : s ≤ time) (R Ti tn : D) (o : Option (Rat × List I3)) :
    (time < tm lo hi p0 d0 nn → execs (T (n + 4)) W laBody (La (boxD lo hi) R Ti (some tn) (PP lo hi p0 d0 nn s) (DD d0 nn) (time - s) o) μ = some (.rt (.tup [vD (PP lo hi p0 d0 nn time), vD (DD d0 nn)]) μ)) ∧
    (¬ time < tm lo hi p0 d0 nn → ∃ o', execs (T (n + 4)) W laBody (La (boxD lo hi) R Ti (some tn) (PP lo hi p0 d0 nn s) (DD d0 nn) (time - s) o) μ = some (.nx (La (boxD lo hi) R Ti (some tn) (PP lo hi p0 d0 (nN lo hi p0 d0 nn) (tm lo hi p0 d0 nn)) (DD d0 (nN lo hi p0 d0 nn)) (time - tm lo hi p0 d0 nn) o') μ)) := by
  haveI : ∀ k, Sz 16 (PP lo hi p0 d0 nn s k) := fun k => PP_sz h a v k
  haveI : ∀ k, Sz 8 (DD d0 nn k) := fun k => DD_sz h k
  have st := tm_sz h v a (by omega)
  have ss := a.sz (by omega)
  obtain ⟨a1, a2, a3, a4⟩ := adds_at (n := n) μ h v a hi'
  have z1 := lsub_at (n := n + 1) (x := tm lo hi p0 d0 nn - s) (y := time - s) μ (by decide) (by omega : b + 24 + 1 ≤ 1800)
  have z2 := lsgn_at (n := n + 3) (x := tm lo hi p0 d0 nn - s - (time - s)) μ
  have hcond : ev (T (n + 4)) (.cmp .Gt (.call 82 (.cons (.call 79 (.cons (.var 7) (.cons (.var 6) .nil))) .nil)) (.int 0)) (La (boxD lo hi) R Ti (some tn) (PP lo hi p0 d0 nn s) (DD d0 nn) (time - s) (some (tm lo hi p0 d0 nn - s, sN lo hi p0 d0 nn))) μ = some (.bl (decide (time < tm lo hi p0 d0 nn)), μ) := by
    have e : decide (0 < sg (tm lo hi p0 d0 nn - s - (time - s))) = decide (time < tm lo hi p0 d0 nn) := by
      apply decide_eq_decide.mpr
      rw [sg_pos]
      constructor <;> intro q <;> grind
    rw [← e]
    clear e a1 a2 a3 a4
    unfold La
    simp only [Option.map_some]
    clear h v a
    generalize sg (tm lo hi p0 d0 nn - s - (time - s)) = w at *
    generalize qD (tm lo hi p0 d0 nn - s - (time - s)) = Q3 at *
    generalize qD (tm lo hi p0 d0 nn - s) = Q1 at *
    generalize qD (time - s) = Q2 at *
    walk_at "go"
  constructor
  · intro hlt
    rw [decide_eq_true hlt] at hcond
    unfold laBody
    rw [la_first (n := n) μ h v a R Ti tn (time - s) o]
    refine seq_rt ?_
    have b1 : ∀ k, T (n + 4) 80 [qD (DD d0 nn k), qD (time - s)] μ = some (qD (DD d0 nn k * (time - s)), μ) := fun k => lmul_at (n := n + 1) μ (by decide) (by omega : b + 24 + 1 ≤ 1800)
    have b2 : ∀ k, T (n + 4) 78 [qD (PP lo hi p0 d0 nn s k), qD (DD d0 nn k * (time - s))] μ = some (qD (PP lo hi p0 d0 nn time k), μ) := fun k => by
      rw [ladd_at (n := n + 1) (x := PP lo hi p0 d0 nn s k) (y := DD d0 nn k * (time - s)) μ (by decide) (by omega : 8 + (b + 24 + 1) ≤ 1800), ← PP_flow]
      congr 3
      grind
    have hp := lc_flow μ 9 (T (n + 4)) (La (boxD lo hi) R Ti (some tn) (PP lo hi p0 d0 nn s) (DD d0 nn) (time - s) (some (tm lo hi p0 d0 nn - s, sN lo hi p0 d0 nn))) (PP lo hi p0 d0 nn s) (DD d0 nn) (PP lo hi p0 d0 nn time) (time - s) 4 5 6 (fun x => ⟨rfl, rfl, rfl, rfl⟩) rfl rfl rfl b1 b2
    refine ifs_t hcond (seq_rt ?_)
    have ht : ev (T (n + 4)) (.tup (.cons (laP 6) (.cons (.var 5) .nil))) (La (boxD lo hi) R Ti (some tn) (PP lo hi p0 d0 nn s) (DD d0 nn) (time - s) (some (tm lo hi p0 d0 nn - s, sN lo hi p0 d0 nn))) μ = some (.tup [vD (PP lo hi p0 d0 nn time), vD (DD d0 nn)], μ) := by
      unfold ev
      rw [show lks (La (boxD lo hi) R Ti (some tn) (PP lo hi p0 d0 nn s) (DD d0 nn) (time - s) (some (tm lo hi p0 d0 nn - s, sN lo hi p0 d0 nn))) (.cons (laP 6) (.cons (.var 5) .nil)) = false from rfl, if_neg Bool.false_ne_true]
      unfold evs
      rw [show ev (T (n + 4)) (laP 6) (La (boxD lo hi) R Ti (some tn) (PP lo hi p0 d0 nn s) (DD d0 nn) (time - s) (some (tm lo hi p0 d0 nn - s, sN lo hi p0 d0 nn))) μ = some (vD (PP lo hi p0 d0 nn time), μ) from hp]
      rfl
    exact ret_of rfl ht
  · intro hlt
    rw [decide_eq_false hlt] at hcond
    refine ⟨some (tm lo hi p0 d0 nn - s, sN lo hi p0 d0 nn), ?_⟩
    unfold laBody
    rw [la_first (n := n) μ h v a R Ti tn (time - s) o]
    refine seq_nx (ρ1 := La (boxD lo hi) R Ti (some tn) (PP lo hi p0 d0 nn s) (DD d0 nn) (time - s) (some (tm lo hi p0 d0 nn - s, sN lo hi p0 d0 nn))) (μ1 := μ) (ifs_f hcond rfl) ?_
    have hp := lc_flow μ 9 (T (n + 4)) (La (boxD lo hi) R Ti (some tn) (PP lo hi p0 d0 nn s) (DD d0 nn) (time - s) (some (tm lo hi p0 d0 nn - s, sN lo hi p0 d0 nn))) (PP lo hi p0 d0 nn s) (DD d0 nn) (PP lo hi p0 d0 (nN lo hi p0 d0 nn) (tm lo hi p0 d0 nn)) (tm lo hi p0 d0 nn - s) 4 5 7 (fun x => ⟨rfl, rfl, rfl, rfl⟩) rfl rfl rfl a1 a2
    refine seq_nx (ρ1 := La (boxD lo hi) R Ti (some tn) (PP lo hi p0 d0 (nN lo hi p0 d0 nn) (tm lo hi p0 d0 nn)) (DD d0 nn) (time - s) (some (tm lo hi p0 d0 nn - s, sN lo hi p0 d0 nn))) (μ1 := μ) (asg_any rfl rfl hp) ?_
    have hd := lc_flip μ 9 (T (n + 4)) (La (boxD lo hi) R Ti (some tn) (PP lo hi p0 d0 (nN lo hi p0 d0 nn) (tm lo hi p0 d0 nn)) (DD d0 nn) (time - s) (some (tm lo hi p0 d0 nn - s, sN lo hi p0 d0 nn))) (DD d0 nn) (DD d0 (nN lo hi p0 d0 nn)) (sN lo hi p0 d0 nn) 5 8 (fun x => ⟨rfl, rfl, rfl⟩) rfl rfl a3 (fun k => DD_next k)
    refine seq_nx (ρ1 := La (boxD lo hi) R Ti (some tn) (PP lo hi p0 d0 (nN lo hi p0 d0 nn) (tm lo hi p0 d0 nn)) (DD d0 (nN lo hi p0 d0 nn)) (time - s) (some (tm lo hi p0 d0 nn - s, sN lo hi p0 d0 nn))) (μ1 := μ) (asg_any rfl rfl hd) ?_
    have z3 := lsub_at (n := n + 1) (x := time - s) (y := tm lo hi p0 d0 nn - s) μ (by omega : b + 24 + 1 ≤ 1800) (by decide)
    have e3 : time - s - (tm lo hi p0 d0 nn - s) = time - tm lo hi p0 d0 nn := by grind
    rw [e3] at z3
    have hl : ev (T (n + 4)) (.call 79 (.cons (.var 6) (.cons (.var 7) .nil))) (La (boxD lo hi) R Ti (some tn) (PP lo hi p0 d0 (nN lo hi p0 d0 nn) (tm lo hi p0 d0 nn)) (DD d0 (nN lo hi p0 d0 nn)) (time - s) (some (tm lo hi p0 d0 nn - s, sN lo hi p0 d0 nn))) μ = some (qD (time - tm lo hi p0 d0 nn), μ) := z3
    exact seq_nx (asg_any rfl rfl hl) rfl
theorem la_loop {time : Rat} {b : Nat} [ht : Sz b time] (hb : b ≤ 300) (R Ti : D) : ∀ (l : List D) (i : Nat) (nn : Cnt) (s : Rat) (tn : Option D) (o : Option (Rat × List I3)), Val lo hi p0 d0 nn s → AtE i s → i + l.length ≤ 400 → s ≤ time →
    (∃ nn', Val lo hi p0 d0 nn' time ∧ forF (.nm 3) (fun ρ' μ' => execs (T (n + 4)) W laBody ρ' μ') l (La (boxD lo hi) R Ti tn (PP lo hi p0 d0 nn s) (DD d0 nn) (time - s) o) μ = some (.rt (.tup [vD (PP lo hi p0 d0 nn' time), vD (DD d0 nn')]) μ)) ∨
    (∃ ρ, forF (.nm 3) (fun ρ' μ' => execs (T (n + 4)) W laBody ρ' μ') l (La (boxD lo hi) R Ti tn (PP lo hi p0 d0 nn s) (DD d0 nn) (time - s) o) μ = some (.nx ρ μ))
  | [], i, nn, s, tn, o, _, _, _, _ => .inr ⟨_, rfl⟩
  | x :: l, i, nn, s, tn, o, v, a, hi', hst => by
    obtain ⟨e1, e2⟩ := la_step (n := n) (time := time) μ h hb v a (by simp at hi'; omega) hst R Ti x o
    have hbd : bindT (.nm 3) x (La (boxD lo hi) R Ti tn (PP lo hi p0 d0 nn s) (DD d0 nn) (time - s) o) = some (La (boxD lo hi) R Ti (some x) (PP lo hi p0 d0 nn s) (DD d0 nn) (time - s) o) := rfl
    unfold forF
    rw [hbd]
    by_cases hlt : time < tm lo hi p0 d0 nn
    · left
      refine ⟨nn, val_mid h.hd v hst hlt, ?_⟩
      simp only [e1 hlt]
    · obtain ⟨o', e⟩ := e2 hlt
      have ih := la_loop hb R Ti l (i + 1) (nN lo hi p0 d0 nn) (tm lo hi p0 d0 nn) (some x) o' (val_step h.hd h.bx v).1 (ate_next h v a) (by simp at hi'; omega) (Rat.not_lt.mp hlt)
      rcases ih with ⟨nn', w1, w2⟩ | ⟨ρ, w⟩
      · left
        refine ⟨nn', w1, ?_⟩
        simp only [e]
        exact w2
      · right
        refine ⟨ρ, ?_⟩
        simp only [e]
        exact w
theorem lat_at {time : Rat} {b : Nat} [ht : Sz b time] (hb : b ≤ 300) (h0 : 0 ≤ time) : (∃ nn, Val lo hi p0 d0 nn time ∧ T (n + 5) 88 [boxD lo hi, rayD p0 d0, qD time] μ = some (.tup [vD (PP lo hi p0 d0 nn time), vD (DD d0 nn)], μ)) ∨ T (n + 5) 88 [boxD lo hi, rayD p0 d0, qD time] μ = some (.non, μ) := by
  have hlen : (rngD 0 400).length = 400 := by unfold rngD; rw [List.length_map, List.length_range]
  have e := la_loop (n := n) (time := time) μ h hb (rayD p0 d0) (qD time) (rngD 0 400) 0 (fun _ => 0) 0 none none (val0 h) (ate0 h) (by omega) h0
  have e0 : time - 0 = time := by grind
  rw [PP0, DD0, e0] at e
  have hB : B__law_at 86 82 79 78 80 = (.cons (.asgT [4, 5, 6] (.tup (.cons (.ix (.var 1) (.int 1)) (.cons (.ix (.var 1) (.int 2)) (.cons (.var 2) .nil))))) (.cons (.for_ (.nm 3) (.rng1 (.int 400)) laBody) (.cons (.ret .non) .nil))) := rfl
  have hbeg : exec (T (n + 4)) W (.asgT [4, 5, 6] (.tup (.cons (.ix (.var 1) (.int 1)) (.cons (.ix (.var 1) (.int 2)) (.cons (.var 2) .nil))))) [some (.pl (boxD lo hi)), some (.pl (rayD p0 d0)), some (.pl (qD time)), none, none, none, none, none, none, none] μ = some (.nx (La (boxD lo hi) (rayD p0 d0) (qD time) none p0 d0 time none) μ) := by
    clear e
    unfold La
    walk_at "go"
  have hev : evi (T (n + 4)) (.rng1 (.int 400)) (La (boxD lo hi) (rayD p0 d0) (qD time) none p0 d0 time none) μ = some (rngD 0 400, μ) := rfl
  have start : T (n + 5) 88 [boxD lo hi, rayD p0 d0, qD time] μ = runFn (T (n + 4)) W d__law_at.fn [boxD lo hi, rayD p0 d0, qD time] μ := T_at (f := 88) (n := n + 4) (d := d__law_at) rfl _ _
  rcases e with ⟨nn, w1, w2⟩ | ⟨ρ, w⟩
  · left
    refine ⟨nn, w1, start.trans ?_⟩
    unfold d__law_at
    rw [hB]
    refine run_rt (μ1 := μ) rfl (Nat.le_of_ble_eq_true rfl) ?_
    exact seq_nx hbeg (seq_rt (for_of hev rfl w2))
  · right
    refine start.trans ?_
    unfold d__law_at
    rw [hB]
    refine run_rt (μ1 := μ) rfl (Nat.le_of_ble_eq_true rfl) ?_
    exact seq_nx hbeg (seq_nx (for_of hev rfl w) (seq_rt rfl))
end
end K12

set_option Elab.async false
set_option linter.all false
set_option maxRecDepth 100000
set_option maxHeartbeats 4000000
/-! the law's folding -/
namespace K12
open FM
open PySem (Str sizeLine)
local macro_rules | `(tactic| walk_at "go") => `(tactic| simp [FM.runFn, FM.FD.fn, FM.execs, FM.exec, FM.ev, FM.evs, FM.evo, FM.evc, FM.evi, FM.lk, FM.lks, FM.It.lk, FM.isOw, FM.noOw, FM.Sl.isOw, FM.Sl.d, FM.isiD, FM.cmpD, FM.negD, FM.setAll, FM.bindT, FM.andThen_some', FM.onBl_bl, FM.wthD_some', FM.eqD_int, FM.ix_tup, FM.ix_lst, FM.atI_0, FM.atI_1, FM.atI_2, FM.op_add, FM.op_sub, FM.szle, FM.forF, FM.lcGo, FM.biD, K12.eqD_nil, K12.qD_0, K12.qD_1, K12.vD_0, K12.vD_1, K12.vD_2, K12.rng3, K12.rng0, K12.rngOk_3, K12.rngOk_0, FM.zipD, FM.zipD3, K12.szlt, K12.qd0, K12.qd1, K12.qd2, K12.eqD_str, K12.is_non_s, K12.is_non_n, K12.is_non_t, FM.eqD_q, K12.eqD_bl, K12.mod2, *])
def lfBody : Ss := (.cons (.ifs (.cmp .Gt (.call 82 (.cons (.call 79 (.cons (.var 0) (.cons (.var 2) .nil))) .nil)) (.int 0)) (.cons (.asg 2 (.call 79 (.cons (.call 80 (.cons (.tup (.cons (.int 2) (.cons (.int 1) .nil))) (.cons (.var 0) .nil))) (.cons (.var 2) .nil)))) .nil) (.cons (.ifs (.cmp .Gt (.call 82 (.cons (.call 79 (.cons (.var 2) (.cons (.var 1) .nil))) .nil)) (.int 0)) (.cons (.asg 2 (.call 79 (.cons (.call 80 (.cons (.tup (.cons (.int 2) (.cons (.int 1) .nil))) (.cons (.var 1) .nil))) (.cons (.var 2) .nil)))) .nil) .nil) .nil)) .nil)
section
variable {n : Nat} (μ : Cells) {lo hi : Rat} [hl : Sz 8 lo] [hh : Sz 8 hi]
theorem lf_step {x : Rat} [hx : Sz 20 x] (tn : D) : execs (T (n + 3)) W lfBody [some (.pl (qD lo)), some (.pl (qD hi)), some (.pl (qD x)), some (.pl tn)] μ = some (.nx [some (.pl (qD lo)), some (.pl (qD hi)), some (.pl (qD (fold1 lo hi x))), some (.pl tn)] μ) := by
  have z1 := lsub_at (n := n) (x := lo) (y := x) μ (by decide) (by decide)
  have z2 := lsgn_at (n := n + 2) (x := lo - x) μ
  have z3 := lsub_at (n := n) (x := x) (y := hi) μ (by decide) (by decide)
  have z4 := lsgn_at (n := n + 2) (x := x - hi) μ
  have z5 := lmul_at (n := n) (x := 2) (y := lo) μ (by decide) (by decide)
  have z6 := lmul_at (n := n) (x := 2) (y := hi) μ (by decide) (by decide)
  have z7 := lsub_at (n := n) (x := 2 * lo) (y := x) μ (by decide) (by decide)
  have z8 := lsub_at (n := n) (x := 2 * hi) (y := x) μ (by decide) (by decide)
  unfold fold1
  by_cases h1 : 0 < lo - x
  · rw [if_pos h1]
    have s1 : 0 < sg (lo - x) := sg_pos.mpr h1
    clear z3 z4 z6 z8 h1
    unfold lfBody
    generalize sg (lo - x) = w at *
    generalize qD (lo - x) = Q1 at *
    walk_at "go"
  · rw [if_neg h1]
    have s1 : ¬ 0 < sg (lo - x) := fun z => h1 (sg_pos.mp z)
    by_cases h2 : 0 < x - hi
    · rw [if_pos h2]
      have s2 : 0 < sg (x - hi) := sg_pos.mpr h2
      clear z5 z7 h1 h2
      unfold lfBody
      generalize sg (lo - x) = w at *
      generalize qD (lo - x) = Q1 at *
      generalize sg (x - hi) = w2 at *
      generalize qD (x - hi) = Q2 at *
      walk_at "go"
    · rw [if_neg h2]
      have s2 : ¬ 0 < sg (x - hi) := fun z => h2 (sg_pos.mp z)
      clear z5 z7 z6 z8 h1 h2
      unfold lfBody
      generalize sg (lo - x) = w at *
      generalize qD (lo - x) = Q1 at *
      generalize sg (x - hi) = w2 at *
      generalize qD (x - hi) = Q2 at *
      walk_at "go"
/-- sizes on the way -/
structure Fz (i : Nat) (x : Rat) : Prop where
  z : IsZ (x * 6)
  l : -(40 + 20 * (i : Rat)) ≤ x
  u : x ≤ 40 + 20 * (i : Rat)
omit hl hh in
theorem Fz.sz {i : Nat} {x : Rat} (f : Fz i x) (hi' : i ≤ 400) : Sz 20 x := by
  have c : ((9000 : Nat) : Rat) = 9000 := rfl
  have c6 : ((6 : Nat) : Rat) = 6 := rfl
  have hi2 : (i : Rat) ≤ 400 := by exact_mod_cast hi'
  have := f.l
  have := f.u
  exact lat_sz (N := 6) (B := 9000) (by decide) (by rw [c6]; exact f.z) (by decide) (by rw [c]; grind) (by rw [c]; grind) (by decide)
omit hl hh in
theorem Fz.next {i : Nat} {x : Rat} (f : Fz i x) (l6 : IsZ (lo * 6)) (h6 : IsZ (hi * 6)) (lb : -10 ≤ lo ∧ lo ≤ 10) (hb : -10 ≤ hi ∧ hi ≤ 10) : Fz (i + 1) (fold1 lo hi x) := by
  have c : ((i + 1 : Nat) : Rat) = (i : Rat) + 1 := by push_cast; rfl
  have i0 : (0 : Rat) ≤ (i : Rat) := by exact_mod_cast Nat.zero_le i
  have fl := f.l
  have fu := f.u
  obtain ⟨b1, b2⟩ := lb
  obtain ⟨b3, b4⟩ := hb
  unfold fold1
  refine ⟨?_, ?_, ?_⟩
  · split
    · exact ((l6.mul (IsZ.lit 2 rfl)).sub f.z).of (by grind)
    · split
      · exact ((h6.mul (IsZ.lit 2 rfl)).sub f.z).of (by grind)
      · exact f.z
  · rw [c]; split
    · grind
    · split <;> grind
  · rw [c]; split
    · grind
    · split <;> grind
theorem lf_loop (l6 : IsZ (lo * 6)) (h6 : IsZ (hi * 6)) (lb : -10 ≤ lo ∧ lo ≤ 10) (hb : -10 ≤ hi ∧ hi ≤ 10) : ∀ (l : List D) (i : Nat) (x : Rat) (tn : Option D), Fz i x → i + l.length ≤ 300 →
    ∃ tn', forF (.nm 3) (fun ρ' μ' => execs (T (n + 3)) W lfBody ρ' μ') l [some (.pl (qD lo)), some (.pl (qD hi)), some (.pl (qD x)), tn.map .pl] μ = some (.nx [some (.pl (qD lo)), some (.pl (qD hi)), some (.pl (qD (foldN lo hi l.length x))), tn'] μ)
  | [], i, x, tn, _, _ => ⟨_, rfl⟩
  | y :: l, i, x, tn, f, hi' => by
    haveI := f.sz (by simp at hi'; omega)
    have e := lf_step (n := n) (lo := lo) (hi := hi) (x := x) μ y
    obtain ⟨tn', ih⟩ := lf_loop l6 h6 lb hb l (i + 1) (fold1 lo hi x) (some y) (f.next l6 h6 lb hb) (by simp at hi'; omega)
    refine ⟨tn', ?_⟩
    unfold forF
    have hbd : bindT (.nm 3) y [some (.pl (qD lo)), some (.pl (qD hi)), some (.pl (qD x)), tn.map .pl] = some [some (.pl (qD lo)), some (.pl (qD hi)), some (.pl (qD x)), some (.pl y)] := rfl
    rw [hbd]
    simp only [e]
    exact ih
theorem lfold_at {x : Rat} (l6 : IsZ (lo * 6)) (h6 : IsZ (hi * 6)) (lb : -10 ≤ lo ∧ lo ≤ 10) (hb : -10 ≤ hi ∧ hi ≤ 10) (hx : Fz 0 x) : T (n + 4) 89 [qD lo, qD hi, qD x] μ = some (qD (foldN lo hi 200 x), μ) := by
  have hlen : (rngD 0 200).length = 200 := by unfold rngD; rw [List.length_map, List.length_range]
  obtain ⟨tn', e⟩ := lf_loop (n := n) μ l6 h6 lb hb (rngD 0 200) 0 x none hx (by omega)
  rw [hlen] at e
  have hB : B__law_fold 82 79 80 = (.cons (.for_ (.nm 3) (.rng1 (.int 200)) lfBody) (.cons (.ret (.var 2)) .nil)) := rfl
  refine (T_at (f := 89) (n := n + 3) (d := d__law_fold) rfl _ _).trans ?_
  unfold d__law_fold
  rw [hB]
  refine run_rt (μ1 := μ) rfl (Nat.le_of_ble_eq_true rfl) ?_
  have hev : evi (T (n + 3)) (.rng1 (.int 200)) [some (.pl (qD lo)), some (.pl (qD hi)), some (.pl (qD x)), none] μ = some (rngD 0 200, μ) := rfl
  exact seq_nx (for_of hev rfl e) (seq_rt rfl)
end
end K12

set_option Elab.async false
set_option linter.all false
set_option maxRecDepth 100000
set_option maxHeartbeats 4000000
/-! pure facts: home, faces, edges -/
namespace K12
open FM
theorem c1 : ((1 : Nat) : Rat) = 1 := rfl
theorem foldl_lcm : ∀ (xs : List Rat) (x : Rat), 0 < x → (∀ y ∈ xs, 0 < y) → 0 < xs.foldl lcmQ x ∧ (∀ y, y = x ∨ y ∈ xs → ∃ i : Nat, xs.foldl lcmQ x = (i : Rat) * y) ∧ ∀ z, (∀ y, y = x ∨ y ∈ xs → ∃ i : Int, z = (i : Rat) * y) → ∃ l : Int, z = (l : Rat) * xs.foldl lcmQ x
  | [], x, hx, _ => ⟨hx, fun y hy => ⟨1, by
      rcases hy with rfl | hy
      · show y = ((1 : Nat) : Rat) * y
        rw [c1]; grind
      · cases hy⟩, fun z hz => hz x (.inl rfl)⟩
  | a :: xs, x, hx, h => by
    have ha := h a List.mem_cons_self
    obtain ⟨p1, ⟨i1, p2⟩, ⟨i2, p3⟩⟩ := lcmQ_pos hx ha
    obtain ⟨q1, q2, q3⟩ := foldl_lcm xs (lcmQ x a) p1 (fun y hy => h y (List.mem_cons_of_mem _ hy))
    rw [List.foldl_cons]
    refine ⟨q1, fun y hy => ?_, fun z hz => q3 z fun y hy => ?_⟩
    · rcases hy with rfl | hy
      · obtain ⟨i, e⟩ := q2 _ (.inl rfl)
        refine ⟨i * i2, ?_⟩
        rw [e, p3, Rat.natCast_mul]
        grind
      · rcases List.mem_cons.mp hy with rfl | hy
        · obtain ⟨i, e⟩ := q2 _ (.inl rfl)
          refine ⟨i * i1, ?_⟩
          rw [e, p2, Rat.natCast_mul]
          grind
        · exact q2 y (.inr hy)
    · rcases hy with rfl | hy
      · obtain ⟨i, e⟩ := hz x (.inl rfl)
        obtain ⟨j, e2⟩ := hz a (.inr List.mem_cons_self)
        exact lcmQ_dvd hx ha e e2
      · exact hz y (.inr (List.mem_cons_of_mem _ hy))
section
variable {lo hi p0 d0 : I3 → Rat} (h : Dr lo hi p0 d0)
include h
theorem bx_lt (k : I3) : lo k < hi k := by
  have := h.sb k
  grind
theorem mem_perL {k : I3} (hk : d0 k ≠ 0) : per lo hi d0 k ∈ perL lo hi d0 := by
  unfold perL
  refine List.mem_map.mpr ⟨k, ?_, rfl⟩
  rw [List.mem_filter]
  refine ⟨?_, decide_eq_true hk⟩
  rcases i3_cases k with rfl | rfl | rfl <;> simp
theorem of_perL {x : Rat} (hx : x ∈ perL lo hi d0) : ∃ k, d0 k ≠ 0 ∧ x = per lo hi d0 k := by
  unfold perL at hx
  obtain ⟨k, hk, e⟩ := List.mem_map.mp hx
  rw [List.mem_filter] at hk
  exact ⟨k, of_decide_eq_true hk.2, e.symm⟩
abbrev hmQ (lo hi d0 : I3 → Rat) : Rat := homeQ (perL lo hi d0)
theorem home_facts : 0 < hmQ lo hi d0 ∧ (∀ k, d0 k ≠ 0 → ∃ i : Nat, hmQ lo hi d0 = (i : Rat) * per lo hi d0 k) ∧ ∀ z, (∀ k, d0 k ≠ 0 → ∃ i : Int, z = (i : Rat) * per lo hi d0 k) → ∃ l : Int, z = (l : Rat) * hmQ lo hi d0 := by
  obtain ⟨k0, hk0⟩ := h.hd
  have m0 := mem_perL h hk0
  have mm : ∀ {k : I3}, d0 k ≠ 0 → per lo hi d0 k ∈ perL lo hi d0 := fun hk => mem_perL h hk
  have mo : ∀ {x : Rat}, x ∈ perL lo hi d0 → ∃ k, d0 k ≠ 0 ∧ x = per lo hi d0 k := fun hx => of_perL h hx
  unfold hmQ
  generalize perL lo hi d0 = L at *
  cases L with
  | nil => cases m0
  | cons x xs =>
    have pos : ∀ y ∈ x :: xs, 0 < y := fun y hy => by
      obtain ⟨k, hk, e⟩ := mo hy
      rw [e]
      exact per_pos (fun k => bx_lt h k) hk
    obtain ⟨q1, q2, q3⟩ := foldl_lcm xs x (pos x List.mem_cons_self) (fun y hy => pos y (List.mem_cons_of_mem _ hy))
    refine ⟨q1, fun k hk => q2 _ (List.mem_cons.mp (mm hk)), fun z hz => q3 z fun y hy => ?_⟩
    obtain ⟨k, hk, e⟩ := mo (List.mem_cons.mpr hy)
    rw [e]
    exact hz k hk
theorem home_back {nn : Cnt} (v : Val lo hi p0 d0 nn (hmQ lo hi d0)) : PP lo hi p0 d0 nn (hmQ lo hi d0) = p0 ∧ DD d0 nn = d0 := home_ok h.bx v (home_facts h).2.1
theorem early_no {nn : Cnt} {part : Nat} (hp : 2 ≤ part) {t : Rat} (ht : t * (part : Rat) = hmQ lo hi d0) : ¬ (PP lo hi p0 d0 nn t = p0 ∧ DD d0 nn = d0) := by
  rintro ⟨e1, e2⟩
  obtain ⟨q1, _, q3⟩ := home_facts h
  obtain ⟨l, hl⟩ := q3 t fun k hk => by
    obtain ⟨i, e⟩ := back_mul (k := k) e1 e2 hk
    exact ⟨(i : Int), e⟩
  generalize hmQ lo hi d0 = H at *
  have e : ((l * (part : Int) : Int) : Rat) = ((1 : Int) : Rat) := by
    rw [Rat.intCast_mul]
    have c : (((part : Nat) : Int) : Rat) = (part : Rat) := rfl
    have c' : ((1 : Int) : Rat) = 1 := rfl
    rw [c, c']
    have : H * ((l : Rat) * (part : Rat)) = H * 1 := by
      rw [hl] at ht
      grind
    grind
  have e : l * (part : Int) = 1 := by exact_mod_cast e
  have : (part : Int) ∣ 1 := ⟨l, by rw [← e, Int.mul_comm]⟩
  have := Int.le_of_dvd (by decide) this
  omega
/-! ### one side at a time -/
theorem wk_gt : ∀ (m : Nat) (nn : Cnt) (s : Rat), Val lo hi p0 d0 nn s → ∀ e ∈ wk lo hi p0 d0 m nn, s < e.t
  | 0, _, _, _, e, he => by cases he
  | m + 1, nn, s, v, e, he => by
    obtain ⟨v2, hst⟩ := val_step h.hd h.bx v
    rcases List.mem_append.mp he with he | he
    · unfold evs1 at he
      obtain ⟨k, _, rfl⟩ := List.mem_map.mp he
      exact hst
    · have := wk_gt m _ _ v2 e he
      grind
theorem wk_sng : ∀ (m : Nat) (nn : Cnt), Sng lo hi p0 d0 m nn → (wk lo hi p0 d0 m nn).length = m
  | 0, _, _ => rfl
  | m + 1, nn, ⟨⟨k, e⟩, hs⟩ => by
    have ih := wk_sng m _ hs
    show (evs1 lo hi p0 d0 nn ++ _).length = _
    rw [List.length_append, ih]
    unfold evs1
    rw [e]
    simp
    omega
theorem sng_of : ∀ (m : Nat) (nn : Cnt) (s : Rat), Val lo hi p0 d0 nn s → ((wk lo hi p0 d0 m nn).map Ev.t).Nodup → Sng lo hi p0 d0 m nn
  | 0, _, _, _, _ => trivial
  | m + 1, nn, s, v, hnd => by
    obtain ⟨v2, hst⟩ := val_step h.hd h.bx v
    have e : (wk lo hi p0 d0 (m + 1) nn).map Ev.t = (evs1 lo hi p0 d0 nn).map Ev.t ++ (wk lo hi p0 d0 m (nN lo hi p0 d0 nn)).map Ev.t := List.map_append
    rw [e] at hnd
    have h2 := List.nodup_append.mp hnd
    refine ⟨?_, sng_of m _ _ v2 h2.2.1⟩
    have h3 := h2.1
    unfold evs1 at h3
    have ne := sN_ne (lo := lo) (hi := hi) (p0 := p0) (n := nn) h.hd
    rw [List.map_map] at h3
    generalize sN lo hi p0 d0 nn = S at *
    cases S with
    | nil => exact absurd rfl ne
    | cons a S =>
      cases S with
      | nil => exact ⟨a, rfl⟩
      | cons b S =>
        rw [List.map_cons, List.map_cons] at h3
        exact absurd List.mem_cons_self (List.nodup_cons.mp h3).1
def rwE (e : Ev) : Rw := (e.t, e.k, e.up)
theorem fm_wk : ∀ (m : Nat) (nn : Cnt) (s : Rat) (rows : List Rw), Val lo hi p0 d0 nn s → Sng lo hi p0 d0 m nn → (∀ r ∈ rows, r.1 ≤ s) →
    ((wk lo hi p0 d0 m nn).map Ev.t).foldl (fun rows t => fm1 lo hi p0 d0 rows t [0, 1, 2]) rows = rows ++ (wk lo hi p0 d0 m nn).map rwE
  | 0, _, _, rows, _, _, _ => (List.append_nil rows).symm
  | m + 1, nn, s, rows, v, ⟨⟨k, ek⟩, hs⟩, hr => by
    obtain ⟨v2, hst⟩ := val_step h.hd h.bx v
    have e1 : wk lo hi p0 d0 (m + 1) nn = ⟨tm lo hi p0 d0 nn, PP lo hi p0 d0 (nN lo hi p0 d0 nn) (tm lo hi p0 d0 nn), k, decide (0 < DD d0 nn k)⟩ :: wk lo hi p0 d0 m (nN lo hi p0 d0 nn) := by
      show evs1 lo hi p0 d0 nn ++ _ = _
      unfold evs1
      rw [ek]
      rfl
    have hno : (rows.any fun r => decide (r.1 = tm lo hi p0 d0 nn ∧ r.2.1 = k)) = false := by
      rw [List.any_eq_false]
      intro r hr'
      have := hr r hr'
      simp
      intro e
      grind
    have hit := trn_hit (k := k) h.hd h.bx (n := nn) (by rw [ek]; exact List.mem_singleton.mpr rfl)
    have mk := (mem_sN h.hd (n := nn) (k := k)).mp (by rw [ek]; exact List.mem_singleton.mpr rfl)
    have ck : cK lo hi p0 d0 rows (tm lo hi p0 d0 nn) k = true := by
      unfold cK
      rw [decide_eq_true mk.1, decide_eq_true hit.1, hno]
      rfl
    have cj : ∀ j, j ≠ k → cK lo hi p0 d0 rows (tm lo hi p0 d0 nn) j = false := fun j hj => by
      unfold cK
      by_cases z : d0 j = 0
      · simp [z]
      · have := trn_miss (k := j) h.hd h.bx v z (by rw [ek]; simpa using hj)
        simp [this]
    have up : upK lo hi p0 d0 (tm lo hi p0 d0 nn) k = decide (0 < DD d0 nn k) := by
      unfold upK
      exact decide_eq_decide.mpr hit.2
    have f1 : fm1 lo hi p0 d0 rows (tm lo hi p0 d0 nn) [0, 1, 2] = rows ++ [(tm lo hi p0 d0 nn, k, decide (0 < DD d0 nn k))] := by
      rw [← up]
      rcases i3_cases k with rfl | rfl | rfl
      · unfold fm1; rw [if_pos ck]
      · unfold fm1; rw [cj 0 (by decide), if_neg (by decide)]
        unfold fm1; rw [if_pos ck]
      · unfold fm1; rw [cj 0 (by decide), if_neg (by decide)]
        unfold fm1; rw [cj 1 (by decide), if_neg (by decide)]
        unfold fm1; rw [if_pos ck]
    rw [e1, List.map_cons, List.foldl_cons, f1, fm_wk m _ _ _ v2 hs (fun r hr' => by
      rcases List.mem_append.mp hr' with hr' | hr'
      · have := hr r hr'; grind
      · rw [List.mem_singleton.mp hr']; exact Rat.le_refl), List.map_cons, List.append_assoc]
    rfl
theorem fmA_wk (m : Nat) (hs : Sng lo hi p0 d0 m (fun _ => 0)) : fmA lo hi p0 d0 (tms lo hi p0 d0 m) = (wk lo hi p0 d0 m (fun _ => 0)).map rwE := by
  have hl := wk_sng h m _ hs
  unfold tms fmA
  rw [List.take_of_length_le (by rw [List.length_map]; omega), fm_wk h m _ 0 [] (val0 h) hs (fun r hr => by cases hr)]
  rfl
end
/-! ### the dict of times -/
theorem dkL_sub : ∀ (ks acc : List (List Int)), (FA.dkL acc ks).length = acc.length + ks.length → ks.Nodup ∧ ∀ k ∈ ks, k ∉ acc
  | [], acc, _ => ⟨List.nodup_nil, fun k hk => by cases hk⟩
  | k :: ks, acc, e => by
    unfold FA.dkL at e
    rw [List.length_cons] at e
    by_cases m : k ∈ acc
    · rw [if_pos m] at e
      have := FA.dkL_len ks acc
      omega
    · rw [if_neg m] at e
      obtain ⟨i1, i2⟩ := dkL_sub ks (acc ++ [k]) (by rw [e, List.length_append, List.length_singleton]; omega)
      refine ⟨List.nodup_cons.mpr ⟨fun z => i2 k z (List.mem_append_right _ (List.mem_singleton.mpr rfl)), i1⟩, fun j hj => ?_⟩
      rcases List.mem_cons.mp hj with rfl | hj
      · exact m
      · exact fun z => i2 j hj (List.mem_append_left _ z)
end K12

set_option Elab.async false
set_option linter.all false
set_option maxRecDepth 100000
set_option maxHeartbeats 4000000
/-! alike, exactly -/
namespace K12
open FM
open PySem (Str sizeLine)
open L2 (atI)
theorem sh_lst {k : Nat} {ds : List D} (h : ShL k ds) : Sh (k + 1) (.lst ds) := by
  obtain ⟨h1, h2, h3⟩ := h
  refine ⟨?_, ?_, ?_⟩
  · unfold D.noCell; exact h1
  · unfold D.py PySem.PyData.canLay0; exact h2
  · unfold D.py PySem.PyData.depth; omega
theorem shL_ints {α : Type} (f : α → Int) : ∀ l : List α, ShL 0 (l.map fun a => D.int (f a))
  | [] => .nil _
  | x :: xs => .cons (.int _ _) (shL_ints f xs)
theorem eqD_ints {α : Type} (f : α → Int) (l : List α) : eqD (.lst (l.map fun a => D.int (f a))) (.lst []) = some l.isEmpty := by
  have s1 := (sh_lst (shL_ints f l)).ok (by decide)
  have s2 : shOk (.lst []) = true := (sh_lst (ShL.nil 0)).ok (by decide)
  have s0 : scalOk (.lst (l.map fun a => D.int (f a))) (.lst []) = false := rfl
  unfold eqD
  rw [s0, if_neg (by decide), s1, s2, Bool.and_self, if_pos rfl]
  cases l with
  | nil => rfl
  | cons x xs => rfl
section
variable {F : Fs}
local macro_rules | `(tactic| walk_at "go") => `(tactic| simp [FM.runFn, FM.FD.fn, FM.execs, FM.exec, FM.ev, FM.evs, FM.evo, FM.evc, FM.evi, FM.lk, FM.lks, FM.It.lk, FM.isOw, FM.noOw, FM.Sl.isOw, FM.Sl.d, FM.isiD, FM.cmpD, FM.negD, FM.setAll, FM.bindT, FM.andThen_some', FM.onBl_bl, FM.wthD_some', FM.eqD_int, K12.eqD_str, K12.eqD_bl, FM.isNon])
theorem alike_sc {f : Nat} {x y : D} {n : Nat} (hy : y.scal = true) (hy2 : dep n y = true) (hx : dep n x = true) : ∃ b : Bool, (b = true ↔ x = y) ∧ ∀ μ, runFn F W ⟨2, 3, B__law_alike f⟩ [x, y] μ = some (.bl b, μ) := by
  have key : ∀ b : Bool, (b = true ↔ x = y) → (∀ μ, execs F W (B__law_alike f) [some (.pl x), some (.pl y), none] μ = some (.rt (.bl b) μ)) → ∃ b : Bool, (b = true ↔ x = y) ∧ ∀ μ, runFn F W ⟨2, 3, B__law_alike f⟩ [x, y] μ = some (.bl b, μ) := fun b h1 h2 => ⟨b, h1, fun μ => by
    exact run_rt rfl (Nat.le_of_ble_eq_true rfl) (h2 μ)⟩
  cases y with
  | non =>
    cases x with
    | non => exact key true (by simp) fun μ => by unfold B__law_alike; walk_at "go"
    | lst _ => cases n <;> cases hx
    | cell _ => cases n <;> cases hx
    | _ => exact key false (by simp) fun μ => by unfold B__law_alike; walk_at "go"
  | bl t =>
    cases x with
    | bl s => exact key (s == t) (by simp) fun μ => by unfold B__law_alike; walk_at "go"
    | lst _ => cases n <;> cases hx
    | cell _ => cases n <;> cases hx
    | _ => exact key false (by simp) fun μ => by unfold B__law_alike; walk_at "go"
  | int t =>
    cases x with
    | int s => exact key (decide (s = t)) (by simp) fun μ => by unfold B__law_alike; walk_at "go"
    | lst _ => cases n <;> cases hx
    | cell _ => cases n <;> cases hx
    | _ => exact key false (by simp) fun μ => by unfold B__law_alike; walk_at "go"
  | str t =>
    cases x with
    | str s => exact key (s == t) (by simp) fun μ => by unfold B__law_alike; walk_at "go"
    | lst _ => cases n <;> cases hx
    | cell _ => cases n <;> cases hx
    | _ => exact key false (by simp) fun μ => by unfold B__law_alike; walk_at "go"
  | tup _ => cases hy
  | lst _ => cases hy
  | cell _ => cases hy
theorem alike_tp0 {f : Nat} {x : D} {es : List D} {n : Nat} (hx : dep n x = true) (ht : ∀ ds, x ≠ .tup ds) (μ : Cells) : runFn F W ⟨2, 3, B__law_alike f⟩ [x, .tup es] μ = some (.bl false, μ) := by
  refine run_rt rfl (Nat.le_of_ble_eq_true rfl) ?_
  unfold B__law_alike
  cases x with
  | tup ds => exact absurd rfl (ht ds)
  | lst _ => cases n <;> cases hx
  | cell _ => cases n <;> cases hx
  | _ => walk_at "go"
theorem range_nil {N : Nat} {p : Nat → Bool} : ((List.range N).filter p) = [] ↔ ∀ k, k < N → p k = false := by
  rw [List.filter_eq_nil_iff]
  constructor
  · intro h k hk
    have := h k (List.mem_range.mpr hk)
    simpa using this
  · intro h k hk
    rw [h k (List.mem_range.mp hk)]
    simp
theorem alike_tps {f : Nat} {ds es : List D} (hl : ds.length ≤ 1000) (hl2 : es.length ≤ 1000) (h : ∀ k (h1 : k < ds.length) (h2 : k < es.length), ∃ b : Bool, (b = true ↔ ds[k] = es[k]) ∧ ∀ μ, F f [ds[k], es[k]] μ = some (.bl b, μ)) :
    ∃ b : Bool, (b = true ↔ D.tup ds = .tup es) ∧ ∀ μ, runFn F W ⟨2, 3, B__law_alike f⟩ [.tup ds, .tup es] μ = some (.bl b, μ) := by
  by_cases e : ds.length = es.length
  · have hp : ∃ p : Nat → Bool, ∀ k (h1 : k < ds.length) (h2 : k < es.length), ((p k = false) ↔ ds[k] = es[k]) ∧ ∀ μ, F f [ds[k], es[k]] μ = some (.bl (!p k), μ) := by
      refine ⟨fun k => if h1 : k < ds.length then (if h2 : k < es.length then !(Classical.choose (h k h1 h2)) else true) else true, fun k h1 h2 => ?_⟩
      have sp := Classical.choose_spec (h k h1 h2)
      simp only [h1, h2, dite_true]
      generalize Classical.choose (h k h1 h2) = b at *
      refine ⟨?_, ?_⟩
      · rw [← sp.1]; simp
      · intro μ; rw [sp.2 μ, Bool.not_not]
    obtain ⟨p, hp⟩ := hp
    refine ⟨decide ((List.range es.length).filter p = []), ?_, fun μ => ?_⟩
    · rw [decide_eq_true_eq, range_nil]
      constructor
      · intro g
        congr 1
        apply List.ext_getElem e
        intro k h1 h2
        exact (hp k h1 h2).1.mp (g k h2)
      · intro g
        cases g
        intro k hk
        exact (hp k hk hk).1.mpr rfl
    · have lc : ev F (.lc (.var 2) (.nm 2) (.rng1 (.bi .len (.cons (.var 1) .nil))) (.some (.not (.call f (.cons (.ix (.var 0) (.var 2)) (.cons (.ix (.var 1) (.var 2)) .nil)))))) (pl [some (.tup ds), some (.tup es), none]) μ = some (.lst (((List.range es.length).filter p).map fun (k : Nat) => D.int k), μ) := by
        refine ev_lcf es.length p (by omega) (by simp) ?_ fun k hk => ?_
        · unfold pl
          walk_at "go"
          simp [len_tup, andThen_some', wthD_some']
        · have c := (hp k (by omega) hk).2 μ
          have a1 : ixD μ (.tup ds) (.int (k : Int)) = some ds[k] := by rw [ix_tup]; exact atI_nat (by omega)
          have a2 : ixD μ (.tup es) (.int (k : Int)) = some es[k] := by rw [ix_tup]; exact atI_nat hk
          generalize ds[k] = u at *
          generalize es[k] = v at *
          unfold pl
          walk_at "go"
          simp [a1, a2, c, andThen_some', wthD_some', onBl_bl]
      refine run_rt rfl (Nat.le_of_ble_eq_true rfl) ?_
      have st : ([D.tup ds, D.tup es].map fun d => some (Sl.pl d)) ++ List.replicate (3 - 2) none = pl [some (.tup ds), some (.tup es), none] := rfl
      refine seq_rt (ifs_t (μ1 := μ) ?_ (seq_nx (ρ1 := pl [some (.tup ds), some (.tup es), none]) (μ1 := μ) (ifs_f (μ1 := μ) ?_ ?_) (seq_rt (ret_of rfl (cmp_of lc (y := .lst []) (μ2 := μ) ?_ ?_)))))
      · walk_at "go"
      · walk_at "go"
        simp [len_tup, andThen_some', eqD_int, wthD_some', onBl_bl, e]
      · rfl
      · rfl
      · show eqD _ _ = _
        generalize (List.range es.length).filter p = q
        rw [eqD_ints (fun (k : Nat) => (k : Int))]
        cases q <;> rfl
  · refine ⟨false, ?_, fun μ => ?_⟩
    · constructor
      · intro g; cases g
      · intro g; cases g; exact absurd rfl e
    · refine run_rt rfl (Nat.le_of_ble_eq_true rfl) ?_
      refine seq_rt (ifs_t (μ1 := μ) ?_ (seq_rt (ifs_t (μ1 := μ) ?_ ?_)))
      · walk_at "go"
      · have e' : ¬ ((ds.length : Nat) : Int) = ((es.length : Nat) : Int) := by omega
        walk_at "go"
        simp [len_tup, andThen_some', eqD_int, wthD_some', onBl_bl, e', e]
      · walk_at "go"
end
theorem alike_dep {f : Nat} {G : Nat → Fs} (hG : ∀ n ds μ, G (n + 1) f ds μ = runFn (G n) W ⟨2, 3, B__law_alike f⟩ ds μ) : ∀ (n : Nat) (x y : D), dep n x = true → dep n y = true → ∃ b : Bool, (b = true ↔ x = y) ∧ ∀ μ, G (n + 1) f [x, y] μ = some (.bl b, μ)
  | n, x, y, hx, hy => by
    have sc : y.scal = true → ∃ b : Bool, (b = true ↔ x = y) ∧ ∀ μ, G (n + 1) f [x, y] μ = some (.bl b, μ) := fun s => by
      obtain ⟨b, h1, h2⟩ := alike_sc (F := G n) (f := f) s hy hx
      exact ⟨b, h1, fun μ => by rw [hG]; exact h2 μ⟩
    cases y with
    | non => exact sc rfl
    | bl _ => exact sc rfl
    | int _ => exact sc rfl
    | str _ => exact sc rfl
    | lst _ => cases n <;> cases hy
    | cell _ => cases n <;> cases hy
    | tup es =>
      by_cases ht : ∃ ds, x = .tup ds
      · obtain ⟨ds, rfl⟩ := ht
        cases n with
        | zero => cases hy
        | succ n =>
          unfold dep at hx hy
          rw [Bool.and_eq_true, decide_eq_true_eq, List.all_eq_true] at hx hy
          obtain ⟨b, h1, h2⟩ := alike_tps (F := G (n + 1)) (f := f) hx.1 hy.1 fun k k1 k2 => alike_dep hG n ds[k] es[k] (hx.2 _ (List.getElem_mem k1)) (hy.2 _ (List.getElem_mem k2))
          exact ⟨b, h1, fun μ => by rw [hG]; exact h2 μ⟩
      · refine ⟨false, ⟨fun g => (by cases g), fun g => absurd ⟨es, g⟩ ht⟩, fun μ => ?_⟩
        rw [hG]
        exact alike_tp0 hx (fun ds z => ht ⟨ds, z⟩) μ
theorem lk_ex (x y : D) (hx : dep 50 x = true) (hy : dep 50 y = true) : ∃ b : Bool, (b = true ↔ x = y) ∧ ∀ μ, T 99 75 [x, y] μ = some (.bl b, μ) := alike_dep (f := 75) (G := fun n => T (n + 48)) (fun n ds μ => T_at (f := 75) (n := n + 48) (d := d__law_alike) rfl _ _) 50 x y hx hy
theorem like_at (d : D) (h : dep 50 d = true) : LikeC (T 99) 75 d := (like_dep (f := 75) (G := fun n => T (n + 48)) (fun n ds μ => T_at (f := 75) (n := n + 48) (d := d__law_alike) rfl _ _) 50 d h : LikeC (T 99) 75 d)
end K12

set_option Elab.async false
set_option linter.all false
set_option maxRecDepth 100000
set_option maxHeartbeats 4000000
/-! drawn numbers, places, ways -/
namespace K12
open FM
open PySem (Str sizeLine)
open L2 (atI)
local macro_rules | `(tactic| walk_at "go") => `(tactic| simp [FM.execs, FM.exec, FM.ev, FM.evs, FM.evo, FM.evc, FM.evi, FM.Sl.d, FM.isiD, FM.cmpD, FM.negD, FM.bindT, FM.andThen_some', FM.onBl_bl, FM.wthD_some', FM.eqD_int, FM.ix_tup, FM.ix_lst, FM.atI_0, FM.atI_1, FM.atI_2, FM.op_add, FM.op_sub, FM.op_subBl, FM.biD_abs, FM.szle, FM.pl_get, FM.pl_set, FM.isOw_pl, FM.noOw_pl, FM.lk_pl, FM.lks_pl, FM.itlk_pl, FM.setAll_pl, FM.setAllD])
theorem run_plk {F : Fs} {ar sl : Nat} {b : Ss} {ds : List D} {μ μ1 : Cells} {d : D} (h : ds.length = ar) (hl : ar ≤ sl) (e : execs F W b (pl (ds.map some ++ List.replicate (sl - ar) none)) μ = some (.rt d μ1)) : runFn F W ⟨ar, sl, b⟩ ds μ = some (d, μ1) := by
  refine run_rt h hl ?_
  rw [← h] at e ⊢
  rw [start_pl]
  exact e
theorem draws_at (n : Nat) (ns : List Int) (h : ns.length ≤ 63) (μ : Cells) : ∃ is : List Int, T (n + 1) 72 [.lst (ns.map D.int), .int 300] μ = some (.lst (is.map D.int), μ) := by
  obtain ⟨is, e⟩ := draws_ok (F := T n) ns h 300 (by decide) μ
  exact ⟨is, (T_at (f := 72) (n := n) (d := d__law_draws) rfl _ _).trans e⟩
theorem next_at (n : Nat) (is : List Int) (k many : Int) (h : 0 < many) (hk : 0 ≤ k) : ∃ r : Int, 0 ≤ r ∧ r < many ∧ T (n + 1) 73 [.cell 0, .int many] [cw is k] = some (.int r, [cw is (k + 1)]) := by
  obtain ⟨r, h1, h2, h3⟩ := next_ok (F := T n) is k many h hk []
  exact ⟨r, h1, h2, (T_at (f := 73) (n := n) (d := d__law_next) rfl _ _).trans h3⟩
theorem pick_at (n : Nat) (is : List Int) (k : Int) (ds : List D) (hk : 0 ≤ k) (hd : ds ≠ []) : ∃ d : D, d ∈ ds ∧ T (n + 2) 74 [.cell 0, .lst ds] [cw is k] = some (d, [cw is (k + 1)]) := by
  have l0 : 0 < ds.length := List.length_pos_iff.mpr hd
  obtain ⟨r, r0, r1, e⟩ := next_at n is k ds.length (by omega) hk
  have hr : r.toNat < ds.length := by omega
  have at' : atI ds r = some ds[r.toNat] := by
    have := atI_nat (l := ds) (k := r.toNat) hr
    rwa [Int.toNat_of_nonneg r0] at this
  refine ⟨ds[r.toNat], List.getElem_mem hr, (T_at (f := 74) (n := n + 1) (d := d__law_pick) rfl _ _).trans (run_plk rfl (Nat.le_of_ble_eq_true rfl) (seq_rt ?_))⟩
  generalize ds[r.toNat] = d at *
  walk_at "go"
  simp [len_lst, e, FM.ix_lst, at', andThen_some', wthD_some']
/-- a drawn number: whole sixths, at most so great -/
structure Nr (most : Int) (q : Rat) : Prop where
  z : IsZ (q * 6)
  l : -(most : Rat) ≤ q
  u : q ≤ (most : Rat)
theorem qd_fr (n : Int) {d : Int} (hd : d ≠ 0) : fD (fr n d) = qD ((n : Rat) / (d : Rat)) := by
  show D.tup [.int (fr n d).1, .int (fr n d).2] = D.tup _
  rw [fr_pq n hd]
  rfl
theorem nr_of {most n d : Int} (h1 : -most ≤ n) (h2 : n ≤ most) (h0 : 0 ≤ most) (hd : d = 1 ∨ d = 2 ∨ d = 3) : Nr most ((n : Rat) / (d : Rat)) := by
  have e1 : -(most : Rat) ≤ (n : Rat) := by
    have c : ((-most : Int) : Rat) = -(most : Rat) := by push_cast; rfl
    rw [← c]; exact Rat.intCast_le_intCast.mpr h1
  have e2 : (n : Rat) ≤ (most : Rat) := Rat.intCast_le_intCast.mpr h2
  have e3 : (0 : Rat) ≤ (most : Rat) := Rat.intCast_le_intCast.mpr h0
  have c2 : ((2 : Int) : Rat) = 2 := rfl
  have c3 : ((3 : Int) : Rat) = 3 := rfl
  have c1 : ((1 : Int) : Rat) = 1 := rfl
  rcases hd with rfl | rfl | rfl
  · refine ⟨⟨n * 6, by push_cast; grind⟩, by rw [c1]; grind, by rw [c1]; grind⟩
  · refine ⟨⟨n * 3, by push_cast; grind⟩, by rw [c2]; grind, by rw [c2]; grind⟩
  · refine ⟨⟨n * 2, by push_cast; grind⟩, by rw [c3]; grind, by rw [c3]; grind⟩
theorem num_at (n : Nat) (is : List Int) (k most : Int) (hk : 0 ≤ k) (h0 : 0 ≤ most) (h1 : most ≤ 100) : ∃ q : Rat, Nr most q ∧ T (n + 4) 83 [.cell 0, .int most] [cw is k] = some (qD q, [cw is (k + 2)]) := by
  obtain ⟨r, r0, r1, e1⟩ := next_at (n + 2) is k (2 * most + 1) (by omega) hk
  obtain ⟨d, hd, e2⟩ := pick_at (n + 1) is (k + 1) [.int 1, .int 1, .int 2, .int 3] (by omega) (by simp)
  have hd' : ∃ i : Int, d = .int i ∧ (i = 1 ∨ i = 2 ∨ i = 3) := by
    simp at hd
    rcases hd with rfl | rfl | rfl
    · exact ⟨1, rfl, .inl rfl⟩
    · exact ⟨2, rfl, .inr (.inl rfl)⟩
    · exact ⟨3, rfl, .inr (.inr rfl)⟩
  obtain ⟨i, rfl, i1⟩ := hd'
  have sm : Sm 10 (r - most) := by unfold Sm; omega
  have si : Sm 10 i := by unfold Sm; omega
  have e3 := lfr_at (n + 1) (r - most) i [cw is (k + 2)] (sm.mono (by decide)) ⟨si.mono (by decide), .inl (by omega)⟩
  rw [qd_fr (r - most) (by omega)] at e3
  have om := op_mul (j := 10) (k := 10) (a := 2) (b := most) (by unfold Sm; decide) (by unfold Sm; omega) (by decide)
  have k2 : k + 1 + 1 = k + 2 := by omega
  rw [k2] at e2
  refine ⟨_, nr_of (n := r - most) (d := i) (by omega) (by omega) h0 i1, (T_at (f := 83) (n := n + 3) (d := d__law_num) rfl _ _).trans (run_plk rfl (Nat.le_of_ble_eq_true rfl) (seq_rt ?_))⟩
  generalize ((r - most : Int) : Rat) / (i : Rat) = q at *
  generalize qD q = z at *
  walk_at "go"
  simp [om, e1, e2, e3, andThen_some', wthD_some', op_add, op_sub, szle]
/-- three, one behind the other, the cells changing -/
theorem lc3 {F : Fs} {i : Nat} {e : E} {ds : List (Option D)} {x0 x1 x2 y0 y1 y2 : D} {μ0 μ1 μ2 μ3 : Cells}
    (h0 : ev F e (pl (ds.set i (some x0))) μ0 = some (y0, μ1)) (h1 : ev F e (pl (ds.set i (some x1))) μ1 = some (y1, μ2)) (h2 : ev F e (pl (ds.set i (some x2))) μ2 = some (y2, μ3)) :
    lcGo (.nm i) (fun ρ' μ' => evc F .none ρ' μ') (fun ρ' μ' => if lk ρ' e then none else ev F e ρ' μ') (pl ds) [x0, x1, x2] μ0 = some ([y0, y1, y2], μ3) := by
  have b : ∀ x, bindT (.nm i) x (pl ds) = some (pl (ds.set i (some x))) := fun x => by
    unfold bindT
    simp only [pl_set]
  have c : ∀ x μ, evc F .none (pl (ds.set i (some x))) μ = some (true, μ) := fun x μ => rfl
  simp [lcGo, b, c, lk_pl, h0, h1, h2]
theorem tup3_of {F : Fs} {i : Nat} {e : E} {it : It} {ds : List (Option D)} {x0 x1 x2 y0 y1 y2 : D} {μ0 μ1 μ2 μ3 : Cells} (hi : evi F it (pl ds) μ0 = some ([x0, x1, x2], μ0))
    (h0 : ev F e (pl (ds.set i (some x0))) μ0 = some (y0, μ1)) (h1 : ev F e (pl (ds.set i (some x1))) μ1 = some (y1, μ2)) (h2 : ev F e (pl (ds.set i (some x2))) μ2 = some (y2, μ3)) :
    ev F (.bi .tuple (.cons (.lc e (.nm i) it .none) .nil)) (pl ds) μ0 = some (.tup [y0, y1, y2], μ3) := by
  have z := ev_lc hi (by simp) (lc3 h0 h1 h2)
  unfold ev evs
  rw [z]
  rfl
def v3 (a b c : Rat) : I3 → Rat := fun k => if k = 0 then a else if k = 1 then b else c
theorem vD_v3 (a b c : Rat) : vD (v3 a b c) = .tup [qD a, qD b, qD c] := rfl
theorem all_v3 {P : Rat → Prop} {a b c : Rat} (ha : P a) (hb : P b) (hc : P c) (k : I3) : P (v3 a b c k) := by
  rcases i3_cases k with rfl | rfl | rfl
  · exact ha
  · exact hb
  · exact hc
theorem place_at' (n : Nat) (is : List Int) (k most : Int) (hk : 0 ≤ k) (h0 : 0 ≤ most) (h1 : most ≤ 100) : ∃ p : I3 → Rat, (∀ j, Nr most (p j)) ∧ T (n + 5) 84 [.cell 0, .int most] [cw is k] = some (vD p, [cw is (k + 6)]) := by
  obtain ⟨a, ha, e0⟩ := num_at n is k most hk h0 h1
  obtain ⟨b, hb, e1⟩ := num_at n is (k + 2) most (by omega) h0 h1
  obtain ⟨c, hc, e2⟩ := num_at n is (k + 2 + 2) most (by omega) h0 h1
  have k6 : k + 2 + 2 + 2 = k + 6 := by omega
  rw [k6] at e2
  refine ⟨v3 a b c, all_v3 ha hb hc, (T_at (f := 84) (n := n + 4) (d := d__law_place) rfl _ _).trans (run_plk rfl (Nat.le_of_ble_eq_true rfl) (seq_rt (ret_of (lk_pl _ _) ?_)))⟩
  rw [vD_v3]
  generalize qD a = A at *
  generalize qD b = B at *
  generalize qD c = C at *
  refine tup3_of (x0 := .int 0) (x1 := .int 1) (x2 := .int 2) (μ1 := [cw is (k + 2)]) (μ2 := [cw is (k + 2 + 2)]) rfl ?_ ?_ ?_
  · walk_at "go"; simp [e0]
  · walk_at "go"; simp [e1]
  · walk_at "go"; simp [e2]
theorem way_at (n : Nat) (is : List Int) (k : Int) (hk : 0 ≤ k) : ∃ d : I3 → Rat, (∀ j, Nr 3 (d j)) ∧ (∃ j, d j ≠ 0) ∧ T (n + 6) 85 [.cell 0] [cw is k] = some (vD d, [cw is (k + 6)]) := by
  obtain ⟨p, hp, e⟩ := place_at' n is k 3 hk (by decide) (by decide)
  have start : ∀ r, execs (T (n + 5)) W (B__law_way 84) (pl [some (.cell 0), none, none]) [cw is k] = some (.rt r [cw is (k + 6)]) → T (n + 6) 85 [.cell 0] [cw is k] = some (r, [cw is (k + 6)]) := fun r g => (T_at (f := 85) (n := n + 5) (d := d__law_way) rfl _ _).trans (run_plk rfl (Nat.le_of_ble_eq_true rfl) g)
  have st : exec (T (n + 5)) W (.asg 1 (.call 84 (.cons (.var 0) (.cons (.int 3) .nil)))) (pl [some (.cell 0), none, none]) [cw is k] = some (.nx (pl [some (.cell 0), some (vD p), none]) [cw is (k + 6)]) := by
    generalize vD p = P at *
    walk_at "go"
    simp [e, pl, andThen_some']
  have lc : ev (T (n + 5)) (.lc (.int 1) (.nm 2) (.seq (.var 1)) (.some (.cmp .NotEq (.ix (.var 2) (.int 0)) (.int 0)))) (pl [some (.cell 0), some (vD p), none]) [cw is (k + 6)] = some (.lst ((([0, 1, 2] : List I3).filter fun j => decide (p j ≠ 0)).map fun _ => .int 1), [cw is (k + 6)]) := by
    refine ev_lc (xs := ([0, 1, 2] : List I3).map fun j => qD (p j)) (μ1 := [cw is (k + 6)]) rfl (by simp) ?_
    refine lc_gen (fun j => qD (p j)) (fun j => decide (p j ≠ 0)) (fun _ => .int 1) _ (fun j _ => ?_) (fun j _ _ => ?_)
    · have nz : (p j).num = 0 ↔ p j = 0 := Rat.num_eq_zero
      show evc _ _ (((pl [some (.cell 0), some (vD p), none])).set 2 (some (.pl (qD (p j))))) _ = _
      rw [pl_set]
      have q0 := qD_0 [cw is (k + 6)] (p j)
      generalize qD (p j) = Q at *
      generalize vD p = P at *
      walk_at "go"
      simp [q0, andThen_some', wthD_some', onBl_bl, eqD_int, nz]
    · rfl
  have tst := cmp_of (o := .NotEq) (F := T (n + 5)) lc (show ev (T (n + 5)) (.lst .nil) (pl [some (.cell 0), some (vD p), none]) [cw is (k + 6)] = some (.lst [], [cw is (k + 6)]) from rfl) (t := !(([0, 1, 2] : List I3).filter fun j => decide (p j ≠ 0)).isEmpty) (by
    show (eqD _ _).map not = _
    rw [eqD_ints (fun (_ : I3) => 1)]
    rfl)
  by_cases hz : ∃ j, p j ≠ 0
  · refine ⟨p, hp, hz, start _ (seq_nx st (seq_rt (ret_of (lk_pl _ _) ?_)))⟩
    have e1 : (([0, 1, 2] : List I3).filter fun j => decide (p j ≠ 0)).isEmpty = false := by
      obtain ⟨j, hj⟩ := hz
      cases e : (([0, 1, 2] : List I3).filter fun j => decide (p j ≠ 0)) with
      | cons _ _ => rfl
      | nil =>
        have m : j ∈ (([0, 1, 2] : List I3).filter fun j => decide (p j ≠ 0)) := List.mem_filter.mpr ⟨by rcases i3_cases j with rfl | rfl | rfl <;> simp, decide_eq_true hj⟩
        rw [e] at m
        cases m
    rw [e1] at tst
    unfold ev
    rw [tst]
    rfl
  · have nr0 : Nr 3 0 := ⟨IsZ.lit 0 (by grind), by have c : ((3 : Int) : Rat) = 3 := rfl; rw [c]; grind, by have c : ((3 : Int) : Rat) = 3 := rfl; rw [c]; grind⟩
    have nr1 : Nr 3 1 := ⟨IsZ.lit 6 (by have c : ((6 : Int) : Rat) = 6 := rfl; rw [c]; grind), by have c : ((3 : Int) : Rat) = 3 := rfl; rw [c]; grind, by have c : ((3 : Int) : Rat) = 3 := rfl; rw [c]; grind⟩
    refine ⟨v3 1 0 0, all_v3 nr1 nr0 nr0, ⟨0, by show (1 : Rat) ≠ 0; decide⟩, start _ (seq_nx st (seq_rt (ret_of (lk_pl _ _) ?_)))⟩
    have e1 : (([0, 1, 2] : List I3).filter fun j => decide (p j ≠ 0)).isEmpty = true := by
      rw [List.isEmpty_iff, List.filter_eq_nil_iff]
      intro j _
      have : p j = 0 := Classical.byContradiction fun g => hz ⟨j, g⟩
      simp [this]
    rw [e1] at tst
    unfold ev
    rw [tst]
    rfl
end K12

set_option Elab.async false
set_option linter.all false
set_option maxRecDepth 100000
set_option maxHeartbeats 4000000
/-! the law, statement by statement -/
namespace K12
open FM
open L2 (atI)
open PySem (Str sizeLine)
def s_0 : S := .asg 1 (.dict ["draws", "at"] (.cons (.call 72 (.cons (.var 0) (.cons (.int 300) .nil))) (.cons (.int 0) .nil)))
def s_1_0 : S := .asg 3 (.call 84 (.cons (.var 1) (.cons (.int 4) .nil)))
def s_1_1 : S := .asg 4 (.tup (.cons (.str "box") (.cons (.var 3) (.cons (.bi .tuple (.cons (.lc (.call 78 (.cons (.var 22) (.cons (.call 77 (.cons (.op .Add (.int 1) (.call 73 (.cons (.var 1) (.cons (.int 5) .nil)))) (.cons (.op .Add (.int 1) (.call 73 (.cons (.var 1) (.cons (.int 2) .nil)))) .nil))) .nil))) (.nm 22) (.seq (.var 3)) .none) .nil)) .nil))))
def s_1_2 : S := .asg 5 (.bi .tuple (.cons (.lc (.call 78 (.cons (.ix (.ix (.var 4) (.int 1)) (.var 21)) (.cons (.call 80 (.cons (.call 79 (.cons (.ix (.ix (.var 4) (.int 2)) (.var 21)) (.cons (.ix (.ix (.var 4) (.int 1)) (.var 21)) .nil))) (.cons (.call 77 (.cons (.op .Add (.int 1) (.call 73 (.cons (.var 1) (.cons (.int 6) .nil)))) (.cons (.int 8) .nil))) .nil))) .nil))) (.nm 21) (.rng1 (.int 3)) .none) .nil))
def s_1_3 : S := .par 15 16 (.tup (.cons (.tup .nil) (.cons (.var 5) (.cons (.call 85 (.cons (.var 1) .nil)) .nil)))) (.op .Add (.int 1) (.call 73 (.cons (.var 1) (.cons (.int 7) .nil))))
def s_1_4 : S := .asg 6 (.call 87 (.cons (.var 4) (.cons (.var 15) (.cons (.var 16) .nil))))
def s_1_5 : S := .asg 7 (.cmp .Lt (.ldict (.lc (.tup (.cons (.ix (.var 23) (.int 0)) (.cons (.bl true) .nil))) (.nm 23) (.seq (.var 6)) .none)) (.bi .len (.cons (.var 6) .nil)))
def s_1_6 : S := .asg 8 (.sl (.var 6) .none (.some (.var 16)))
def s_1_7 : S := .ifs (.not (.call 75 (.cons (.bi .tuple (.cons (.call 66 (.cons (.var 4) (.cons (.var 15) (.cons (.var 16) .nil)))) .nil)) (.cons (.bi .tuple (.cons (.lc (.ix (.var 23) (.int 0)) (.nm 23) (.seq (.var 8)) .none) .nil)) .nil)))) (.cons (.ret (.bl false)) .nil) .nil
def s_1_8 : S := .asg 9 (.cmp .NotEq (.lc (.var 21) (.nm 21) (.rng1 (.op .Sub (.bi .len (.cons (.var 8) .nil)) (.int 1))) (.some (.cmp .Eq (.ix (.ix (.var 8) (.var 21)) (.int 0)) (.ix (.ix (.var 8) (.op .Add (.var 21) (.int 1))) (.int 0))))) (.lst .nil))
def s_1_9 : S := .ifs (.and (.not (.call 75 (.cons (.tup (.cons (.call 68 (.cons (.var 4) (.cons (.var 15) (.cons (.var 16) .nil)))) (.cons (.bi .tuple (.cons (.call 69 (.cons (.var 4) (.cons (.var 15) (.cons (.var 16) .nil)))) .nil)) .nil))) (.cons (.tup (.cons (.var 9) (.cons (.bi .tuple (.cons (.lc (.tup (.cons (.ix (.var 23) (.int 2)) (.cons (.ix (.var 23) (.int 3)) .nil))) (.nm 23) (.seq (.var 8)) .none) .nil)) .nil))) .nil)))) (.not (.var 7))) (.cons (.ret (.bl false)) .nil) .nil
def s_1_10 : S := .ifs (.not (.call 75 (.cons (.call 68 (.cons (.var 4) (.cons (.var 15) (.cons (.var 16) .nil)))) (.cons (.var 9) .nil)))) (.cons (.ret (.bl false)) .nil) .nil
def s_1_11 : S := .ifs (.and (.not (.var 7)) (.not (.call 75 (.cons (.bi .tuple (.cons (.call 61 (.cons (.var 4) (.cons (.var 15) (.cons (.var 16) .nil)))) .nil)) (.cons (.bi .tuple (.cons (.lc (.ix (.var 23) (.int 1)) (.nm 23) (.seq (.var 8)) .none) .nil)) .nil))))) (.cons (.ret (.bl false)) .nil) .nil
def s_1_12_0 : S := .asg 17 (.call 77 (.cons (.call 73 (.cons (.var 1) (.cons (.int 60) .nil))) (.cons (.op .Add (.int 1) (.call 73 (.cons (.var 1) (.cons (.int 4) .nil)))) .nil)))
def s_1_12_1 : S := .asg 13 (.call 88 (.cons (.var 4) (.cons (.var 15) (.cons (.var 17) .nil))))
def s_1_12_2 : S := .ifs (.and (.cmp .IsNot (.var 13) .non) (.not (.call 75 (.cons (.call 65 (.cons (.var 4) (.cons (.var 15) (.cons (.var 17) .nil)))) (.cons (.ix (.var 13) (.int 0)) .nil))))) (.cons (.ret (.bl false)) .nil) .nil
def s_1_12b : Ss := (.cons s_1_12_0 (.cons s_1_12_1 (.cons s_1_12_2 .nil)))
def s_1_12 : S := .for_ (.nm 10) (.rng1 (.int 4)) s_1_12b
def s_1_13 : S := .asgT [18, 19] (.tup (.cons (.call 83 (.cons (.var 1) (.cons (.int 30) .nil))) (.cons (.call 84 (.cons (.var 1) (.cons (.int 12) .nil))) .nil)))
def s_1_14 : S := .asg 11 (.bi .tuple (.cons (.lc (.call 89 (.cons (.ix (.ix (.var 4) (.int 1)) (.var 21)) (.cons (.ix (.ix (.var 4) (.int 2)) (.var 21)) (.cons (.ix (.var 19) (.var 21)) .nil)))) (.nm 21) (.rng1 (.int 3)) .none) .nil))
def s_1_15 : S := .ifs (.not (.call 75 (.cons (.tup (.cons (.call 63 (.cons (.ix (.ix (.var 4) (.int 1)) (.int 0)) (.cons (.ix (.ix (.var 4) (.int 2)) (.int 0)) (.cons (.var 18) .nil)))) (.cons (.call 64 (.cons (.var 4) (.cons (.var 19) .nil))) .nil))) (.cons (.tup (.cons (.call 89 (.cons (.ix (.ix (.var 4) (.int 1)) (.int 0)) (.cons (.ix (.ix (.var 4) (.int 2)) (.int 0)) (.cons (.var 18) .nil)))) (.cons (.var 11) .nil))) .nil)))) (.cons (.ret (.bl false)) .nil) .nil
def s_1_16 : S := .asg 12 (.call 70 (.cons (.var 4) (.cons (.var 15) .nil)))
def s_1_17 : S := .asg 13 (.call 88 (.cons (.var 4) (.cons (.var 15) (.cons (.var 12) .nil))))
def s_1_18 : S := .ifs (.or (.cmp .LtE (.ix (.var 12) (.int 0)) (.int 0)) (.and (.cmp .IsNot (.var 13) .non) (.not (.call 75 (.cons (.var 13) (.cons (.tup (.cons (.ix (.var 15) (.int 1)) (.cons (.ix (.var 15) (.int 2)) .nil))) .nil)))))) (.cons (.ret (.bl false)) .nil) .nil
def s_1_19_0 : S := .asg 20 (.call 88 (.cons (.var 4) (.cons (.var 15) (.cons (.call 81 (.cons (.var 12) (.cons (.tup (.cons (.var 14) (.cons (.int 1) .nil))) .nil))) .nil))))
def s_1_19_1 : S := .ifs (.and (.cmp .IsNot (.var 20) .non) (.call 75 (.cons (.var 20) (.cons (.tup (.cons (.ix (.var 15) (.int 1)) (.cons (.ix (.var 15) (.int 2)) .nil))) .nil)))) (.cons (.ret (.bl false)) .nil) .nil
def s_1_19b : Ss := (.cons s_1_19_0 (.cons s_1_19_1 .nil))
def s_1_19 : S := .for_ (.nm 14) (.seq (.tup (.cons (.int 2) (.cons (.int 3) (.cons (.int 5) (.cons (.int 7) .nil)))))) s_1_19b
def s_1b : Ss := (.cons s_1_0 (.cons s_1_1 (.cons s_1_2 (.cons s_1_3 (.cons s_1_4 (.cons s_1_5 (.cons s_1_6 (.cons s_1_7 (.cons s_1_8 (.cons s_1_9 (.cons s_1_10 (.cons s_1_11 (.cons s_1_12 (.cons s_1_13 (.cons s_1_14 (.cons s_1_15 (.cons s_1_16 (.cons s_1_17 (.cons s_1_18 (.cons s_1_19 .nil))))))))))))))))))))
def s_1 : S := .for_ (.nm 2) (.rng1 (.int 4)) s_1b
def s_2 : S := .ret (.bl true)
def sb : Ss := (.cons s_0 (.cons s_1 (.cons s_2 .nil)))
theorem law_pieces : B_law 72 84 78 77 73 80 79 85 87 75 66 69 68 61 88 65 83 89 64 63 70 81 = sb := rfl
/-! ### small steps -/
theorem v_of {F : Fs} {ds : List (Option D)} {i : Nat} {d : D} {μ : Cells} (h : ds[i]? = some (some d)) : ev F (.var i) (pl ds) μ = some (d, μ) := by
  unfold ev
  rw [pl_get, h]
  rfl
theorem evs_nil {F : Fs} {ρ : Env} {μ : Cells} : evs F .nil ρ μ = some ([], μ) := rfl
theorem evs_cons {F : Fs} {e : E} {es : Es} {ρ : Env} {μ μ1 μ2 : Cells} {x : D} {xs : List D} (h : ev F e ρ μ = some (x, μ1)) (g : evs F es ρ μ1 = some (xs, μ2)) : evs F (.cons e es) ρ μ = some (x :: xs, μ2) := by
  unfold evs
  rw [h, andThen_some', g]
  rfl
theorem tup_of {F : Fs} {es : Es} {ds : List (Option D)} {μ μ1 : Cells} {xs : List D} (h : evs F es (pl ds) μ = some (xs, μ1)) (l : xs.length ≤ 50) : ev F (.tup es) (pl ds) μ = some (.tup xs, μ1) := by
  unfold ev
  rw [lks_pl, h, andThen_some', if_pos (Nat.le_trans l (by decide))]
  rfl
theorem call_of {F : Fs} {f : Nat} {es : Es} {ds : List (Option D)} {μ μ1 : Cells} {xs : List D} {r : Rs D} (h : evs F es (pl ds) μ = some (xs, μ1)) (g : F f xs μ1 = r) : ev F (.call f es) (pl ds) μ = r := by
  unfold ev
  rw [lks_pl, h, andThen_some']
  exact g
theorem not_of {F : Fs} {e : E} {ρ : Env} {μ μ1 : Cells} {b : Bool} (h : ev F e ρ μ = some (.bl b, μ1)) : ev F (.not e) ρ μ = some (.bl (!b), μ1) := by
  unfold ev
  rw [h, onBl_bl]
theorem or_ff {F : Fs} {a b : E} {ρ : Env} {μ μ1 μ2 : Cells} (h : ev F a ρ μ = some (.bl false, μ1)) (g : ev F b ρ μ1 = some (.bl false, μ2)) : ev F (.or a b) ρ μ = some (.bl false, μ2) := by
  unfold ev
  rw [h, onBl_bl, if_neg (by decide), g, onBl_bl]
theorem and_of {F : Fs} {a b : E} {ρ : Env} {μ μ1 μ2 : Cells} {x y : Bool} (h : ev F a ρ μ = some (.bl x, μ1)) (g : x = true → ev F b ρ μ1 = some (.bl y, μ2)) (e : x = false → μ2 = μ1) : ev F (.and a b) ρ μ = some (.bl (x && y), μ2) := by
  unfold ev
  rw [h, onBl_bl]
  cases x with
  | true => rw [if_pos rfl, g rfl]; rfl
  | false => rw [e rfl]; rfl
theorem op_of {F : Fs} {o : PySem.Operator} {a b : E} {ρ : Env} {μ μ1 μ2 : Cells} {x y z : D} (h1 : ev F a ρ μ = some (x, μ1)) (h2 : ev F b ρ μ1 = some (y, μ2)) (g : opD o x y = some z) : ev F (.op o a b) ρ μ = some (z, μ2) := by
  unfold ev
  rw [h1, andThen_some', h2, andThen_some', g]
  rfl
theorem bi1_of {F : Fs} {b : Bi} {a : E} {ρ : Env} {μ μ1 : Cells} {x z : D} (h : ev F a ρ μ = some (x, μ1)) (g : biD μ1 b [x] = some z) : ev F (.bi b (.cons a .nil)) ρ μ = some (z, μ1) := by
  unfold ev
  unfold evs
  rw [h, andThen_some']
  unfold evs
  rw [andThen_some', andThen_some', g]
  rfl
theorem asgT_of {F : Fs} {i k : Nat} {e : E} {ds : List (Option D)} {μ μ1 : Cells} {x y : D} (h : ev F e (pl ds) μ = some (.tup [x, y], μ1)) : exec F W (.asgT [i, k] e) (pl ds) μ = some (.nx (pl ((ds.set i (some x)).set k (some y))) μ1) := by
  unfold exec
  rw [lk_pl, noOw_pl, h, andThen_some']
  show (if (2 : Nat) = 2 then some (Res.nx (setAll [i, k] [x, y] (pl ds)) μ1) else none) = _
  rw [if_pos rfl]
  show some (Res.nx (((pl ds).set i (some (.pl x))).set k (some (.pl y))) μ1) = _
  rw [pl_set, pl_set]
/-- both sides are one thing -/
theorem same_of {a b : E} {ds : List (Option D)} {μ : Cells} {d : D} (h : ev (T 99) a (pl ds) μ = some (d, μ)) (g : ev (T 99) b (pl ds) μ = some (d, μ)) (k : dep 50 d = true) : ev (T 99) (.not (.call 75 (.cons a (.cons b .nil)))) (pl ds) μ = some (.bl false, μ) :=
  not_of (b := true) (call_of (evs_cons h (evs_cons g evs_nil)) (like_at d k μ))
theorem dep_bl (k : Nat) (i : Bool) : dep k (.bl i) = true := by cases k <;> rfl
theorem dep_int (k : Nat) (i : Int) : dep k (.int i) = true := by cases k <;> rfl
theorem dep_tup (k : Nat) (ds : List D) : dep (k + 1) (.tup ds) = (decide (ds.length ≤ 1000) && ds.all (dep k)) := rfl
theorem dep_q (k : Nat) (q : Rat) : dep (k + 1) (qD q) = true := by
  show dep (k + 1) (.tup [.int q.num, .int (q.den : Int)]) = true
  rw [dep_tup]
  simp [dep_int]
theorem dep_v (k : Nat) (v : I3 → Rat) : dep (k + 2) (vD v) = true := by
  show dep (k + 1 + 1) (.tup [qD (v 0), qD (v 1), qD (v 2)]) = true
  rw [dep_tup]
  simp [dep_q]
theorem dep_map {α : Type} (k : Nat) (f : α → D) (l : List α) (hl : l.length ≤ 1000) (h : ∀ a, dep k (f a) = true) : dep (k + 1) (.tup (l.map f)) = true := by
  rw [dep_tup, decide_eq_true (by rw [List.length_map]; exact hl), Bool.true_and, List.all_eq_true]
  intro d hd
  obtain ⟨a, _, rfl⟩ := List.mem_map.mp hd
  exact h a
theorem set_get {ds : List (Option D)} {i : Nat} {o : Option D} (h : ds.length = 24) (hi : i < 24) : (ds.set i o)[i]? = some o := List.getElem?_set_self (by omega)
theorem bxk (μ : Cells) (lo hi : I3 → Rat) {F : Fs} {ds : List (Option D)} (h4 : ds[4]? = some (some (boxD lo hi))) : ev F (.ix (.var 4) (.int 1)) (pl ds) μ = some (vD lo, μ) ∧ ev F (.ix (.var 4) (.int 2)) (pl ds) μ = some (vD hi, μ) :=
  ⟨ev_ix (v_of h4) (show ev F (.int 1) (pl ds) μ = some (.int 1, μ) from rfl) (bx1 μ lo hi), ev_ix (v_of h4) (show ev F (.int 2) (pl ds) μ = some (.int 2, μ) from rfl) (bx2 μ lo hi)⟩
theorem int_of {F : Fs} {i : Int} {ρ : Env} {μ : Cells} : ev F (.int i) ρ μ = some (.int i, μ) := rfl
/-! ### the draws of a turn -/
theorem nr_sz {most : Int} {q : Rat} (h : Nr most q) (hm : most = 3 ∨ most = 4 ∨ most = 12 ∨ most = 30) : Sz 8 q := by
  have c : ((30 : Nat) : Rat) = 30 := rfl
  have c6 : ((6 : Nat) : Rat) = 6 := rfl
  have hl := h.l
  have hu := h.u
  have hb : (most : Rat) ≤ 30 := by
    have : ((30 : Int) : Rat) = 30 := rfl
    rw [← this]
    exact Rat.intCast_le_intCast.mpr (by omega)
  exact lat_sz (N := 6) (B := 30) (by omega) (by rw [c6]; exact h.z) (by omega) (by rw [c]; grind) (by rw [c]; grind) (by omega)
structure Sd (s : Rat) : Prop where
  z : IsZ (s * 2)
  l : 1 / 2 ≤ s
  u : s ≤ 5
theorem sd_of {r r2 : Int} (h1 : 0 ≤ r) (h2 : r < 5) (h3 : 0 ≤ r2) (h4 : r2 < 2) : Sd (((1 + r : Int) : Rat) / ((1 + r2 : Int) : Rat)) := by
  have a1 : (1 : Rat) ≤ ((1 + r : Int) : Rat) := by
    have c : ((1 : Int) : Rat) = 1 := rfl
    rw [← c]; exact Rat.intCast_le_intCast.mpr (by omega)
  have a2 : ((1 + r : Int) : Rat) ≤ 5 := by
    have c : ((5 : Int) : Rat) = 5 := rfl
    rw [← c]; exact Rat.intCast_le_intCast.mpr (by omega)
  have hr : r2 = 0 ∨ r2 = 1 := by omega
  rcases hr with rfl | rfl
  · have c : ((1 + 0 : Int) : Rat) = 1 := rfl
    rw [c]
    exact ⟨⟨(1 + r) * 2, by rw [Rat.intCast_mul]; have c2 : ((2 : Int) : Rat) = 2 := rfl; rw [c2]; grind⟩, by grind, by grind⟩
  · have c : ((1 + 1 : Int) : Rat) = 2 := rfl
    rw [c]
    exact ⟨⟨(1 + r), by grind⟩, by grind, by grind⟩
theorem sd_sz {s : Rat} (h : Sd s) : Sz 4 s := by
  have c : ((5 : Nat) : Rat) = 5 := rfl
  have c2 : ((2 : Nat) : Rat) = 2 := rfl
  have hl := h.l
  have hu := h.u
  exact lat_sz (N := 2) (B := 5) (by omega) (by rw [c2]; exact h.z) (by omega) (by rw [c]; grind) (by rw [c]; grind) (by omega)
theorem nx_of (is : List Int) {ds : List (Option D)} (h1 : ds[1]? = some (some (.cell 0))) (k many : Int) (hm : 0 < many) (hk : 0 ≤ k) : ∃ r : Int, 0 ≤ r ∧ r < many ∧ ev (T 99) (.call 73 (.cons (.var 1) (.cons (.int many) .nil))) (pl ds) [cw is k] = some (.int r, [cw is (k + 1)]) := by
  obtain ⟨r, r0, r1, e⟩ := next_at 98 is k many hm hk
  exact ⟨r, r0, r1, call_of (evs_cons (v_of h1) (evs_cons int_of evs_nil)) e⟩
theorem nx1_of (is : List Int) {ds : List (Option D)} (h1 : ds[1]? = some (some (.cell 0))) (k many : Int) (hm : 0 < many) (hk : 0 ≤ k) : ∃ r : Int, 0 ≤ r ∧ r < many ∧ ev (T 99) (.op .Add (.int 1) (.call 73 (.cons (.var 1) (.cons (.int many) .nil)))) (pl ds) [cw is k] = some (.int (1 + r), [cw is (k + 1)]) := by
  obtain ⟨r, r0, r1, e⟩ := nx_of is h1 k many hm hk
  exact ⟨r, r0, r1, op_of int_of e rfl⟩
theorem fr_of {ds : List (Option D)} {a b : E} {n d : Int} {μ μ1 μ2 : Cells} (h1 : ev (T 99) a (pl ds) μ = some (.int n, μ1)) (h2 : ev (T 99) b (pl ds) μ1 = some (.int d, μ2)) (hn : n.natAbs < 1000) (hd : 0 < d ∧ d < 1000) : ev (T 99) (.call 77 (.cons a (.cons b .nil))) (pl ds) μ = some (qD ((n : Rat) / (d : Rat)), μ2) := by
  have sm : Sm 10 n := by unfold Sm; omega
  have si : Sm 10 d := by unfold Sm; omega
  have e3 := lfr_at 97 n d μ2 (sm.mono (by decide)) ⟨si.mono (by decide), .inl (by omega)⟩
  rw [qd_fr n (by omega)] at e3
  exact call_of (evs_cons h1 (evs_cons h2 evs_nil)) e3
def sideE : E := .call 78 (.cons (.var 22) (.cons (.call 77 (.cons (.op .Add (.int 1) (.call 73 (.cons (.var 1) (.cons (.int 5) .nil)))) (.cons (.op .Add (.int 1) (.call 73 (.cons (.var 1) (.cons (.int 2) .nil)))) .nil))) .nil))
theorem side_el (is : List Int) {ds : List (Option D)} (h1 : ds[1]? = some (some (.cell 0))) {x : Rat} [hx : Sz 8 x] (h22 : ds[22]? = some (some (qD x))) (k : Int) (hk : 0 ≤ k) : ∃ s : Rat, Sd s ∧ ev (T 99) sideE (pl ds) [cw is k] = some (qD (x + s), [cw is (k + 2)]) := by
  obtain ⟨r, r0, r1, e1⟩ := nx1_of is h1 k 5 (by decide) hk
  obtain ⟨r2, r20, r21, e2⟩ := nx1_of is h1 (k + 1) 2 (by decide) (by omega)
  have k2 : k + 1 + 1 = k + 2 := by omega
  rw [k2] at e2
  have sd := sd_of r0 r1 r20 r21
  have f := fr_of e1 e2 (by omega) (by omega)
  generalize ((1 + r : Int) : Rat) / ((1 + r2 : Int) : Rat) = s at *
  haveI := sd_sz sd
  exact ⟨s, sd, call_of (evs_cons (v_of h22) (evs_cons f evs_nil)) (ladd_at (n := 96) _ (by decide) (by decide))⟩
theorem st10 (is : List Int) (ds : List (Option D)) (h1 : ds[1]? = some (some (.cell 0))) (k : Int) (hk : 0 ≤ k) : ∃ lo : I3 → Rat, (∀ j, Nr 4 (lo j)) ∧ exec (T 99) W s_1_0 (pl ds) [cw is k] = some (.nx (pl (ds.set 3 (some (vD lo)))) [cw is (k + 6)]) := by
  obtain ⟨lo, hlo, e⟩ := place_at' 94 is k 4 hk (by decide) (by decide)
  exact ⟨lo, hlo, asg_pl (call_of (evs_cons (v_of h1) (evs_cons int_of evs_nil)) e)⟩
theorem st11 (is : List Int) (ds : List (Option D)) (len : ds.length = 24) (h1 : ds[1]? = some (some (.cell 0))) {lo : I3 → Rat} (hlo : ∀ j, Nr 4 (lo j)) (h3 : ds[3]? = some (some (vD lo))) (k : Int) (hk : 0 ≤ k) : ∃ hi : I3 → Rat, (∀ j, Sd (hi j - lo j)) ∧ exec (T 99) W s_1_1 (pl ds) [cw is k] = some (.nx (pl (ds.set 4 (some (boxD lo hi)))) [cw is (k + 6)]) := by
  haveI : ∀ j, Sz 8 (lo j) := fun j => nr_sz (hlo j) (by decide)
  have g : ∀ x, (ds.set 22 (some x))[1]? = some (some (.cell 0)) := fun x => by rw [List.getElem?_set_ne (by decide)]; exact h1
  obtain ⟨a, ha, e0⟩ := side_el is (g (qD (lo 0))) (x := lo 0) (set_get len (by decide)) k hk
  obtain ⟨b, hb, e1⟩ := side_el is (g (qD (lo 1))) (x := lo 1) (set_get len (by decide)) (k + 2) (by omega)
  obtain ⟨c, hc, e2⟩ := side_el is (g (qD (lo 2))) (x := lo 2) (set_get len (by decide)) (k + 2 + 2) (by omega)
  have k6 : k + 2 + 2 + 2 = k + 6 := by omega
  rw [k6] at e2
  refine ⟨v3 (lo 0 + a) (lo 1 + b) (lo 2 + c), fun j => ?_, asg_pl (tup_of (xs := [.str "box", vD lo, .tup [qD (lo 0 + a), qD (lo 1 + b), qD (lo 2 + c)]]) (evs_cons (μ1 := [cw is k]) rfl (evs_cons (v_of h3) (evs_cons (tup3_of (i := 22) (e := sideE) (it := .seq (.var 3)) ?_ e0 e1 e2) evs_nil))) (by simp))⟩
  · rcases i3_cases j with rfl | rfl | rfl
    · have : v3 (lo 0 + a) (lo 1 + b) (lo 2 + c) 0 - lo 0 = a := by show lo 0 + a - lo 0 = a; grind
      rw [this]; exact ha
    · have : v3 (lo 0 + a) (lo 1 + b) (lo 2 + c) 1 - lo 1 = b := by show lo 1 + b - lo 1 = b; grind
      rw [this]; exact hb
    · have : v3 (lo 0 + a) (lo 1 + b) (lo 2 + c) 2 - lo 2 = c := by show lo 2 + c - lo 2 = c; grind
      rw [this]; exact hc
  · unfold evi
    rw [v_of h3]
    rfl
def inE : E := .call 78 (.cons (.ix (.ix (.var 4) (.int 1)) (.var 21)) (.cons (.call 80 (.cons (.call 79 (.cons (.ix (.ix (.var 4) (.int 2)) (.var 21)) (.cons (.ix (.ix (.var 4) (.int 1)) (.var 21)) .nil))) (.cons (.call 77 (.cons (.op .Add (.int 1) (.call 73 (.cons (.var 1) (.cons (.int 6) .nil)))) (.cons (.int 8) .nil))) .nil))) .nil))
/-- a place within -/
structure Wi (l h p : Rat) : Prop where
  z : IsZ (p * 48)
  l : l < p
  h : p < h
theorem wi_of {l h : Rat} (nl : Nr 4 l) (sd : Sd (h - l)) {r : Int} (h0 : 0 ≤ r) (h1 : r < 6) : Wi l h (l + (h - l) * (((1 + r : Int) : Rat) / ((8 : Int) : Rat))) := by
  have a1 : (1 : Rat) ≤ ((1 + r : Int) : Rat) := by
    have c : ((1 : Int) : Rat) = 1 := rfl
    rw [← c]; exact Rat.intCast_le_intCast.mpr (by omega)
  have a2 : ((1 + r : Int) : Rat) ≤ 6 := by
    have c : ((6 : Int) : Rat) = 6 := rfl
    rw [← c]; exact Rat.intCast_le_intCast.mpr (by omega)
  have c8 : ((8 : Int) : Rat) = 8 := rfl
  have iz := IsZ.int (1 + r)
  have nz := nl.z
  have sz := sd.z
  have sl := sd.l
  rw [c8]
  generalize ((1 + r : Int) : Rat) = q at *
  have hs : 0 < h - l := by grind
  have m1 := mul_le_pos a1 hs
  have m2 := mul_le_pos a2 hs
  refine ⟨?_, ?_, ?_⟩
  · exact ((nz.mul (IsZ.lit 8 rfl)).add ((sz.mul iz).mul (IsZ.lit 3 rfl))).of (by grind)
  · grind
  · grind
theorem in_el (is : List Int) {ds : List (Option D)} (h1 : ds[1]? = some (some (.cell 0))) {lo hi : I3 → Rat} (hlo : ∀ j, Nr 4 (lo j)) (hs : ∀ j, Sd (hi j - lo j)) (h4 : ds[4]? = some (some (boxD lo hi))) (j : I3) (h21 : ds[21]? = some (some (.int (kI j)))) (k : Int) (hk : 0 ≤ k) : ∃ p : Rat, Wi (lo j) (hi j) p ∧ ev (T 99) inE (pl ds) [cw is k] = some (qD p, [cw is (k + 1)]) := by
  haveI : Sz 8 (lo j) := nr_sz (hlo j) (by decide)
  haveI : Sz 13 (hi j) := by
    haveI := sd_sz (hs j)
    have : Sz (8 + 4 + 1) (lo j + (hi j - lo j)) := inferInstance
    have e : lo j + (hi j - lo j) = hi j := by grind
    rw [e] at this
    exact this
  obtain ⟨r, r0, r1, e1⟩ := nx1_of is h1 k 6 (by decide) hk
  have f := fr_of (b := .int 8) e1 int_of (by omega) (by omega)
  have wi := wi_of (hlo j) (hs j) r0 r1
  have sq : Sz 4 (((1 + r : Int) : Rat) / ((8 : Int) : Rat)) := by
    refine Sz.of ?_
    have e := fr_pq (1 + r) (show (8 : Int) ≠ 0 by decide)
    have : pq (((1 + r : Int) : Rat) / ((8 : Int) : Rat)) = fr (1 + r) 8 := e.symm
    rw [this]
    exact fr_fq (by unfold Sm; omega) (by unfold Sm; decide) (by decide)
  generalize ((1 + r : Int) : Rat) / ((8 : Int) : Rat) = q at *
  refine ⟨_, wi, ?_⟩
  have b := fun μ => bxk μ lo hi (F := T 99) h4
  have l1 : ∀ μ, ev (T 99) (.ix (.ix (.var 4) (.int 1)) (.var 21)) (pl ds) μ = some (qD (lo j), μ) := fun μ => ev_ix (b μ).1 (v_of h21) (vD_k μ lo j)
  have l2 : ∀ μ, ev (T 99) (.ix (.ix (.var 4) (.int 2)) (.var 21)) (pl ds) μ = some (qD (hi j), μ) := fun μ => ev_ix (b μ).2 (v_of h21) (vD_k μ hi j)
  refine call_of (evs_cons (l1 _) (evs_cons (call_of (evs_cons (call_of (evs_cons (l2 _) (evs_cons (l1 _) evs_nil)) (lsub_at (n := 96) _ (by decide) (by decide))) (evs_cons f evs_nil)) (lmul_at (n := 96) _ (by decide) (by decide))) evs_nil)) (ladd_at (n := 96) _ (by decide) (by decide))
theorem st12 (is : List Int) (ds : List (Option D)) (len : ds.length = 24) (h1 : ds[1]? = some (some (.cell 0))) {lo hi : I3 → Rat} (hlo : ∀ j, Nr 4 (lo j)) (hs : ∀ j, Sd (hi j - lo j)) (h4 : ds[4]? = some (some (boxD lo hi))) (k : Int) (hk : 0 ≤ k) : ∃ p : I3 → Rat, (∀ j, Wi (lo j) (hi j) (p j)) ∧ exec (T 99) W s_1_2 (pl ds) [cw is k] = some (.nx (pl (ds.set 5 (some (vD p)))) [cw is (k + 3)]) := by
  have g : ∀ x, (ds.set 21 (some x))[1]? = some (some (.cell 0)) := fun x => by rw [List.getElem?_set_ne (by decide)]; exact h1
  have g4 : ∀ x, (ds.set 21 (some x))[4]? = some (some (boxD lo hi)) := fun x => by rw [List.getElem?_set_ne (by decide)]; exact h4
  obtain ⟨a, ha, e0⟩ := in_el is (g (.int (kI 0))) hlo hs (g4 _) 0 (set_get len (by decide)) k hk
  obtain ⟨b, hb, e1⟩ := in_el is (g (.int (kI 1))) hlo hs (g4 _) 1 (set_get len (by decide)) (k + 1) (by omega)
  obtain ⟨c, hc, e2⟩ := in_el is (g (.int (kI 2))) hlo hs (g4 _) 2 (set_get len (by decide)) (k + 1 + 1) (by omega)
  have k6 : k + 1 + 1 + 1 = k + 3 := by omega
  rw [k6] at e2
  refine ⟨v3 a b c, fun j => ?_, asg_pl (tup3_of (i := 21) (e := inE) (it := .rng1 (.int 3)) (x0 := .int (kI 0)) (x1 := .int (kI 1)) (x2 := .int (kI 2)) rfl e0 e1 e2)⟩
  rcases i3_cases j with rfl | rfl | rfl
  · exact ha
  · exact hb
  · exact hc
theorem dr_of {lo hi p0 d0 : I3 → Rat} (hlo : ∀ j, Nr 4 (lo j)) (hs : ∀ j, Sd (hi j - lo j)) (hp : ∀ j, Wi (lo j) (hi j) (p0 j)) (hd : ∀ j, Nr 3 (d0 j)) (hz : ∃ j, d0 j ≠ 0) : Dr lo hi p0 d0 where
  l6 := fun j => (hlo j).z
  lb := fun j => by
    have c : ((4 : Int) : Rat) = 4 := rfl
    have a := (hlo j).l
    have b := (hlo j).u
    rw [c] at a b
    exact ⟨a, b⟩
  s2 := fun j => (hs j).z
  sb := fun j => ⟨(hs j).l, (hs j).u⟩
  p48 := fun j => (hp j).z
  d6 := fun j => (hd j).z
  db := fun j => by
    have c : ((3 : Int) : Rat) = 3 := rfl
    have a := (hd j).l
    have b := (hd j).u
    rw [c] at a b
    exact ⟨a, b⟩
  bx := ⟨fun j => (hp j).l, fun j => (hp j).h⟩
  hd := hz
theorem par_of {F : Fs} {i j : Nat} {a b : E} {ds : List (Option D)} {μ μ1 μ2 : Cells} {x y : D} (hij : (i == j) = false) (h1 : ev F a (pl ds) μ = some (x, μ1)) (h2 : ev F b (pl ds) μ1 = some (y, μ2)) : exec F W (.par i j a b) (pl ds) μ = some (.nx (pl ((ds.set i (some x)).set j (some y))) μ2) := by
  unfold exec
  rw [lk_pl, lk_pl, isOw_pl, isOw_pl, hij, h1, andThen_some', h2, andThen_some']
  show some (Res.nx (((pl ds).set i (some (.pl x))).set j (some (.pl y))) μ2) = _
  rw [pl_set, pl_set]
theorem st13 (is : List Int) (ds : List (Option D)) (h1 : ds[1]? = some (some (.cell 0))) {p0 : I3 → Rat} (h5 : ds[5]? = some (some (vD p0))) (k : Int) (hk : 0 ≤ k) : ∃ (d0 : I3 → Rat) (m : Nat), (∀ j, Nr 3 (d0 j)) ∧ (∃ j, d0 j ≠ 0) ∧ 1 ≤ m ∧ m ≤ 7 ∧ exec (T 99) W s_1_3 (pl ds) [cw is k] = some (.nx (pl ((ds.set 15 (some (rayD p0 d0))).set 16 (some (.int (m : Int))))) [cw is (k + 7)]) := by
  obtain ⟨d0, hd, hz, e⟩ := way_at 93 is k hk
  obtain ⟨r, r0, r1, e2⟩ := nx1_of is h1 (k + 6) 7 (by decide) (by omega)
  have k7 : k + 6 + 1 = k + 7 := by omega
  rw [k7] at e2
  refine ⟨d0, (1 + r).toNat, hd, hz, by omega, by omega, ?_⟩
  have em : (((1 + r).toNat : Nat) : Int) = 1 + r := by omega
  rw [em]
  refine par_of rfl (tup_of (xs := [.tup [], vD p0, vD d0]) (evs_cons (μ1 := [cw is k]) rfl (evs_cons (v_of h5) (evs_cons (call_of (evs_cons (v_of h1) evs_nil) e) evs_nil))) (by simp)) e2
end K12

set_option Elab.async false
set_option linter.all false
set_option maxRecDepth 100000
set_option maxHeartbeats 4000000
/-! the law: the walk against the program -/
namespace K12
open FM
open L2 (atI)
open PySem (Str sizeLine)
theorem lc_mp {F : Fs} {i : Nat} {e : E} {it : It} {ds : List (Option D)} {μ : Cells} {α : Type} (q g : α → D) (l : List α) (hi : evi F it (pl ds) μ = some (l.map q, μ)) (hl : l.length ≤ 1000) (h : ∀ a ∈ l, ev F e (pl (ds.set i (some (q a)))) μ = some (g a, μ)) :
    ev F (.lc e (.nm i) it .none) (pl ds) μ = some (.lst (l.map g), μ) := by
  refine ev_lc hi (by rw [List.length_map]; omega) ?_
  refine lc_genB q (fun a => pl (ds.set i (some (q a)))) g l (fun a _ => ?_) (fun a _ => rfl) (fun a ha => ?_)
  · unfold bindT
    simp only [pl_set]
  · rw [lk_pl, if_neg (by decide)]
    exact h a ha
theorem seq_of {F : Fs} {i : Nat} {ds : List (Option D)} {μ : Cells} {l : List D} (h : ds[i]? = some (some (.lst l))) : evi F (.seq (.var i)) (pl ds) μ = some (l, μ) := by
  unfold evi
  rw [v_of h]
  rfl
/-! ### what stands in a turn -/
structure Kt (ds : List (Option D)) (lo hi p0 d0 : I3 → Rat) (m : Nat) : Prop where
  len : ds.length = 24
  h1 : ds[1]? = some (some (.cell 0))
  h4 : ds[4]? = some (some (boxD lo hi))
  h15 : ds[15]? = some (some (rayD p0 d0))
  h16 : ds[16]? = some (some (.int (m : Int)))
theorem Kt.set {ds : List (Option D)} {lo hi p0 d0 : I3 → Rat} {m : Nat} (K : Kt ds lo hi p0 d0 m) {i : Nat} (o : Option D) (n1 : i ≠ 1) (n4 : i ≠ 4) (n15 : i ≠ 15) (n16 : i ≠ 16) : Kt (ds.set i o) lo hi p0 d0 m :=
  ⟨by rw [List.length_set]; exact K.len, by rw [List.getElem?_set_ne n1]; exact K.h1, by rw [List.getElem?_set_ne n4]; exact K.h4, by rw [List.getElem?_set_ne n15]; exact K.h15, by rw [List.getElem?_set_ne n16]; exact K.h16⟩
theorem ev0 (μ : Cells) (e : Ev) : ixD μ (evD e) (.int 0) = some (qD e.t) := by unfold evD; rw [ix_tup, atI_0]
theorem ev1 (μ : Cells) (e : Ev) : ixD μ (evD e) (.int 1) = some (vD e.p) := by unfold evD; rw [ix_tup, atI_1]
theorem ev2 (μ : Cells) (e : Ev) : ixD μ (evD e) (.int 2) = some (.int (kI e.k)) := by unfold evD; rw [ix_tup, atI_2]
theorem ev3 (μ : Cells) (e : Ev) : ixD μ (evD e) (.int 3) = some (.bl e.up) := rfl
theorem any_filter {α : Type} (p : α → Bool) : ∀ l : List α, (!(l.filter p).isEmpty) = l.any p
  | [] => rfl
  | a :: l => by
    have ih := any_filter p l
    rw [List.filter_cons, List.any_cons]
    cases p a with
    | true => rfl
    | false => exact ih
theorem keys_wk : ∀ l : List Ev, asKeys (l.map fun e : Ev => D.tup [qD e.t, .bl true]) = some (l.map fun e : Ev => [e.t.num, (e.t.den : Int)])
  | [] => rfl
  | e :: l => by
    have ih := keys_wk l
    show (match asInts [D.int e.t.num, .int (e.t.den : Int)] with | some ns => (asKeys (l.map fun e : Ev => D.tup [qD e.t, .bl true])).map (ns :: ·) | none => none) = _
    rw [ih]
    rfl
section
variable {lo hi p0 d0 : I3 → Rat} (h : Dr lo hi p0 d0) {m : Nat} (m1 : 1 ≤ m) (m7 : m ≤ 7) {ds : List (Option D)} (K : Kt ds lo hi p0 d0 m) (μ : Cells)
abbrev wL (lo hi p0 d0 : I3 → Rat) (m : Nat) : List Ev := wk lo hi p0 d0 m (fun _ => 0)
theorem sN_le (n : Cnt) (hd : ∃ k, d0 k ≠ 0) : (sN lo hi p0 d0 n).length ≤ 3 := by
  rw [(tm_spec (lo := lo) (hi := hi) (p0 := p0) (n := n) hd).1]
  exact Nat.le_trans (List.length_filter_le _ _) (by decide)
theorem wk_le (hd : ∃ k, d0 k ≠ 0) : ∀ (m : Nat) (n : Cnt), (wk lo hi p0 d0 m n).length ≤ 3 * m
  | 0, _ => Nat.le_refl _
  | m + 1, n => by
    have ih := wk_le hd m (nN lo hi p0 d0 n)
    have := sN_le (lo := lo) (hi := hi) (p0 := p0) n hd
    show (evs1 lo hi p0 d0 n ++ _).length ≤ _
    rw [List.length_append]
    unfold evs1
    rw [List.length_map]
    omega
include K in
theorem ar3 {F : Fs} : evs F (.cons (.var 4) (.cons (.var 15) (.cons (.var 16) .nil))) (pl ds) μ = some ([boxD lo hi, rayD p0 d0, .int (m : Int)], μ) := evs_cons (v_of K.h4) (evs_cons (v_of K.h15) (evs_cons (v_of K.h16) evs_nil))
include h m7 K in
theorem st14 : exec (T 99) W s_1_4 (pl ds) μ = some (.nx (pl (ds.set 6 (some (.lst ((wL lo hi p0 d0 m).map evD))))) μ) := asg_pl (call_of (ar3 K μ) (lwalk_at (n := 94) μ h m m7))
/-- whether it goes through an edge -/
def edB (lo hi p0 d0 : I3 → Rat) (m : Nat) : Bool := decide (((FA.dkL [] ((wL lo hi p0 d0 m).map fun e => [e.t.num, (e.t.den : Int)])).length : Int) < ((wL lo hi p0 d0 m).length : Int))
include h in
theorem ed_sng (e : edB lo hi p0 d0 m = false) : Sng lo hi p0 d0 m (fun _ => 0) := by
  have e := of_decide_eq_false e
  have l := FA.dkL_len ((wL lo hi p0 d0 m).map fun e => [e.t.num, (e.t.den : Int)]) []
  rw [List.length_map] at l
  obtain ⟨nd, _⟩ := dkL_sub ((wL lo hi p0 d0 m).map fun e => [e.t.num, (e.t.den : Int)]) [] (by rw [List.length_map]; simp at l ⊢; omega)
  refine sng_of h m _ 0 (val0 h) ?_
  have e2 : (wL lo hi p0 d0 m).map (fun e => [e.t.num, (e.t.den : Int)]) = ((wL lo hi p0 d0 m).map Ev.t).map fun q => [q.num, (q.den : Int)] := by rw [List.map_map]; rfl
  rw [e2] at nd
  exact (List.pairwise_map.mp nd).imp fun h e => h (congrArg (fun q : Rat => [q.num, (q.den : Int)]) e)
include h m7 K in
theorem st15 (h6 : ds[6]? = some (some (.lst ((wL lo hi p0 d0 m).map evD)))) : exec (T 99) W s_1_5 (pl ds) μ = some (.nx (pl (ds.set 7 (some (.bl (edB lo hi p0 d0 m))))) μ) := by
  have hl := wk_le (lo := lo) (hi := hi) (p0 := p0) (d0 := d0) h.hd m (fun _ => 0)
  have lc : ev (T 99) (.lc (.tup (.cons (.ix (.var 23) (.int 0)) (.cons (.bl true) .nil))) (.nm 23) (.seq (.var 6)) .none) (pl ds) μ = some (.lst ((wL lo hi p0 d0 m).map fun e => .tup [qD e.t, .bl true]), μ) :=
    lc_mp evD (fun e => .tup [qD e.t, .bl true]) _ (seq_of h6) (by unfold wL; omega) fun a _ => tup_of (evs_cons (ev_ix (v_of (set_get K.len (by decide))) int_of (ev0 μ a)) (evs_cons rfl evs_nil)) (by simp)
  have ld : ev (T 99) (.ldict (.lc (.tup (.cons (.ix (.var 23) (.int 0)) (.cons (.bl true) .nil))) (.nm 23) (.seq (.var 6)) .none)) (pl ds) μ = some (.int (FA.dkL [] ((wL lo hi p0 d0 m).map fun e => [e.t.num, (e.t.den : Int)])).length, μ) := by
    unfold ev
    rw [lk_pl, lc, andThen_some']
    show (match asKeys ((wL lo hi p0 d0 m).map fun e => D.tup [qD e.t, .bl true]) with | some ks => some (D.int (FA.dkL [] ks).length, μ) | none => none) = _
    rw [keys_wk]
  exact asg_pl (cmp_of ld (bi1_of (v_of h6) (len_lst μ _)) (by rw [List.length_map]; rfl))
include K in
theorem st16 (h6 : ds[6]? = some (some (.lst ((wL lo hi p0 d0 m).map evD)))) : exec (T 99) W s_1_6 (pl ds) μ = some (.nx (pl (ds.set 8 (some (.lst (((wL lo hi p0 d0 m).take m).map evD))))) μ) := by
  refine asg_pl ?_
  have s := sl_take ((wL lo hi p0 d0 m).map evD) m
  rw [← List.map_take] at s
  unfold ev
  rw [v_of h6, andThen_some']
  have o1 : evo (T 99) .none (pl ds) μ = some (none, μ) := rfl
  have o2 : evo (T 99) (.some (.var 16)) (pl ds) μ = some (some (m : Int), μ) := by
    unfold evo
    rw [v_of K.h16]
    rfl
  rw [o1, andThen_some', o2, andThen_some', s]
  rfl
theorem ifs_no {c : E} {a : Ss} {ρ : Env} (e : ev (T 99) c ρ μ = some (.bl false, μ)) : exec (T 99) W (.ifs c a .nil) ρ μ = some (.nx ρ μ) := ifs_f e rfl
theorem rows_t : ((wL lo hi p0 d0 m).take m).map (fun e => qD e.t) = (tms lo hi p0 d0 m).map qD := by
  unfold tms
  rw [← List.map_take, List.map_map]
  rfl
include h m7 K in
theorem st17 (h8 : ds[8]? = some (some (.lst (((wL lo hi p0 d0 m).take m).map evD)))) : exec (T 99) W s_1_7 (pl ds) μ = some (.nx (pl ds) μ) := by
  have hl := tms_len h m
  have lt : ((wL lo hi p0 d0 m).take m).length ≤ 7 := by rw [List.length_take]; omega
  refine ifs_no μ (same_of (d := .tup ((tms lo hi p0 d0 m).map qD)) (bi1_of (call_of (ar3 K μ) (meeting_at (n := 94) μ h m m7)) rfl) ?_ (dep_map 49 _ _ (by omega) (fun q => dep_q 48 q)))
  rw [← rows_t]
  exact bi1_of (lc_mp evD (fun e => qD e.t) _ (seq_of h8) (by omega) fun a _ => ev_ix (v_of (set_get K.len (by decide))) int_of (ev0 μ a)) rfl
include h m1 m7 K in
theorem st18 (h8 : ds[8]? = some (some (.lst (((wL lo hi p0 d0 m).take m).map evD)))) : exec (T 99) W s_1_8 (pl ds) μ = some (.nx (pl (ds.set 9 (some (.bl (twiceB (tms lo hi p0 d0 m)))))) μ) := by
  have hl := tms_len h m
  have hwl : m ≤ (wL lo hi p0 d0 m).length := wk_len (lo := lo) (hi := hi) (p0 := p0) (d0 := d0) h.hd m (fun _ => 0)
  have lt : ((wL lo hi p0 d0 m).take m).length = m := by rw [List.length_take]; omega
  have g8 : ∀ x, (ds.set 21 (some x))[8]? = some (some (.lst (((wL lo hi p0 d0 m).take m).map evD))) := fun x => by rw [List.getElem?_set_ne (by decide)]; exact h8
  have et : ∀ k, k < m → ∃ hk : k < ((wL lo hi p0 d0 m).take m).length, ((wL lo hi p0 d0 m).take m)[k].t = (tms lo hi p0 d0 m).getD k 0 := fun k hk => by
    refine ⟨by omega, ?_⟩
    have e : tms lo hi p0 d0 m = ((wL lo hi p0 d0 m).take m).map Ev.t := by unfold tms; rw [List.map_take]
    rw [e, List.getD_eq_getElem?_getD, List.getElem?_map, List.getElem?_eq_getElem (by omega)]
    rfl
  have ix : ∀ (ρ : List (Option D)) (e : E) (k : Nat), ρ[8]? = some (some (.lst (((wL lo hi p0 d0 m).take m).map evD))) → k < m → ev (T 99) e (pl ρ) μ = some (.int (k : Int), μ) → ev (T 99) (.ix (.ix (.var 8) e) (.int 0)) (pl ρ) μ = some (qD ((tms lo hi p0 d0 m).getD k 0), μ) := fun ρ e k g hk he => by
    obtain ⟨hk', e2⟩ := et k hk
    rw [← e2]
    exact ev_ix (ev_ix (v_of g) he (by rw [ix_lst, atI_map _ _ k hk' (by omega)])) int_of (ev0 μ _)
  have lc := ev_lcf (F := T 99) (i := 21) (ds := ds) (μ := μ) (e := .op .Sub (.bi .len (.cons (.var 8) .nil)) (.int 1)) (cond := .cmp .Eq (.ix (.ix (.var 8) (.var 21)) (.int 0)) (.ix (.ix (.var 8) (.op .Add (.var 21) (.int 1))) (.int 0))) (m - 1) (fun k => decide ((tms lo hi p0 d0 m).getD k 0 = (tms lo hi p0 d0 m).getD (k + 1) 0)) (by omega) (by have := K.len; omega)
    (op_of (bi1_of (v_of h8) (len_lst μ _)) int_of (by
      rw [List.length_map, lt]
      show some (D.int ((m : Int) - 1)) = _
      congr 2
      omega))
    (fun k hk => by
      have s21 : (ds.set 21 (some (.int (k : Int))))[21]? = some (some (.int (k : Int))) := set_get K.len (by decide)
      refine cmp_of (ix _ _ k (g8 _) (by omega) (v_of s21)) (ix _ _ (k + 1) (g8 _) (by omega) (op_of (v_of s21) int_of rfl)) ?_
      exact eqD_q _ _)
  refine asg_pl (cmp_of lc (show ev (T 99) (.lst .nil) (pl ds) μ = some (.lst [], μ) from rfl) ?_)
  show (eqD _ _).map not = _
  rw [eqD_ints (fun (k : Nat) => (k : Int))]
  show some (!_) = some _
  congr 1
  rw [any_filter]
  unfold twiceB
  rw [hl]
def rD (e : Ev) : D := .tup [.int (kI e.k), .bl e.up]
theorem dep_r (k : Nat) (e : Ev) : dep (k + 1) (rD e) = true := by
  unfold rD
  rw [dep_tup]
  simp [dep_int, dep_bl]
theorem dep_su (k : Nat) (e : Rw) : dep (k + 1) (suD e) = true := by
  unfold suD
  rw [dep_tup]
  simp [dep_int, dep_bl]
include h in
theorem fmA_len (l : List Rat) : (fmA lo hi p0 d0 l).length ≤ l.length := by
  have := foldl_len h l []
  rw [List.length_nil, Nat.zero_add] at this
  exact this
theorem and_ff {F : Fs} {a b : E} {ρ : Env} {μ μ1 : Cells} (h : ev F a ρ μ = some (.bl false, μ1)) : ev F (.and a b) ρ μ = some (.bl false, μ1) := by
  unfold ev
  rw [h]
  rfl
include h m7 K in
theorem st19 (h7 : ds[7]? = some (some (.bl (edB lo hi p0 d0 m)))) (h8 : ds[8]? = some (some (.lst (((wL lo hi p0 d0 m).take m).map evD)))) (h9 : ds[9]? = some (some (.bl (twiceB (tms lo hi p0 d0 m))))) (m1 : 1 ≤ m) : exec (T 99) W s_1_9 (pl ds) μ = some (.nx (pl ds) μ) := by
  have hl := tms_len h m
  have lt : ((wL lo hi p0 d0 m).take m).length ≤ 7 := by rw [List.length_take]; omega
  have lf := fmA_len h (tms lo hi p0 d0 m)
  have x := tup_of (evs_cons (call_of (ar3 K μ) (edge_at (n := 93) μ h m m7 m1)) (evs_cons (bi1_of (b := .tuple) (call_of (ar3 K μ) (faces_at (n := 93) μ h m m7)) rfl) evs_nil)) (by simp)
  have lc : ev (T 99) (.lc (.tup (.cons (.ix (.var 23) (.int 2)) (.cons (.ix (.var 23) (.int 3)) .nil))) (.nm 23) (.seq (.var 8)) .none) (pl ds) μ = some (.lst (((wL lo hi p0 d0 m).take m).map rD), μ) :=
    lc_mp evD rD _ (seq_of h8) (by omega) fun a _ => tup_of (evs_cons (ev_ix (v_of (set_get K.len (by decide))) int_of (ev2 μ a)) (evs_cons (ev_ix (v_of (set_get K.len (by decide))) int_of (ev3 μ a)) evs_nil)) (by simp)
  have y := tup_of (evs_cons (v_of h9) (evs_cons (bi1_of (b := .tuple) lc rfl) evs_nil)) (by simp)
  obtain ⟨b, b1, b2⟩ := lk_ex (.tup [.bl (twiceB (tms lo hi p0 d0 m)), .tup ((fmA lo hi p0 d0 (tms lo hi p0 d0 m)).map suD)]) (.tup [.bl (twiceB (tms lo hi p0 d0 m)), .tup (((wL lo hi p0 d0 m).take m).map rD)])
    (by rw [dep_tup, List.all_cons, List.all_cons, dep_bl, dep_map 48 _ _ (by omega) (fun q => dep_su 47 q)]; rfl)
    (by rw [dep_tup, List.all_cons, List.all_cons, dep_bl, dep_map 48 _ _ (by omega) (fun q => dep_r 47 q)]; rfl)
  have c := and_of (not_of (call_of (evs_cons x (evs_cons y evs_nil)) (b2 μ))) (fun _ => not_of (v_of h7)) (fun _ => rfl)
  have z : (!b && !(edB lo hi p0 d0 m)) = false := by
    cases e : edB lo hi p0 d0 m with
    | true => simp
    | false =>
      have s := ed_sng h e
      have hw := wk_sng h m _ s
      have eq : b = true := b1.mpr (by
        rw [fmA_wk h m s, List.take_of_length_le (by unfold wL; omega), List.map_map]
        rfl)
      rw [eq]
      rfl
  rw [z] at c
  exact ifs_no μ c
include h m7 K in
theorem st110 (h9 : ds[9]? = some (some (.bl (twiceB (tms lo hi p0 d0 m))))) (m1 : 1 ≤ m) : exec (T 99) W s_1_10 (pl ds) μ = some (.nx (pl ds) μ) :=
  ifs_no μ (same_of (call_of (ar3 K μ) (edge_at (n := 93) μ h m m7 m1)) (v_of h9) (dep_bl _ _))
include h m7 K in
theorem st111 (h7 : ds[7]? = some (some (.bl (edB lo hi p0 d0 m)))) (h8 : ds[8]? = some (some (.lst (((wL lo hi p0 d0 m).take m).map evD)))) : exec (T 99) W s_1_11 (pl ds) μ = some (.nx (pl ds) μ) := by
  refine ifs_no μ ?_
  cases e : edB lo hi p0 d0 m with
  | true =>
    rw [e] at h7
    exact and_ff (not_of (b := true) (v_of h7))
  | false =>
    rw [e] at h7
    have s := ed_sng h e
    have hw := wk_sng h m _ s
    have lt : ((wL lo hi p0 d0 m).take m).length ≤ 7 := by rw [List.length_take]; omega
    have er : (((wk lo hi p0 d0 m (fun _ => 0)).map Ev.p).map vD) = ((wL lo hi p0 d0 m).take m).map fun e => vD e.p := by
      rw [List.take_of_length_le (by unfold wL; omega), List.map_map]
      rfl
    have lc : ev (T 99) (.lc (.ix (.var 23) (.int 1)) (.nm 23) (.seq (.var 8)) .none) (pl ds) μ = some (.lst (((wL lo hi p0 d0 m).take m).map fun e => vD e.p), μ) :=
      lc_mp evD (fun e => vD e.p) _ (seq_of h8) (by omega) fun a _ => ev_ix (v_of (set_get K.len (by decide))) int_of (ev1 μ a)
    have bn := bounces_at (n := 81) μ h m m7 s
    rw [er] at bn
    exact and_of (x := true) (y := false) (not_of (b := false) (v_of h7)) (fun _ => same_of (bi1_of (call_of (ar3 K μ) bn) rfl) (bi1_of lc rfl) (dep_map 49 _ _ (by omega) (fun q => dep_v 47 q.p))) (fun z => by cases z)
end
end K12

set_option Elab.async false
set_option linter.all false
set_option maxRecDepth 100000
set_option maxHeartbeats 4000000
/-! the law: places at times, folded, home -/
namespace K12
open FM
open L2 (atI)
open PySem (Str sizeLine)
theorem nonD (x y : D) : cmpD .IsNot (.tup [x, y]) .non = some true := rfl
theorem nonN : cmpD .IsNot .non .non = some false := rfl
theorem non_of {F : Fs} {ρ : Env} {μ : Cells} : ev F .non ρ μ = some (.non, μ) := rfl
section
variable {lo hi p0 d0 : I3 → Rat} (h : Dr lo hi p0 d0) {m : Nat} {ds : List (Option D)}
structure Tq (q : Rat) : Prop where
  l : 0 ≤ q
  s : Sz 10 q
theorem tq_of {n d : Int} (h0 : 0 ≤ n) (h1 : n < 60) (h2 : 0 < d) (h3 : d < 10) : Tq ((n : Rat) / (d : Rat)) := by
  refine ⟨?_, ?_⟩
  · have a : (0 : Rat) ≤ (n : Rat) := by
      have c : ((0 : Int) : Rat) = 0 := rfl
      rw [← c]; exact Rat.intCast_le_intCast.mpr h0
    have b : (0 : Rat) < (d : Rat) := by
      have c : ((0 : Int) : Rat) = 0 := rfl
      rw [← c]; exact Rat.intCast_lt_intCast.mpr h2
    exact le_div b (by grind)
  · refine Sz.of ?_
    have e := fr_pq n (show d ≠ 0 by omega)
    have : pq ((n : Rat) / (d : Rat)) = fr n d := e.symm
    rw [this]
    exact fr_fq (by unfold Sm; omega) (by unfold Sm; omega) (by omega)
include h
theorem look (is : List Int) (K : Kt ds lo hi p0 d0 m) (k : Int) (hk : 0 ≤ k) : ∃ ds', Kt ds' lo hi p0 d0 m ∧ execs (T 99) W s_1_12b (pl ds) [cw is k] = some (.nx (pl ds') [cw is (k + 2)]) := by
  obtain ⟨r, r0, r1, e1⟩ := nx_of is K.h1 k 60 (by decide) hk
  obtain ⟨r2, r20, r21, e2⟩ := nx1_of is K.h1 (k + 1) 4 (by decide) (by omega)
  have k2 : k + 1 + 1 = k + 2 := by omega
  rw [k2] at e2
  have f := fr_of e1 e2 (by omega) (by omega)
  have tq := tq_of (d := 1 + r2) r0 r1 (by omega) (by omega)
  generalize ((r : Int) : Rat) / ((1 + r2 : Int) : Rat) = q at *
  have st1 : exec (T 99) W s_1_12_0 (pl ds) [cw is k] = some (.nx (pl (ds.set 17 (some (qD q)))) [cw is (k + 2)]) := asg_pl f
  have K1 := K.set (i := 17) (some (qD q)) (by decide) (by decide) (by decide) (by decide)
  have g17 : (ds.set 17 (some (qD q)))[17]? = some (some (qD q)) := set_get K.len (by decide)
  generalize ds.set 17 (some (qD q)) = ds1 at *
  haveI := tq.s
  have ar : ∀ μ, evs (T 99) (.cons (.var 4) (.cons (.var 15) (.cons (.var 17) .nil))) (pl ds1) μ = some ([boxD lo hi, rayD p0 d0, qD q], μ) := fun μ => evs_cons (v_of K1.h4) (evs_cons (v_of K1.h15) (evs_cons (v_of g17) evs_nil))
  generalize [cw is (k + 2)] = μ at *
  have fin : ∀ y, T 99 88 [boxD lo hi, rayD p0 d0, qD q] μ = some (y, μ) → (∀ ds2, Kt ds2 lo hi p0 d0 m → ds2[13]? = some (some y) → ds2[17]? = some (some (qD q)) → exec (T 99) W s_1_12_2 (pl ds2) μ = some (.nx (pl ds2) μ)) → ∃ ds', Kt ds' lo hi p0 d0 m ∧ execs (T 99) W s_1_12b (pl ds) [cw is k] = some (.nx (pl ds') μ) := fun y a b => by
    refine ⟨ds1.set 13 (some y), K1.set _ (by decide) (by decide) (by decide) (by decide), seq_nx st1 (seq_nx (asg_pl (call_of (ar μ) a)) (seq_nx (b _ (K1.set _ (by decide) (by decide) (by decide) (by decide)) (set_get K1.len (by decide)) ?_) rfl))⟩
    rw [List.getElem?_set_ne (by decide)]
    exact g17
  rcases lat_at (n := 94) (time := q) μ h (b := 10) (by decide) tq.l with ⟨nn, v, e⟩ | e
  · refine fin _ e fun ds2 K2 g13 g172 => ifs_no μ ?_
    haveI : ∀ k, Sz 10 (lo k) := fun k => (lo_sz h k).mono (by decide)
    haveI : ∀ k, Sz 10 (hi k) := fun k => (hi_sz h k).mono (by decide)
    haveI : ∀ k, Sz 10 (p0 k) := fun k => p0_sz h k
    haveI : ∀ k, Sz 10 (d0 k) := fun k => (d0_sz h k).mono (by decide)
    have pa := place_at_at (n := 92) (lo := lo) (hi := hi) (p := p0) (d := d0) (t := q) μ (fun k => bx_lt h k) (by decide)
    have ep : vD (fun k => phi (lo k) (hi k) (p0 k + d0 k * q)) = vD (PP lo hi p0 d0 nn q) := by
      congr 1
      funext k
      exact (fold_val h.bx v).symm
    rw [ep] at pa
    exact and_of (x := true) (y := false) (cmp_of (v_of g13) non_of (nonD _ _)) (fun _ => same_of (call_of (evs_cons (v_of K2.h4) (evs_cons (v_of K2.h15) (evs_cons (v_of g172) evs_nil))) pa) (ev_ix (v_of g13) int_of (by rw [ix_tup, atI_0])) (dep_v 48 _)) (fun z => by cases z)
  · exact fin _ e fun ds2 K2 g13 g172 => ifs_no μ (and_ff (cmp_of (v_of g13) non_of nonN))
theorem st112 (is : List Int) (K : Kt ds lo hi p0 d0 m) (k : Int) (hk : 0 ≤ k) : ∃ ds' k', Kt ds' lo hi p0 d0 m ∧ 0 ≤ k' ∧ exec (T 99) W s_1_12 (pl ds) [cw is k] = some (.nx (pl ds') [cw is k']) := by
  obtain ⟨ρ', μ', e1, ds', k', K', k0, rfl, rfl⟩ := forF_inv (fun _ ρ μ => ∃ (ds : List (Option D)) (k : Int), Kt ds lo hi p0 d0 m ∧ 0 ≤ k ∧ ρ = pl ds ∧ μ = [cw is k]) (tg := .nm 10) (b := fun ρ' μ' => execs (T 99) W s_1_12b ρ' μ') (fun y ys ρ μ hh => by
    obtain ⟨ds1, k1, K1, k10, rfl, rfl⟩ := hh
    obtain ⟨ds2, K2, e⟩ := look h is (K1.set (i := 10) (some y) (by decide) (by decide) (by decide) (by decide)) k1 k10
    refine ⟨pl (ds1.set 10 (some y)), pl ds2, [cw is (k1 + 2)], ?_, e, ds2, k1 + 2, K2, by omega, rfl, rfl⟩
    unfold bindT
    simp only [pl_set]) (rngD 0 4) (pl ds) [cw is k] ⟨ds, k, K, hk, rfl, rfl⟩
  exact ⟨ds', k', K', k0, for_of (evi_rng (n := 4) rfl (by decide)) (itlk_pl _ _) e1⟩
omit h in
theorem st113 (is : List Int) (K : Kt ds lo hi p0 d0 m) (k : Int) (hk : 0 ≤ k) : ∃ (x : Rat) (p : I3 → Rat), Nr 30 x ∧ (∀ j, Nr 12 (p j)) ∧ exec (T 99) W s_1_13 (pl ds) [cw is k] = some (.nx (pl ((ds.set 18 (some (qD x))).set 19 (some (vD p)))) [cw is (k + 8)]) := by
  obtain ⟨x, hx, e1⟩ := num_at 95 is k 30 hk (by decide) (by decide)
  obtain ⟨p, hp, e2⟩ := place_at' 94 is (k + 2) 12 (by omega) (by decide) (by decide)
  have k8 : k + 2 + 6 = k + 8 := by omega
  rw [k8] at e2
  exact ⟨x, p, hx, hp, asgT_of (tup_of (evs_cons (call_of (evs_cons (v_of K.h1) (evs_cons int_of evs_nil)) e1) (evs_cons (call_of (evs_cons (v_of K.h1) (evs_cons int_of evs_nil)) e2) evs_nil)) (by simp))⟩
theorem fold_ok (n : Nat) (μ : Cells) {most : Int} (hm : most = 12 ∨ most = 30) {x : Rat} (hx : Nr most x) (k : I3) : T (n + 4) 89 [qD (lo k), qD (hi k), qD x] μ = some (qD (phi (lo k) (hi k) x), μ) := by
  haveI := lo_sz h k
  haveI := hi_sz h k
  have lb := h.lb k
  have sb := h.sb k
  have l := hx.l
  have u := hx.u
  have hb : (most : Rat) ≤ 30 := by
    have : ((30 : Int) : Rat) = 30 := rfl
    rw [← this]
    exact Rat.intCast_le_intCast.mpr (by omega)
  have c0 : ((0 : Nat) : Rat) = 0 := rfl
  rw [lfold_at (n := n) (lo := lo k) (hi := hi k) (x := x) μ (h.l6 k) (h6 h k) ⟨by grind, by grind⟩ ⟨by grind, by grind⟩ ⟨hx.z, by rw [c0]; grind, by rw [c0]; grind⟩, foldN_phi (bx_lt h k) (by grind) (by grind)]
theorem st114 (μ : Cells) (K : Kt ds lo hi p0 d0 m) {p : I3 → Rat} (hp : ∀ j, Nr 12 (p j)) (h19 : ds[19]? = some (some (vD p))) : exec (T 99) W s_1_14 (pl ds) μ = some (.nx (pl (ds.set 11 (some (vD fun j => phi (lo j) (hi j) (p j))))) μ) := by
  have el : ∀ j : I3, ev (T 99) (.call 89 (.cons (.ix (.ix (.var 4) (.int 1)) (.var 21)) (.cons (.ix (.ix (.var 4) (.int 2)) (.var 21)) (.cons (.ix (.var 19) (.var 21)) .nil)))) (pl (ds.set 21 (some (.int (kI j))))) μ = some (qD (phi (lo j) (hi j) (p j)), μ) := fun j => by
    have K1 := K.set (i := 21) (some (.int (kI j))) (by decide) (by decide) (by decide) (by decide)
    have g21 : (ds.set 21 (some (.int (kI j))))[21]? = some (some (.int (kI j))) := set_get K.len (by decide)
    have g19 : (ds.set 21 (some (.int (kI j))))[19]? = some (some (vD p)) := by rw [List.getElem?_set_ne (by decide)]; exact h19
    have b := bxk μ lo hi (F := T 99) K1.h4
    exact call_of (evs_cons (ev_ix b.1 (v_of g21) (vD_k μ lo j)) (evs_cons (ev_ix b.2 (v_of g21) (vD_k μ hi j)) (evs_cons (ev_ix (v_of g19) (v_of g21) (vD_k μ p j)) evs_nil))) (fold_ok h 95 μ (.inl rfl) (hp j) j)
  exact asg_pl (tup3_of (x0 := .int (kI 0)) (x1 := .int (kI 1)) (x2 := .int (kI 2)) rfl (el 0) (el 1) (el 2))
theorem st115 (μ : Cells) (K : Kt ds lo hi p0 d0 m) {x : Rat} (hx : Nr 30 x) {p : I3 → Rat} (hp : ∀ j, Nr 12 (p j)) (h18 : ds[18]? = some (some (qD x))) (h19 : ds[19]? = some (some (vD p))) (h11 : ds[11]? = some (some (vD fun j => phi (lo j) (hi j) (p j)))) : exec (T 99) W s_1_15 (pl ds) μ = some (.nx (pl ds) μ) := by
  haveI : ∀ k, Sz 8 (lo k) := fun k => lo_sz h k
  haveI : ∀ k, Sz 8 (hi k) := fun k => hi_sz h k
  haveI : ∀ k, Sz 8 (p k) := fun k => nr_sz (hp k) (by decide)
  haveI : Sz 8 x := nr_sz hx (by decide)
  have b := bxk μ lo hi (F := T 99) K.h4
  have i1 := ev_ix b.1 (int_of (F := T 99) (i := 0) (ρ := pl ds) (μ := μ)) (vD_0 μ lo)
  have i2 := ev_ix b.2 (int_of (F := T 99) (i := 0) (ρ := pl ds) (μ := μ)) (vD_0 μ hi)
  have a1 := call_of (evs_cons i1 (evs_cons i2 (evs_cons (v_of h18) evs_nil))) (folded_at (n := 95) (lo := lo 0) (hi := hi 0) (x := x) μ (bx_lt h 0) (by decide))
  have a2 := call_of (evs_cons (v_of K.h4) (evs_cons (v_of h19) evs_nil)) (folded_place_at (n := 94) (lo := lo) (hi := hi) (p := p) μ (fun k => bx_lt h k) (by decide))
  have c1 := call_of (evs_cons i1 (evs_cons i2 (evs_cons (v_of h18) evs_nil))) (fold_ok h 95 μ (.inr rfl) hx 0)
  refine ifs_no μ (same_of (tup_of (evs_cons a1 (evs_cons a2 evs_nil)) (by simp)) (tup_of (evs_cons c1 (evs_cons (v_of h11) evs_nil)) (by simp)) ?_)
  rw [dep_tup, List.all_cons, List.all_cons, dep_q, dep_v]
  rfl
theorem hm_sz : Sz 154 (hmQ lo hi d0) := by
  haveI : ∀ k, Sz 8 (lo k) := fun k => lo_sz h k
  haveI : ∀ k, Sz 8 (hi k) := fun k => hi_sz h k
  haveI : ∀ k, Sz 8 (d0 k) := fun k => d0_sz h k
  have key : ∀ (xs : List Rat) (x : Rat) (b : Nat), Sz b x → (∀ y ∈ xs, Sz 30 y) → Sz (b + 62 * xs.length) (xs.foldl lcmQ x) := by
    intro xs
    induction xs with
    | nil => intro x b hx _; exact hx
    | cons a xs ih =>
      intro x b hx hy
      haveI := hx
      haveI := hy a List.mem_cons_self
      have s : Sz (30 + (b + 30 + 1 + 1)) (lcmQ x a) := (Sz.mul : Sz (30 + (b + 30 + 1 + 1)) (a * (((x / a).num : Int) : Rat)))
      have := ih (lcmQ x a) _ s (fun y hy' => hy y (List.mem_cons_of_mem _ hy'))
      exact this.mono (by simp; omega)
  have all : ∀ y ∈ perL lo hi d0, Sz 30 y := fun y hy => by
    obtain ⟨k, _, rfl⟩ := of_perL h hy
    exact sz_per (lo := lo) (hi := hi) (d := d0) (a := 8) k
  have len : (perL lo hi d0).length ≤ 3 := by
    unfold perL
    rw [List.length_map]
    exact Nat.le_trans (List.length_filter_le _ _) (by decide)
  unfold hmQ
  generalize perL lo hi d0 = L at *
  cases L with
  | nil => exact sz0.mono (by decide)
  | cons x xs =>
    exact (key xs x 30 (all x List.mem_cons_self) (fun y hy => all y (List.mem_cons_of_mem _ hy))).mono (by simp at len; omega)
theorem st116 (μ : Cells) (K : Kt ds lo hi p0 d0 m) : exec (T 99) W s_1_16 (pl ds) μ = some (.nx (pl (ds.set 12 (some (qD (hmQ lo hi d0))))) μ) := by
  haveI : ∀ k, Sz 8 (lo k) := fun k => lo_sz h k
  haveI : ∀ k, Sz 8 (hi k) := fun k => hi_sz h k
  haveI : ∀ k, Sz 8 (d0 k) := fun k => d0_sz h k
  exact asg_pl (call_of (evs_cons (v_of K.h4) (evs_cons (v_of K.h15) evs_nil)) (comes_at (n := 94) (lo := lo) (hi := hi) (p := p0) (d := d0) μ (fun k => bx_lt h k) h.hd (by decide)))
theorem st1178 (μ : Cells) (K : Kt ds lo hi p0 d0 m) (h12 : ds[12]? = some (some (qD (hmQ lo hi d0)))) : ∃ y, exec (T 99) W s_1_17 (pl ds) μ = some (.nx (pl (ds.set 13 (some y))) μ) ∧ exec (T 99) W s_1_18 (pl (ds.set 13 (some y))) μ = some (.nx (pl (ds.set 13 (some y))) μ) := by
  haveI := hm_sz h
  have hp := (home_facts h).1
  have ar : evs (T 99) (.cons (.var 4) (.cons (.var 15) (.cons (.var 12) .nil))) (pl ds) μ = some ([boxD lo hi, rayD p0 d0, qD (hmQ lo hi d0)], μ) := evs_cons (v_of K.h4) (evs_cons (v_of K.h15) (evs_cons (v_of h12) evs_nil))
  have lt : ∀ ds2 : List (Option D), ds2[12]? = some (some (qD (hmQ lo hi d0))) → ev (T 99) (.cmp .LtE (.ix (.var 12) (.int 0)) (.int 0)) (pl ds2) μ = some (.bl false, μ) := fun ds2 g => by
    refine cmp_of (ev_ix (v_of g) int_of (qD_0 μ _)) int_of ?_
    have := num_pos' hp
    show some (decide ((hmQ lo hi d0).num ≤ 0)) = some false
    rw [decide_eq_false (by omega)]
  rcases lat_at (n := 94) (time := hmQ lo hi d0) μ h (b := 154) (by decide) (by grind) with ⟨nn, v, e⟩ | e
  · obtain ⟨b1, b2⟩ := home_back h v
    rw [b1, b2] at e
    refine ⟨_, asg_pl (call_of ar e), ?_⟩
    have K2 := K.set (i := 13) (some (.tup [vD p0, vD d0])) (by decide) (by decide) (by decide) (by decide)
    have g13 : (ds.set 13 (some (.tup [vD p0, vD d0])))[13]? = some (some (.tup [vD p0, vD d0])) := set_get K.len (by decide)
    have g12 : (ds.set 13 (some (.tup [vD p0, vD d0])))[12]? = some (some (qD (hmQ lo hi d0))) := by rw [List.getElem?_set_ne (by decide)]; exact h12
    generalize ds.set 13 (some (.tup [vD p0, vD d0])) = ds2 at *
    refine ifs_no μ (or_ff (lt ds2 g12) (and_of (x := true) (y := false) (cmp_of (v_of g13) non_of (nonD _ _)) (fun _ => same_of (v_of g13) (tup_of (evs_cons (ev_ix (v_of K2.h15) int_of (ry1 μ _ _)) (evs_cons (ev_ix (v_of K2.h15) int_of (ry2 μ _ _)) evs_nil)) (by simp)) ?_) (fun z => by cases z)))
    rw [dep_tup, List.all_cons, List.all_cons, dep_v, dep_v]
    rfl
  · refine ⟨_, asg_pl (call_of ar e), ?_⟩
    have g13 : (ds.set 13 (some .non))[13]? = some (some .non) := set_get K.len (by decide)
    have g12 : (ds.set 13 (some .non))[12]? = some (some (qD (hmQ lo hi d0))) := by rw [List.getElem?_set_ne (by decide)]; exact h12
    exact ifs_no μ (or_ff (lt _ g12) (and_ff (cmp_of (v_of g13) non_of nonN)))
omit h in
theorem v_inj {u v : I3 → Rat} (e : vD u = vD v) : u = v := by
  have q : ∀ {a b : Rat}, qD a = qD b → a = b := fun {a b} e => by
    unfold qD at e
    have e1 := (D.tup.inj e)
    have e2 := List.cons.inj e1
    have e3 := List.cons.inj e2.2
    have n := D.int.inj e2.1
    have d := D.int.inj e3.1
    exact Rat.ext n (by omega)
  unfold vD at e
  have e1 := List.cons.inj (D.tup.inj e)
  have e2 := List.cons.inj e1.2
  have e3 := List.cons.inj e2.2
  funext k
  rcases i3_cases k with rfl | rfl | rfl
  · exact q e1.1
  · exact q e2.1
  · exact q e3.1
theorem part_ok (μ : Cells) (K : Kt ds lo hi p0 d0 m) (h12 : ds[12]? = some (some (qD (hmQ lo hi d0)))) {part : Nat} (p2 : 2 ≤ part) (p7 : part ≤ 7) (h14 : ds[14]? = some (some (.int (part : Int)))) : ∃ y, execs (T 99) W s_1_19b (pl ds) μ = some (.nx (pl (ds.set 20 (some y))) μ) := by
  haveI := hm_sz h
  have hp := (home_facts h).1
  have hq : (0 : Rat) < (part : Rat) := by exact_mod_cast (by omega : 0 < part)
  have sp : Sz 12 (part : Rat) := by
    have : ((part : Nat) : Rat) = (((part : Nat) : Int) : Rat) := rfl
    rw [this]
    exact sz_int (k := 11) (by unfold Sm; omega)
  have qe : qD (part : Rat) = .tup [.int (part : Int), .int 1] := by
    have : ((part : Nat) : Rat) = (((part : Nat) : Int) : Rat) := rfl
    rw [this]
    unfold qD
    rw [Rat.num_intCast, Rat.den_intCast]
    rfl
  have tp : ev (T 99) (.tup (.cons (.var 14) (.cons (.int 1) .nil))) (pl ds) μ = some (qD (part : Rat), μ) := by
    rw [qe]
    exact tup_of (evs_cons (v_of h14) (evs_cons int_of evs_nil)) (by simp)
  have dv := ldiv_at (n := 96) (x := hmQ lo hi d0) (y := (part : Rat)) μ (by decide) (by decide) (Dd.pos hq)
  have tt : (hmQ lo hi d0 / (part : Rat)) * (part : Rat) = hmQ lo hi d0 := by grind
  have st : Sz (154 + 12 + 1) (hmQ lo hi d0 / (part : Rat)) := inferInstance
  have t0 : 0 ≤ hmQ lo hi d0 / (part : Rat) := le_div hq (by grind)
  generalize hmQ lo hi d0 / (part : Rat) = t at *
  have ar : evs (T 99) (.cons (.var 4) (.cons (.var 15) (.cons (.call 81 (.cons (.var 12) (.cons (.tup (.cons (.var 14) (.cons (.int 1) .nil))) .nil))) .nil))) (pl ds) μ = some ([boxD lo hi, rayD p0 d0, qD t], μ) := evs_cons (v_of K.h4) (evs_cons (v_of K.h15) (evs_cons (call_of (evs_cons (v_of h12) (evs_cons tp evs_nil)) dv) evs_nil))
  rcases lat_at (n := 94) (time := t) μ h (b := 154 + 12 + 1) (by decide) t0 with ⟨nn, v, e⟩ | e
  · refine ⟨.tup [vD (PP lo hi p0 d0 nn t), vD (DD d0 nn)], seq_nx (asg_pl (call_of ar e)) (seq_nx (ρ1 := pl (ds.set 20 (some (.tup [vD (PP lo hi p0 d0 nn t), vD (DD d0 nn)])))) (μ1 := μ) ?_ rfl)⟩
    have K2 := K.set (i := 20) (some (.tup [vD (PP lo hi p0 d0 nn t), vD (DD d0 nn)])) (by decide) (by decide) (by decide) (by decide)
    have g20 : (ds.set 20 (some (.tup [vD (PP lo hi p0 d0 nn t), vD (DD d0 nn)])))[20]? = some (some (.tup [vD (PP lo hi p0 d0 nn t), vD (DD d0 nn)])) := set_get K.len (by decide)
    generalize ds.set 20 (some (.tup [vD (PP lo hi p0 d0 nn t), vD (DD d0 nn)])) = ds2 at *
    obtain ⟨b, b1, b2⟩ := lk_ex (.tup [vD (PP lo hi p0 d0 nn t), vD (DD d0 nn)]) (.tup [vD p0, vD d0])
      (by rw [dep_tup, List.all_cons, List.all_cons, dep_v, dep_v]; rfl) (by rw [dep_tup, List.all_cons, List.all_cons, dep_v, dep_v]; rfl)
    have bf : b = false := by
      cases b with
      | false => rfl
      | true =>
        have e1 := List.cons.inj (D.tup.inj (b1.mp rfl))
        have e2 := List.cons.inj e1.2
        exact absurd ⟨v_inj e1.1, v_inj e2.1⟩ (early_no h (nn := nn) p2 tt)
    rw [bf] at b2
    exact ifs_no μ (and_of (x := true) (y := false) (cmp_of (v_of g20) non_of (nonD _ _)) (fun _ => call_of (evs_cons (v_of g20) (evs_cons (tup_of (evs_cons (ev_ix (v_of K2.h15) int_of (ry1 μ _ _)) (evs_cons (ev_ix (v_of K2.h15) int_of (ry2 μ _ _)) evs_nil)) (by simp)) evs_nil)) (b2 μ)) (fun z => by cases z))
  · refine ⟨.non, seq_nx (asg_pl (call_of ar e)) (seq_nx (ρ1 := pl (ds.set 20 (some .non))) (μ1 := μ) ?_ rfl)⟩
    have g20 : (ds.set 20 (some .non))[20]? = some (some .non) := set_get K.len (by decide)
    exact ifs_no μ (and_ff (cmp_of (v_of g20) non_of nonN))
theorem st119 (μ : Cells) (K : Kt ds lo hi p0 d0 m) (h12 : ds[12]? = some (some (qD (hmQ lo hi d0)))) : ∃ ds', Kt ds' lo hi p0 d0 m ∧ exec (T 99) W s_1_19 (pl ds) μ = some (.nx (pl ds') μ) := by
  obtain ⟨ρ', μ', e1, ds', _, K', _, rfl, rfl⟩ := forF_inv (fun ys ρ μ' => ∃ (ds : List (Option D)), (∀ y ∈ ys, ∃ part : Nat, 2 ≤ part ∧ part ≤ 7 ∧ y = .int (part : Int)) ∧ Kt ds lo hi p0 d0 m ∧ ds[12]? = some (some (qD (hmQ lo hi d0))) ∧ ρ = pl ds ∧ μ' = μ) (tg := .nm 14) (b := fun ρ' μ' => execs (T 99) W s_1_19b ρ' μ') (fun y ys ρ μ' hh => by
    obtain ⟨ds1, hy, K1, g12, rfl, rfl⟩ := hh
    obtain ⟨part, p2, p7, rfl⟩ := hy y List.mem_cons_self
    have K2 := K1.set (i := 14) (some (.int (part : Int))) (by decide) (by decide) (by decide) (by decide)
    have g12' : (ds1.set 14 (some (.int (part : Int))))[12]? = some (some (qD (hmQ lo hi d0))) := by rw [List.getElem?_set_ne (by decide)]; exact g12
    obtain ⟨z, e⟩ := part_ok h μ' K2 g12' p2 p7 (set_get K1.len (by decide))
    refine ⟨pl (ds1.set 14 (some (.int (part : Int)))), _, μ', ?_, e, _, fun y hy' => hy y (List.mem_cons_of_mem _ hy'), K2.set _ (by decide) (by decide) (by decide) (by decide), ?_, rfl, rfl⟩
    · unfold bindT
      simp only [pl_set]
    · rw [List.getElem?_set_ne (by decide)]
      exact g12') [.int 2, .int 3, .int 5, .int 7] (pl ds) μ ⟨ds, by
        intro y hy
        simp at hy
        rcases hy with rfl | rfl | rfl | rfl
        · exact ⟨2, by decide, by decide, rfl⟩
        · exact ⟨3, by decide, by decide, rfl⟩
        · exact ⟨5, by decide, by decide, rfl⟩
        · exact ⟨7, by decide, by decide, rfl⟩, K, h12, rfl, rfl⟩
  exact ⟨ds', K', for_of rfl (itlk_pl _ _) e1⟩
end
end K12

set_option Elab.async false
set_option linter.all false
set_option maxRecDepth 100000
set_option maxHeartbeats 4000000
/-! the law, whole -/
namespace K12
open FM
open L2 (atI)
open PySem (Str sizeLine)
structure K0 (ds : List (Option D)) : Prop where
  len : ds.length = 24
  h1 : ds[1]? = some (some (.cell 0))
theorem K0.set {ds : List (Option D)} (K : K0 ds) {i : Nat} (o : Option D) (n1 : i ≠ 1) : K0 (ds.set i o) :=
  ⟨by rw [List.length_set]; exact K.len, by rw [List.getElem?_set_ne n1]; exact K.h1⟩
theorem turn (is : List Int) (ds : List (Option D)) (Z : K0 ds) (k : Int) (hk : 0 ≤ k) : ∃ (ds' : List (Option D)) (k' : Int), K0 ds' ∧ 0 ≤ k' ∧ execs (T 99) W s_1b (pl ds) [cw is k] = some (.nx (pl ds') [cw is k']) := by
  obtain ⟨lo, hlo, e0⟩ := st10 is ds Z.h1 k hk
  have Z0 := Z.set (i := 3) (some (vD lo)) (by decide)
  have g3 : (ds.set 3 (some (vD lo)))[3]? = some (some (vD lo)) := set_get Z.len (by decide)
  generalize ds.set 3 (some (vD lo)) = ds0 at *
  obtain ⟨hi, hs, e1⟩ := st11 is ds0 Z0.len Z0.h1 hlo g3 (k + 6) (by omega)
  have Z1 := Z0.set (i := 4) (some (boxD lo hi)) (by decide)
  have g4 : (ds0.set 4 (some (boxD lo hi)))[4]? = some (some (boxD lo hi)) := set_get Z0.len (by decide)
  generalize ds0.set 4 (some (boxD lo hi)) = ds1 at *
  obtain ⟨p0, hp, e2⟩ := st12 is ds1 Z1.len Z1.h1 hlo hs g4 (k + 6 + 6) (by omega)
  have Z2 := Z1.set (i := 5) (some (vD p0)) (by decide)
  have g5 : (ds1.set 5 (some (vD p0)))[5]? = some (some (vD p0)) := set_get Z1.len (by decide)
  have g42 : (ds1.set 5 (some (vD p0)))[4]? = some (some (boxD lo hi)) := by rw [List.getElem?_set_ne (by decide)]; exact g4
  generalize ds1.set 5 (some (vD p0)) = ds2 at *
  obtain ⟨d0, m, hd, hz, m1, m7, e3⟩ := st13 is ds2 Z2.h1 g5 (k + 6 + 6 + 3) (by omega)
  have h := dr_of hlo hs hp hd hz
  have K3 : Kt ((ds2.set 15 (some (rayD p0 d0))).set 16 (some (.int (m : Int)))) lo hi p0 d0 m := by
    have z := (Z2.set (i := 15) (some (rayD p0 d0)) (by decide)).set (i := 16) (some (.int (m : Int))) (by decide)
    refine ⟨z.len, z.h1, ?_, ?_, ?_⟩
    · rw [List.getElem?_set_ne (by decide), List.getElem?_set_ne (by decide)]; exact g42
    · rw [List.getElem?_set_ne (by decide)]; exact set_get Z2.len (by decide)
    · exact set_get (by rw [List.length_set]; exact Z2.len) (by decide)
  generalize (ds2.set 15 (some (rayD p0 d0))).set 16 (some (.int (m : Int))) = ds3 at *
  clear hlo hs hp hd hz g3 g4 g5 g42 Z0 Z1 Z2
  have k30 : 0 ≤ k + 6 + 6 + 3 + 7 := by omega
  generalize k + 6 + 6 + 3 + 7 = k3 at *
  have e4 := st14 h m7 K3 [cw is k3]
  have K4 := K3.set (i := 6) (some (.lst ((wL lo hi p0 d0 m).map evD))) (by decide) (by decide) (by decide) (by decide)
  have g6 : (ds3.set 6 (some (.lst ((wL lo hi p0 d0 m).map evD))))[6]? = some (some (.lst ((wL lo hi p0 d0 m).map evD))) := set_get K3.len (by decide)
  generalize ds3.set 6 (some (.lst ((wL lo hi p0 d0 m).map evD))) = ds4 at *
  have e5 := st15 h m7 K4 [cw is k3] g6
  have K5 := K4.set (i := 7) (some (.bl (edB lo hi p0 d0 m))) (by decide) (by decide) (by decide) (by decide)
  have g7 : (ds4.set 7 (some (.bl (edB lo hi p0 d0 m))))[7]? = some (some (.bl (edB lo hi p0 d0 m))) := set_get K4.len (by decide)
  have g65 : (ds4.set 7 (some (.bl (edB lo hi p0 d0 m))))[6]? = some (some (.lst ((wL lo hi p0 d0 m).map evD))) := by rw [List.getElem?_set_ne (by decide)]; exact g6
  generalize ds4.set 7 (some (.bl (edB lo hi p0 d0 m))) = ds5 at *
  have e6 := st16 K5 [cw is k3] g65
  have K6 := K5.set (i := 8) (some (.lst (((wL lo hi p0 d0 m).take m).map evD))) (by decide) (by decide) (by decide) (by decide)
  have g8 : (ds5.set 8 (some (.lst (((wL lo hi p0 d0 m).take m).map evD))))[8]? = some (some (.lst (((wL lo hi p0 d0 m).take m).map evD))) := set_get K5.len (by decide)
  have g76 : (ds5.set 8 (some (.lst (((wL lo hi p0 d0 m).take m).map evD))))[7]? = some (some (.bl (edB lo hi p0 d0 m))) := by rw [List.getElem?_set_ne (by decide)]; exact g7
  generalize ds5.set 8 (some (.lst (((wL lo hi p0 d0 m).take m).map evD))) = ds6 at *
  have e7 := st17 h m7 K6 [cw is k3] g8
  have e8 := st18 h m1 m7 K6 [cw is k3] g8
  have K8 := K6.set (i := 9) (some (.bl (twiceB (tms lo hi p0 d0 m)))) (by decide) (by decide) (by decide) (by decide)
  have g9 : (ds6.set 9 (some (.bl (twiceB (tms lo hi p0 d0 m)))))[9]? = some (some (.bl (twiceB (tms lo hi p0 d0 m)))) := set_get K6.len (by decide)
  have g88 : (ds6.set 9 (some (.bl (twiceB (tms lo hi p0 d0 m)))))[8]? = some (some (.lst (((wL lo hi p0 d0 m).take m).map evD))) := by rw [List.getElem?_set_ne (by decide)]; exact g8
  have g78 : (ds6.set 9 (some (.bl (twiceB (tms lo hi p0 d0 m)))))[7]? = some (some (.bl (edB lo hi p0 d0 m))) := by rw [List.getElem?_set_ne (by decide)]; exact g76
  generalize ds6.set 9 (some (.bl (twiceB (tms lo hi p0 d0 m)))) = ds8 at *
  have e9 := st19 h m7 K8 [cw is k3] g78 g88 g9 m1
  have e10 := st110 h m7 K8 [cw is k3] g9 m1
  have e11 := st111 h m7 K8 [cw is k3] g78 g88
  obtain ⟨ds12, k12, K12, k120, e12⟩ := st112 h is K8 k3 k30
  obtain ⟨x, p, hx, hp, e13⟩ := st113 is K12 k12 k120
  have K13 := (K12.set (i := 18) (some (qD x)) (by decide) (by decide) (by decide) (by decide)).set (i := 19) (some (vD p)) (by decide) (by decide) (by decide) (by decide)
  have g18 : ((ds12.set 18 (some (qD x))).set 19 (some (vD p)))[18]? = some (some (qD x)) := by rw [List.getElem?_set_ne (by decide)]; exact set_get K12.len (by decide)
  have g19 : ((ds12.set 18 (some (qD x))).set 19 (some (vD p)))[19]? = some (some (vD p)) := set_get (by rw [List.length_set]; exact K12.len) (by decide)
  generalize (ds12.set 18 (some (qD x))).set 19 (some (vD p)) = ds13 at *
  have k130 : 0 ≤ k12 + 8 := by omega
  generalize k12 + 8 = k13 at *
  have e14 := st114 h [cw is k13] K13 hp g19
  have K14 := K13.set (i := 11) (some (vD fun j => phi (lo j) (hi j) (p j))) (by decide) (by decide) (by decide) (by decide)
  have g11 : (ds13.set 11 (some (vD fun j => phi (lo j) (hi j) (p j))))[11]? = some (some (vD fun j => phi (lo j) (hi j) (p j))) := set_get K13.len (by decide)
  have g1814 : (ds13.set 11 (some (vD fun j => phi (lo j) (hi j) (p j))))[18]? = some (some (qD x)) := by rw [List.getElem?_set_ne (by decide)]; exact g18
  have g1914 : (ds13.set 11 (some (vD fun j => phi (lo j) (hi j) (p j))))[19]? = some (some (vD p)) := by rw [List.getElem?_set_ne (by decide)]; exact g19
  generalize ds13.set 11 (some (vD fun j => phi (lo j) (hi j) (p j))) = ds14 at *
  have e15 := st115 h [cw is k13] K14 hx hp g1814 g1914 g11
  have e16 := st116 h [cw is k13] K14
  have K16 := K14.set (i := 12) (some (qD (hmQ lo hi d0))) (by decide) (by decide) (by decide) (by decide)
  have g12 : (ds14.set 12 (some (qD (hmQ lo hi d0))))[12]? = some (some (qD (hmQ lo hi d0))) := set_get K14.len (by decide)
  generalize ds14.set 12 (some (qD (hmQ lo hi d0))) = ds16 at *
  obtain ⟨y, e17, e18⟩ := st1178 h [cw is k13] K16 g12
  have K17 := K16.set (i := 13) (some y) (by decide) (by decide) (by decide) (by decide)
  have g1217 : (ds16.set 13 (some y))[12]? = some (some (qD (hmQ lo hi d0))) := by rw [List.getElem?_set_ne (by decide)]; exact g12
  generalize ds16.set 13 (some y) = ds17 at *
  obtain ⟨ds19, K19, e19⟩ := st119 h [cw is k13] K17 g1217
  refine ⟨ds19, k13, ⟨K19.len, K19.h1⟩, k130, ?_⟩
  exact seq_nx e0 (seq_nx e1 (seq_nx e2 (seq_nx e3 (seq_nx e4 (seq_nx e5 (seq_nx e6 (seq_nx e7 (seq_nx e8 (seq_nx e9 (seq_nx e10 (seq_nx e11 (seq_nx e12 (seq_nx e13 (seq_nx e14 (seq_nx e15 (seq_nx e16 (seq_nx e17 (seq_nx e18 (seq_nx e19 rfl)))))))))))))))))))
theorem loop (is : List Int) (ds : List (Option D)) (Z : K0 ds) : ∃ (ds' : List (Option D)) (k' : Int), exec (T 99) W s_1 (pl ds) [cw is 0] = some (.nx (pl ds') [cw is k']) := by
  obtain ⟨ρ', μ', e1, ds', k', K', k0, rfl, rfl⟩ := forF_inv (fun _ ρ μ => ∃ (ds : List (Option D)) (k : Int), K0 ds ∧ 0 ≤ k ∧ ρ = pl ds ∧ μ = [cw is k]) (tg := .nm 2) (b := fun ρ' μ' => execs (T 99) W s_1b ρ' μ') (fun y ys ρ μ hh => by
    obtain ⟨ds1, k1, K1, k10, rfl, rfl⟩ := hh
    obtain ⟨ds2, k2, K2, k20, e⟩ := turn is (ds1.set 2 (some y)) (K1.set _ (by decide)) k1 k10
    refine ⟨pl (ds1.set 2 (some y)), pl ds2, [cw is k2], ?_, e, ds2, k2, K2, k20, rfl, rfl⟩
    unfold bindT
    simp only [pl_set]) (rngD 0 4) (pl ds) [cw is 0] ⟨ds, 0, Z, by decide, rfl, rfl⟩
  exact ⟨ds', k', for_of (evi_rng (n := 4) rfl (by decide)) (itlk_pl _ _) e1⟩
def E0 (s : D) : List (Option D) := some s :: List.replicate 23 none
theorem start (is : List Int) (s : D) (hd : T 99 72 [s, .int 300] [] = some (.lst (is.map D.int), [])) : exec (T 99) W s_0 (pl (E0 s)) [] = some (.nx (pl ((E0 s).set 1 (some (.cell 0)))) [cw is 0]) := by
  have g : (E0 s)[0]? = some (some s) := rfl
  generalize E0 s = es at *
  refine asg_pl ?_
  generalize hq : is.map D.int = q at *
  unfold ev
  rw [lks_pl]
  simp [FM.ev, FM.evs, pl_get, g, hd, andThen_some', lks_pl, Sl.d]
  exact ⟨by decide, by subst hq; rfl⟩
theorem body_ok (is : List Int) (s : D) (hd : T 99 72 [s, .int 300] [] = some (.lst (is.map D.int), [])) : ∃ k' : Int, execs (T 99) W sb (pl (E0 s)) [] = some (.rt (.bl true) [cw is k']) := by
  have e0 := start is s hd
  have K : K0 ((E0 s).set 1 (some (.cell 0))) := ⟨rfl, rfl⟩
  generalize (E0 s).set 1 (some (.cell 0)) = es at *
  obtain ⟨ds', k', e1⟩ := loop is es K
  exact ⟨k', seq_nx e0 (seq_nx e1 (seq_rt (ret_of rfl rfl)))⟩
theorem run_law (is : List Int) (s : D) (hd : T 99 72 [s, .int 300] [] = some (.lst (is.map D.int), [])) : ∃ k' : Int, runFn (T 99) W d_law.fn [s] [] = some (.bl true, [cw is k']) := by
  obtain ⟨k', e⟩ := body_ok is s hd
  rw [← law_pieces] at e
  exact ⟨k', run_plk rfl (Nat.le_of_ble_eq_true rfl) e⟩
theorem law_ok (ns : List Int) (h : ns.length ≤ 63) : ∃ μ, call (tabOf defs) W 100 lawNo [.lst (ns.map D.int)] [] = some (.bl true, μ) := by
  obtain ⟨is, hd⟩ := draws_at 98 ns h []
  generalize D.lst (ns.map D.int) = s at *
  obtain ⟨k', e⟩ := run_law is s hd
  exact ⟨[cw is k'], (call_at (d := d_law) (n := 99) (f := lawNo) rfl _ _).trans e⟩
end K12

set_option Elab.async false
set_option linter.all false
set_option maxRecDepth 100000
set_option maxHeartbeats 0
/-! the head: defs and the constant -/
namespace K12
open PySem PySem.Spec PyProof.Rows FM L2
def dd (d : FD) : He.DefD := ⟨(d.name, none), d.name, d.name, defArgs d.st, defBody d.st, defScope d.st, [], []⟩
def fn : List He.DefD := defs.map dd
def fa : List He.Fa := (defs.map fun d => He.Fa.glo d.name) ++ bnames.map He.Fa.free ++ cons.map fun c => He.Fa.glo c.1
def exB (K : PySem.W.Frag) : Bool := cons.all fun c => He.tupB K c.1 (c.2.map He.Dv.str)
abbrev R : PySem.W.OpenRow := PySem.W.OpenLaw.row PySem.Challenge.rw_firstmet_k12_boxes_of_mirrors
/-- the hook: defs, names, and constants -/
def hookJ (n : Nat) (fa : List He.Fa) (fn : List He.DefD) (ex : PySem.W.Frag → Bool) : PySem.W.Hook where
  α := He.AlD × Bool
  obs := fun s => (He.obsDG n fa fn s.heap.get?, ex (He.frG s.heap.get? (He.asD s.heap.get? n)))
  val := fun _ => (He.valD fn, true)
  says := fun _ h => ∃ K : PySem.W.Frag, K.In h ∧ He.SaysD fa fn K ∧ ex K = true
  of := fun _ _ e => ⟨_, He.frG_in, congrArg (fun z : He.AlD × Bool => z.1) e, congrArg (fun z : He.AlD × Bool => z.2) e⟩
  keeps := fun _ _ _ ⟨K, hK, c⟩ k => ⟨K, PySem.W.Frag.In.keeps hK k, c⟩
abbrev hk : PySem.W.Hook := hookJ 2 fa fn exB
def ob (s : PySem.W.SharedT) : He.AlD × Bool := (He.obsDG 2 fa fn (HandSHeadRun.getT s), exB (He.frG (HandSHeadRun.getT s) (He.asD (HandSHeadRun.getT s) 2)))
theorem ob_eq (s : PySem.W.SharedT) : ob s = hk.obs s.abs := by
  have e : HandSHeadRun.getT s = s.abs.heap.get? := funext (HandSHeadRun.getT_eq s)
  unfold ob
  rw [e]
  rfl
def loose : List Str := (defs.map FD.name).filter (· ≠ ("law" : Str)) ++ [("__name__" : Str), ("JOINS" : Str)]
theorem run (w : World) : HandSHeadRun.RunEq R (PySem.W.view R.prog [lawAt]) hk ob 4000 loose w := by
  intro os
  kernel_rfl
theorem lawHead {w : World} {K : PySem.W.Frag} {mg : Str → Option Value} {h : Heap} (X : K.In h) (G : h.Ns mainGlobals mg) (c : He.SaysD fa fn K) (ex : exB K = true) :
    (∀ x ∈ bnames, mg x = none) ∧ (∀ c ∈ cons, ∃ a, mg c.1 = some (.ref a) ∧ ∀ H, SqT K H a (c.2.map V.str)) ∧ ∀ d ∈ defs, mg d.name = some (.ref (He.fAd K (d.name, none))) ∧ ∃ fd, FunD K d.name d.name (defArgs d.st) (defBody d.st) (defScope d.st) [] [] (He.fAd K (d.name, none)) fd := by
  refine ⟨fun x hx => ?_, fun y hy => ?_, fun d hd => ⟨?_, ?_⟩⟩
  · have m : He.Fa.free x ∈ fa := List.mem_append_left _ (List.mem_append_right _ (List.mem_map.mpr ⟨x, hx, rfl⟩))
    obtain ⟨i, hi⟩ := List.mem_iff_getElem?.mp m
    exact He.free_ok X G (c.fact i hi)
  · have m : He.Fa.glo y.1 ∈ fa := List.mem_append_right _ (List.mem_map.mpr ⟨y, hy, rfl⟩)
    obtain ⟨i, hi⟩ := List.mem_iff_getElem?.mp m
    refine ⟨He.ga K y.1, He.glo_ok X G (c.fact i hi), fun H => ?_⟩
    have z := He.tupB_ok (List.all_eq_true.mp ex y hy) H
    rw [List.map_map] at z
    exact z
  · have m : He.Fa.glo d.name ∈ fa := List.mem_append_left _ (List.mem_append_left _ (List.mem_map.mpr ⟨d, hd, rfl⟩))
    obtain ⟨i, hi⟩ := List.mem_iff_getElem?.mp m
    exact He.glo_ok X G (c.fact i hi)
  · obtain ⟨i, hi⟩ := List.mem_iff_getElem?.mp hd
    have hi' : fn[i]? = some (dd d) := by
      unfold fn
      rw [List.getElem?_map, hi]
      rfl
    exact c.def_ i hi'
end K12

set_option Elab.async false
set_option linter.all false
set_option maxRecDepth 100000
set_option maxHeartbeats 0
namespace K12
def lv : Nat := 100
end K12
open PySem PySem.W PySem.Calls PyProof.Rows
set_option maxRecDepth 100000 in
set_option maxHeartbeats 0 in
theorem PySem.Challenge.cw_firstmet_k12_boxes_of_mirrors_holds : PySem.Challenge.rw_firstmet_k12_boxes_of_mirrors.Holds := by
  w_on; o_law
  refine HandSHeadRun.head_any (r := OpenLaw.row PySem.Challenge.rw_firstmet_k12_boxes_of_mirrors) (q := view (OpenLaw.row PySem.Challenge.rw_firstmet_k12_boxes_of_mirrors).prog [K12.lawAt]) (H := K12.hk) (ob := K12.ob) (M := 4000) (loose := K12.loose) (d := HandSHeadRun.topDef (OpenLaw.row PySem.Challenge.rw_firstmet_k12_boxes_of_mirrors).prog K12.lawAt) (kwd := []) K12.ob_eq
    (by kernel_rfl) (fun s => by kernel_rfl) K12.run (by kernel_rfl) (by kernel_rfl) (by kernel_rfl) (by rfl) (by first | assumption | decide +kernel) (by decide +kernel) ⟨rfl, rfl, rfl, rfl, rfl, by decide +kernel⟩ ?hw ?hc
  case hw => w_witness2
  case hc =>
    refine L2.walk_ofE (l := PySem.Challenge.rw_firstmet_k12_boxes_of_mirrors) (n := 63) (k := K12.lv) (x := "script") (CX := L2.CX0) rfl (by decide) (by kernel_rfl) ⟨rfl, by decide, by decide⟩ ?F (fun _ _ _ _ z => z)
    intro w mg fa h Y G hmg0
    obtain ⟨K, KX, c, ex⟩ := Y
    have hmg : mg ("law" : PySem.Str) = some (.ref fa) := by
      have e : (HandSHeadRun.topDef (OpenLaw.row PySem.Challenge.rw_firstmet_k12_boxes_of_mirrors).prog K12.lawAt).name = ("law" : PySem.Str) := by kernel_rfl
      rw [← e]
      exact hmg0
    obtain ⟨bn, cn, hd⟩ := K12.lawHead (w := w) KX G c ex
    have chk : ∀ d ∈ K12.defs, d.chk K12.fs = true := fun d hm => List.all_eq_true.mp K12.chk_all d hm
    have hm : K12.d_law ∈ K12.defs := List.mem_of_getElem? (i := K12.lawNo) rfl
    obtain ⟨m1, fd, m2⟩ := hd _ hm
    have e : fa = He.fAd K (("law" : PySem.Str), none) := by
      have z := hmg.symm.trans m1
      cases z
      rfl
    subst e
    refine ⟨K, fd, FM.spF K 1 (FM.runFn (FM.call (FM.tabOf K12.defs) FM.W (K12.lv - 1)) FM.W K12.d_law.fn), KX, fun s u => ?_, fun H a ns hl _ hS => ?_, fun base b1 b2 => ?_⟩
    · exact m2.bindsA (ps := [("script" : PySem.Str)]) (FM.bindsF (fs := K12.fs) (chk _ hm) m2) s [u] rfl
    · obtain ⟨μ, hμ⟩ := K12.law_ok ns hl
      exact FM.law_sp hS hμ
    · exact FM.fd_ok (n := K12.lv - 1) (chk _ hm) m2 bn cn (FM.all_ok rfl chk bn cn (fun d hd' => ⟨_, (hd d hd').2.choose, (hd d hd').1, (hd d hd').2.choose_spec⟩) (K12.lv - 1))

